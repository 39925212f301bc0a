import PyProof.Rows.All
import Wide.All
import OpenK.AllK
import Wide.FinOn
import HandS.ForMost
import HandS.ForExc
import HandS.IsInst
import HandS.TupAny
import HandS.TupMul
import HandS.Walk
import HandS.Wide
import HandS.Flow
import HandS.Deep
import KE.GoesEnum
import HandS.Text
import HandS.Style
import HandS.Iter
import HandS.SortInts
import HandS.Conv
import PySem.Challenge.RW_everystart_k03_what_dice_are
set_option Elab.async false
set_option linter.all false
set_option maxRecDepth 100000
set_option maxHeartbeats 4000000
/-! Co: a small core language, what it does over plain data. -/
namespace Co
open PySem L2

/-- plain values: tuples as they are, what may change by its number in the store -/
inductive W where
  | non | bl (b : Bool) | int (i : Int) | str (x : Str) | tup (ws : List W) | ref (n : Nat)
/-- what stands in the store: a list, a dict with numbers and texts as keys (false: to be read alone) -/
inductive MO where
  | lst (rw : Bool) (ws : List W)
  | dic (rw : Bool) (kvs : List (Key × W))
abbrev Sto := List MO
abbrev En := List (Option W)
inductive R (α : Type) where
  | ok (a : α) (S : Sto)
  | ex (c : Nat) (fs : List W) (S : Sto)
abbrev Rs (α : Type) := Option (R α)
def Rs.bind {α β : Type} (r : Rs α) (f : α → Sto → Rs β) : Rs β :=
  match r with
  | some (.ok a S) => f a S
  | some (.ex c fs S) => some (.ex c fs S)
  | none => none
@[simp] theorem Rs.bind_ok {α β : Type} (a : α) (S : Sto) (f : α → Sto → Rs β) : Rs.bind (some (.ok a S)) f = f a S := rfl
@[simp] theorem Rs.bind_ex {α β : Type} (c : Nat) (fs : List W) (S : Sto) (f : α → Sto → Rs β) : Rs.bind (some (.ex c fs S) : Rs α) f = some (.ex c fs S) := rfl
@[simp] theorem Rs.bind_none {α β : Type} (f : α → Sto → Rs β) : Rs.bind (none : Rs α) f = none := rfl

inductive Op2 where | add | sub | mul | fdiv | mod | pow
  deriving DecidableEq
inductive Cm where | eq | ne | lt | le | gt | ge | isN | notN | in_ | nin
  deriving DecidableEq
inductive Ty where | int | bool | str | tuple | list | dict
  deriving DecidableEq
inductive Blt where | len | int | tuple | list | repr | abs | max2 | min2 | str | sum | rev | join | split | sorted | lrng | isi (t : Ty)
  deriving DecidableEq
inductive Mt where | append | pop | popAt | extend | get1
  deriving DecidableEq
inductive Tg where
  | name (i : Nat)
  | tup (ts : List Tg)

mutual
inductive CE where
  | var (i : Nat)
  | cst (w : W)
  | glo (g : Nat)
  | bin (o : Op2) (a b : CE)
  | neg (a : CE)
  | not_ (a : CE)
  | bool (k : Bool) (es : CEs)
  | cmp (c : Cm) (a b : CE)
  | chain (c d : Cm) (a b e : CE)
  | ife (c a b : CE)
  | tup (es : CEs)
  | lst (es : CEs)
  | dct (kvs : CKs)
  | idx (a b : CE)
  | slc (a : CE) (lo hi : CO)
  | call (f : Nat) (es : CEs) (ks : CEs) (perm : List Nat)
  | blt (f : Blt) (es : CEs)
  | isi (t : Ty) (a : CE)
  | mth (m : Mt) (o : CE) (es : CEs)
  | comp (e : CE) (tg : Tg) (it : CI) (c : CO) (own : List Nat)
inductive CEs where
  | nil
  | cons (e : CE) (es : CEs)
inductive CO where
  | none
  | some (e : CE)
inductive CKs where
  | nil
  | cons (k v : CE) (r : CKs)
inductive CI where
  | seq (e : CE)
  | rng1 (e : CE)
  | rng2 (a b : CE)
  | enm (e : CE)
  | zip (a b : CE)
end
mutual
inductive CS where
  | asg (t : Tg) (e : CE)
  | setIx (o i e : CE)
  | expr (e : CE)
  | doc
  | ret (e : CE)
  | retN
  | ife (c : CE) (a b : CSs)
  | whil (c : CE) (a : CSs)
  | for_ (t : Tg) (it : CI) (a : CSs)
  | pass
  | brk
  | cont
  | stuck
inductive CSs where
  | nil
  | cons (s : CS) (r : CSs)
end

/-! ### data -/
/-- what a value reads as -/
def readD : Nat → Sto → W → Option PyData
  | 0, _, _ => none
  | _ + 1, _, .non => some .none
  | _ + 1, _, .bl b => some (.bool b)
  | _ + 1, _, .int i => some (.int i)
  | _ + 1, _, .str x => some (.str x)
  | n + 1, S, .tup ws => (ws.mapM (readD n S)).map .tuple
  | n + 1, S, .ref k => match S[k]? with
    | some (.lst _ ws) => (ws.mapM (readD n S)).map .list
    | some (.dic _ kvs) => (kvs.mapM fun kv => (readD n S kv.2).map fun d => ((match kv.1 with | .inl i => PyData.int i | .inr x => PyData.str x), d)).map .dict
    | none => none
def reprW (S : Sto) (w : W) : Option Str :=
  match readD 60 S w with
  | some d => if d.showable = true ∧ d.shown.length ≤ sizeLine ∧ d.depth ≤ 60 then some d.shown else none
  | none => none
/-- == of data -/
def eqD (S : Sto) (x y : W) : Option Bool :=
  match readD 60 S x, readD 60 S y with
  | some d, some e => if SeqAt.shaped d = true ∧ SeqAt.shaped e = true then some (PyData.eqv d e) else none
  | _, _ => none
/-- == -/
def eqW (S : Sto) : W → W → Option Bool
  | .int i, .int j => some (decide (i = j))
  | .str i, .str j => some (decide (i = j))
  | .bl i, .bl j => some (decide (i = j))
  | .non, .non => some true
  | x, y => eqD S x y
def truW (S : Sto) : W → Option Bool
  | .non => some false
  | .bl b => some b
  | .int i => some (i != 0)
  | .str x => if x.length ≤ sizeLine then some ((x.length : Int) != 0) else none
  | .tup ws => some !ws.isEmpty
  | .ref n => match S[n]? with
    | some (.lst _ ws) => some !ws.isEmpty
    | some (.dic true kvs) => some !kvs.isEmpty
    | _ => none
def flatW : W → Bool
  | .non => true
  | .bl _ => true
  | .int _ => true
  | .str _ => true
  | _ => false
def eqF : W → W → Bool
  | .non, .non => true
  | .bl a, .bl b => a == b
  | .bl a, .int b => (if a then 1 else 0) == b
  | .int a, .bl b => a == (if b then 1 else 0)
  | .int a, .int b => a == b
  | .str a, .str b => a == b
  | _, _ => false
/-- the items of a list or a tuple -/
def itemsW (S : Sto) : W → Option (List W)
  | .tup ws => some ws
  | .ref n => match S[n]? with
    | some (.lst _ ws) => some ws
    | _ => none
  | _ => none
def okW {α : Type} (a : α) (S : Sto) : Rs α := some (.ok a S)
@[simp] theorem okW_eq {α : Type} (a : α) (S : Sto) : okW a S = some (.ok a S) := rfl
def liftW {α : Type} (o : Option α) (S : Sto) : Rs α := o.map fun a => .ok a S
@[simp] theorem liftW_some {α : Type} (a : α) (S : Sto) : liftW (some a) S = some (.ok a S) := rfl
@[simp] theorem liftW_none {α : Type} (S : Sto) : liftW (none : Option α) S = none := rfl
def newL (ws : List W) (S : Sto) : Rs W := okW (.ref S.length) (S ++ [.lst true ws])
/-- a product that is small enough to be told -/
def MulOk (i j : Int) : Prop := CMul i j ∨ CMulW i j
instance (i j : Int) : Decidable (CMul i j) := by unfold CMul; infer_instance
instance (i j : Int) : Decidable (CMulW i j) := by unfold CMulW; infer_instance
instance (i j : Int) : Decidable (CDivW i j) := by unfold CDivW; infer_instance
instance (i j : Int) : Decidable (CDivN i j) := by unfold CDivN; infer_instance
instance (i j : Int) : Decidable (CPow i j) := by unfold CPow; infer_instance
instance (i j : Int) : Decidable (MulOk i j) := by unfold MulOk; infer_instance
def op2 (S : Sto) : Op2 → W → W → Rs W
  | .add, .int i, .int j => okW (.int (i + j)) S
  | .add, .str a, .str b => if a.length + b.length ≤ sizeLine then okW (.str (a ++ b)) S else none
  | .add, .tup a, .tup b => if a.length + b.length ≤ sizeLine then okW (.tup (a ++ b)) S else none
  | .add, .ref m, .ref n => match S[m]?, S[n]? with
    | some (.lst true a), some (.lst true b) => if a.length + b.length ≤ sizeLine then newL (a ++ b) S else none
    | _, _ => none
  | .sub, .int i, .int j => okW (.int (i - j)) S
  | .mul, .int i, .int j => if MulOk i j then okW (.int (i * j)) S else none
  | .mul, .str a, .int k => if 1 ≤ k ∧ k ≤ 1000 ∧ a.length ≤ 1000 then okW (.str (Txt.mul a k)) S else none
  | .mul, .ref m, .int k => match S[m]? with
    | some (.lst true a) => if -(2 ^ 63) ≤ k ∧ k < 2 ^ 63 ∧ a.length * k.toNat ≤ sizeLine then newL (List.replicate k.toNat a).flatten S else none
    | _ => none
  | .mul, .tup a, .int k => if a ≠ [] ∧ 2 ≤ k ∧ k ≤ 1000 ∧ a.length ≤ 1000 then okW (.tup (List.replicate k.toNat a).flatten) S else none
  | .fdiv, .int i, .int j => if CDivN i j ∨ CDivW i j then okW (.int (i.fdiv j)) S else none
  | .mod, .int i, .int j => if j ≠ 0 then okW (.int (i.fmod j)) S else none
  | .pow, .int i, .int j => if CPow i j then okW (.int (i ^ j.toNat)) S else none
  | _, _, _ => none
def cmpW (S : Sto) : Cm → W → W → Option Bool
  | .eq, x, y => eqW S x y
  | .ne, x, y => (eqW S x y).map (!·)
  | .lt, .int i, .int j => some (decide (i < j))
  | .le, .int i, .int j => some (decide (i ≤ j))
  | .gt, .int i, .int j => some (decide (j < i))
  | .ge, .int i, .int j => some (decide (j ≤ i))
  | .lt, .str i, .str j => some (decide (i.cps.toList < j.cps.toList))
  | .le, .str i, .str j => some (!decide (j.cps.toList < i.cps.toList))
  | .gt, .str i, .str j => some (decide (j.cps.toList < i.cps.toList))
  | .ge, .str i, .str j => some (!decide (i.cps.toList < j.cps.toList))
  | .isN, x, .non => some (match x with | .non => true | _ => false)
  | .notN, x, .non => some (match x with | .non => false | _ => true)
  | .in_, .str i, .str j => some (!(Builtin.Str.occurrences j i 0 j.length 1).isEmpty)
  | .nin, .str i, .str j => some (!(!(Builtin.Str.occurrences j i 0 j.length 1).isEmpty))
  | .in_, x, y => match itemsW S y with
    | some ws => if flatW x = true ∧ ws.all flatW = true then some (ws.any fun y => eqF y x) else none
    | none => none
  | .nin, x, y => match itemsW S y with
    | some ws => if flatW x = true ∧ ws.all flatW = true then some (!ws.any fun y => eqF y x) else none
    | none => none
  | _, _, _ => none
def keyW : W → Option Key
  | .int i => some (.inl i)
  | .str x => some (.inr x)
  | _ => none
def valD (kvs : List (Key × W)) (k : Key) : Option W := (kvs.find? fun kv => decide (kv.1 = k)).map (·.2)
def putD (kvs : List (Key × W)) (k : Key) (v : W) : List (Key × W) :=
  if (kvs.any fun kv => decide (kv.1 = k)) = true then kvs.map (fun kv => if kv.1 = k then (kv.1, v) else kv) else kvs ++ [(k, v)]
def mergeD (kvs more : List (Key × W)) : List (Key × W) := more.foldl (fun acc kv => putD acc kv.1 kv.2) kvs
def ixW (S : Sto) : W → W → Option W
  | .tup ws, .int i => atI ws i
  | .str z, .int i => if z.length ≤ sizeLine then (atI z.cps.toList i).map fun c => .str ⟨#[c]⟩ else none
  | .ref n, k => match S[n]? with
    | some (.lst _ ws) => match k with
      | .int i => atI ws i
      | _ => none
    | some (.dic _ kvs) => match keyW k with
      | some k => valD kvs k
      | none => none
    | none => none
  | _, _ => none
def cutW {α : Type} (xs : List α) (lo hi : Option Int) : List α := (xs.drop (HT.sIx xs.length 0 lo)).take (HT.sIx xs.length xs.length hi - HT.sIx xs.length 0 lo)
def slW (S : Sto) (lo hi : Option Int) : W → Rs W
  | .tup ws => okW (.tup (cutW ws lo hi)) S
  | .str z => if z.length ≤ sizeLine then okW (.str (cutS z lo hi)) S else none
  | .ref n => match S[n]? with
    | some (.lst _ ws) => newL (cutW ws lo hi) S
    | _ => none
  | _ => none
def lenW (S : Sto) : W → Option Nat
  | .str x => if x.length ≤ sizeLine then some x.length else none
  | x => (itemsW S x).map (·.length)
def isT (S : Sto) : W → Ty → Option Bool
  | .non, _ => some false
  | .bl _, t => some (match t with | .bool => true | .int => true | _ => false)
  | .int _, t => some (match t with | .int => true | _ => false)
  | .str _, t => some (match t with | .str => true | _ => false)
  | .tup _, t => some (match t with | .tuple => true | _ => false)
  | .ref n, t => match S[n]? with
    | some (.lst true _) => some (match t with | .list => true | _ => false)
    | some (.dic true _) => some (match t with | .dict => true | _ => false)
    | _ => none
def intsW : List W → Option (List Int)
  | [] => some []
  | .int i :: r => (intsW r).map (i :: ·)
  | _ => none
def rangeW (lo hi : Int) : List W := (List.range (hi - lo).toNat).map fun (k : Nat) => .int (lo + (k : Int))
def strsW : List W → Option (List Str)
  | [] => some []
  | .str x :: r => (strsW r).map (x :: ·)
  | _ => none
def bltW (S : Sto) : Blt → List W → Rs W
  | .len, [x] => liftW ((lenW S x).map fun (n : Nat) => W.int (n : Int)) S
  | .int, [.int i] => okW (.int i) S
  | .int, [.bl k] => okW (.int (if k then 1 else 0)) S
  | .int, [.str a] => match intText? a with
    | some n => if a.length ≤ 640 then okW (.int n) S else none
    | none => none
  | .tuple, [.tup ws] => okW (.tup ws) S
  | .tuple, [.ref n] => match S[n]? with
    | some (.lst _ ws) => okW (.tup ws) S
    | _ => none
  | .list, [x] => match itemsW S x with
    | some ws => newL ws S
    | none => none
  | .repr, [x] => liftW ((reprW S x).map .str) S
  | .abs, [.int i] => okW (.int (if i < 0 then -i else i)) S
  | .max2, [.int i, .int j] => okW (.int (if j > i then j else i)) S
  | .min2, [.int i, .int j] => okW (.int (if j < i then j else i)) S
  | .str, [.int i] => if i.natAbs.log2 < 1920 then okW (.str (toString i)) S else none
  | .sum, [.ref n] => match S[n]? with
    | some (.lst _ ws) => liftW ((intsW ws).map fun l => .int l.sum) S
    | _ => none
  | .rev, [.tup ws] => okW (.tup ws.reverse) S
  | .rev, [.ref n] => match S[n]? with
    | some (.lst _ ws) => newL ws.reverse S
    | _ => none
  | .sorted, [.ref n] => match S[n]? with
    | some (.lst _ ws) => match intsW ws with
      | some l => newL ((l.mergeSort fun a b => decide (a ≤ b)).map .int) S
      | none => none
    | _ => none
  | .lrng, [.int j] => if -(2 ^ 62) ≤ j ∧ j < 2 ^ 62 ∧ j.toNat ≤ 2 ^ 24 then newL (rangeW 0 j) S else none
  | .join, [.str a, w] => match (itemsW S w).bind strsW with
    | some ys => if (ys.map (·.length)).sum + ys.length * a.length ≤ 16777216 then okW (.str (Txt.join a ys)) S else none
    | none => none
  | .split, [.str a, .str b] => if (b.length == 0) = false ∧ a.length + 2 ≤ sizeLine then newL ((Txt.split a b).map .str) S else none
  | .isi t, [x] => liftW ((isT S x t).map .bl) S
  | _, _ => none
def mthW (S : Sto) : Mt → W → List W → Rs W
  | .append, .ref n, [x] => match S[n]? with
    | some (.lst true ws) => if ws.length < sizeLine then okW .non (S.set n (.lst true (ws ++ [x]))) else none
    | _ => none
  | .pop, .ref n, [] => match S[n]? with
    | some (.lst true ws) => match ws[ws.length - 1]? with
      | some y => okW y (S.set n (.lst true ws.dropLast))
      | none => none
    | _ => none
  | .popAt, .ref n, [.int i] => match S[n]? with
    | some (.lst true ws) => if -(2 ^ 63) ≤ i ∧ i < 2 ^ 63 then (match seqIndex? i ws.length with
      | some k => (match ws[k]? with
        | some y => okW y (S.set n (.lst true (ws.eraseIdx k)))
        | none => none)
      | none => none) else none
    | _ => none
  | .extend, .ref n, [.ref m] => match S[n]?, S[m]? with
    | some (.lst true a), some (.lst true b) => if a.length + b.length ≤ sizeLine then okW .non (S.set n (.lst true (a ++ b))) else none
    | _, _ => none
  | .get1, .ref n, [k] => match S[n]? with
    | some (.dic _ kvs) => (match keyW k with
      | some k => okW ((valD kvs k).getD .non) S
      | none => none)
    | _ => none
  | _, _, _ => none
/-- the receiver's kind -/
def recv (S : Sto) : Mt → W → Bool
  | .get1, .ref n => match S[n]? with
    | some (.dic _ _) => true
    | _ => false
  | _, .ref n => match S[n]? with
    | some (.lst _ _) => true
    | _ => false
  | _, _ => false
def setW (S : Sto) : W → W → W → Option Sto
  | .ref n, k, v => match S[n]? with
    | some (.lst true ws) => (match k with
      | .int i => (ixN ws.length i).map fun j => S.set n (.lst true (ws.set j v))
      | _ => none)
    | some (.dic true kvs) => (match keyW k with
      | some k => if kvs.length < sizeLine then some (S.set n (.dic true (putD kvs k v))) else none
      | none => none)
    | _ => none
  | _, _, _ => none
/-- what is walked: its items, and the list that has to stay -/
structure Itr where
  items : List W
  held : List (Nat × List W)
def Itr.stays (j : Itr) (S : Sto) : Prop := ∀ n ws, (n, ws) ∈ j.held → ∃ rw, S[n]? = some (.lst rw ws)
def pairsW (ws : List W) : List W := ws.mapIdx fun i w => .tup [.int (i : Nat), w]
mutual
def putT : Tg → W → En → Option En
  | .name i, w, ρ => if i < ρ.length then some (ρ.set i (some w)) else none
  | .tup ts, .tup ws, ρ => putTs ts ws ρ
  | .tup _, _, _ => none
def putTs : List Tg → List W → En → Option En
  | [], [], ρ => some ρ
  | t :: ts, w :: ws, ρ => (putT t w ρ).bind fun ρ1 => putTs ts ws ρ1
  | _, _, _ => none
end

/-! ### what the core does: G: the constants of the module; O: the defs -/
abbrev Orc := Nat → List W → Sto → Rs W
def wipeE (ρ : En) : List Nat → En
  | [] => ρ
  | v :: vs => (wipeE ρ vs).set v none
/-- where nothing may be thrown -/
def noX {α : Type} : Rs α → Rs α
  | some (.ok a S) => some (.ok a S)
  | _ => none
@[simp] theorem noX_ok {α : Type} (a : α) (S : Sto) : noX (some (.ok a S)) = some (.ok a S) := rfl
@[simp] theorem noX_none {α : Type} : noX (none : Rs α) = none := rfl
open Classical in
/-- a comprehension's turns -/
noncomputable def compL (put : W → En → Option En) (cond : En → Sto → Rs Bool) (elt : En → Sto → Rs W) (ρ : En) (stays : Sto → Prop) (D : Nat) : List W → Sto → Rs W
  | [], S => if stays S then okW (.ref D) S else none
  | w :: ws, S => if stays S then (match put w ρ with
    | some ρ1 => (cond ρ1 S).bind fun b S1 => if b = true then (elt ρ1 S1).bind fun y S2 => (match S2[D]? with
        | some (.lst true acc) => if acc.length < sizeLine then compL put cond elt ρ stays D ws (S2.set D (.lst true (acc ++ [y]))) else none
        | _ => none) else compL put cond elt ρ stays D ws S1
    | none => none) else none

section
variable (G : List W) (O : Orc)
mutual
noncomputable def runE : CE → En → Sto → Rs W
  | .var i, ρ, S => match ρ[i]? with
    | some (some w) => okW w S
    | _ => none
  | .cst w, _, S => okW w S
  | .glo g, _, S => liftW G[g]? S
  | .bin o a b, ρ, S => (runE a ρ S).bind fun x S1 => (runE b ρ S1).bind fun y S2 => op2 S2 o x y
  | .neg a, ρ, S => (runE a ρ S).bind fun x S1 => match x with
    | .int i => okW (.int (-i)) S1
    | _ => none
  | .not_ a, ρ, S => (runE a ρ S).bind fun x S1 => liftW ((truW S1 x).map fun b => .bl !b) S1
  | .bool k es, ρ, S => runB k es ρ S
  | .cmp c a b, ρ, S => (runE a ρ S).bind fun x S1 => (runE b ρ S1).bind fun y S2 => liftW ((cmpW S2 c x y).map .bl) S2
  | .chain c d a b e, ρ, S => (runE a ρ S).bind fun x S1 => (runE b ρ S1).bind fun y S2 => match cmpW S2 c x y with
    | some true => (runE e ρ S2).bind fun z S3 => liftW ((cmpW S3 d y z).map .bl) S3
    | some false => okW (.bl false) S2
    | none => none
  | .ife c a b, ρ, S => (runT c ρ S).bind fun k S1 => if k = true then runE a ρ S1 else runE b ρ S1
  | .tup es, ρ, S => (runEs es ρ S).bind fun ws S1 => if ws.length ≤ sizeLine then okW (.tup ws) S1 else none
  | .lst es, ρ, S => (runEs es ρ S).bind fun ws S1 => if ws.length ≤ sizeLine then newL ws S1 else none
  | .dct kvs, ρ, S => (runKs kvs ρ (S ++ [.dic true []])).bind fun ps S1 => match S1[S.length]? with
    | some (.dic true []) => if ps.length ≤ 15 then okW (.ref S.length) (S1.set S.length (.dic true (mergeD [] ps))) else none
    | _ => none
  | .idx a b, ρ, S => (runE a ρ S).bind fun x S1 => (runE b ρ S1).bind fun y S2 => liftW (ixW S2 x y) S2
  | .slc a lo hi, ρ, S => (runE a ρ S).bind fun x S1 => (runO lo ρ S1).bind fun l S2 => (runO hi ρ S2).bind fun h S3 => slW S3 l h x
  | .call f es ks perm, ρ, S => (runEs es ρ S).bind fun xs S1 => (runEs ks ρ S1).bind fun ys S2 => O f (xs ++ perm.filterMap (ys[·]?)) S2
  | .blt f es, ρ, S => (runEs es ρ S).bind fun xs S1 => bltW S1 f xs
  | .isi t a, ρ, S => (runE a ρ S).bind fun x S1 => bltW S1 (.isi t) [x]
  | .mth m o es, ρ, S => (runE o ρ S).bind fun x S1 => if recv S1 m x = true then (runEs es ρ S1).bind fun xs S2 => mthW S2 m x xs else none
  | .comp e tg it c own, ρ, S => (runI it ρ S).bind fun j S1 =>
      compL (putT tg) (fun ρ' S' => noX (runOT c ρ' S')) (fun ρ' S' => noX (runE e ρ' S')) (wipeE ρ own) j.stays S1.length j.items (S1 ++ [.lst true []])
noncomputable def runT : CE → En → Sto → Rs Bool
  | .not_ a, ρ, S => (runT a ρ S).bind fun b S1 => okW (!b) S1
  | .bool k es, ρ, S => runBT k es ρ S
  | .ife c a b, ρ, S => (runT c ρ S).bind fun k S1 => if k = true then runT a ρ S1 else runT b ρ S1
  | .var i, ρ, S => match ρ[i]? with
    | some (some w) => liftW (truW S w) S
    | _ => none
  | .cst w, _, S => liftW (truW S w) S
  | .glo g, _, S => (liftW G[g]? S).bind fun w S1 => liftW (truW S1 w) S1
  | .bin o a b, ρ, S => ((runE a ρ S).bind fun x S1 => (runE b ρ S1).bind fun y S2 => op2 S2 o x y).bind fun w S1 => liftW (truW S1 w) S1
  | .cmp c a b, ρ, S => (runE a ρ S).bind fun x S1 => (runE b ρ S1).bind fun y S2 => liftW (cmpW S2 c x y) S2
  | .chain c d a b e, ρ, S => (runE a ρ S).bind fun x S1 => (runE b ρ S1).bind fun y S2 => match cmpW S2 c x y with
    | some true => (runE e ρ S2).bind fun z S3 => liftW (cmpW S3 d y z) S3
    | some false => okW false S2
    | none => none
  | .tup es, ρ, S => ((runEs es ρ S).bind fun ws S1 => if ws.length ≤ sizeLine then okW (W.tup ws) S1 else none).bind fun w S1 => liftW (truW S1 w) S1
  | .neg a, ρ, S => ((runE a ρ S).bind fun x S1 => match x with
    | .int i => okW (W.int (-i)) S1
    | _ => none).bind fun w S1 => liftW (truW S1 w) S1
  | .lst es, ρ, S => ((runEs es ρ S).bind fun ws S1 => if ws.length ≤ sizeLine then newL ws S1 else none).bind fun w S1 => liftW (truW S1 w) S1
  | .dct kvs, ρ, S => ((runKs kvs ρ (S ++ [.dic true []])).bind fun ps S1 => match S1[S.length]? with
    | some (.dic true []) => if ps.length ≤ 15 then okW (W.ref S.length) (S1.set S.length (.dic true (mergeD [] ps))) else none
    | _ => none).bind fun w S1 => liftW (truW S1 w) S1
  | .slc a lo hi, ρ, S => ((runE a ρ S).bind fun x S1 => (runO lo ρ S1).bind fun l S2 => (runO hi ρ S2).bind fun h S3 => slW S3 l h x).bind fun w S1 => liftW (truW S1 w) S1
  | .comp e tg it c own, ρ, S => ((runI it ρ S).bind fun j S1 =>
      compL (putT tg) (fun ρ' S' => noX (runOT c ρ' S')) (fun ρ' S' => noX (runE e ρ' S')) (wipeE ρ own) j.stays S1.length j.items (S1 ++ [.lst true []])).bind fun w S1 => liftW (truW S1 w) S1
  | .idx a b, ρ, S => ((runE a ρ S).bind fun x S1 => (runE b ρ S1).bind fun y S2 => liftW (ixW S2 x y) S2).bind fun w S1 => liftW (truW S1 w) S1
  | .call f es ks perm, ρ, S => ((runEs es ρ S).bind fun xs S1 => (runEs ks ρ S1).bind fun ys S2 => O f (xs ++ perm.filterMap (ys[·]?)) S2).bind fun w S1 => liftW (truW S1 w) S1
  | .blt f es, ρ, S => ((runEs es ρ S).bind fun xs S1 => bltW S1 f xs).bind fun w S1 => liftW (truW S1 w) S1
  | .isi t a, ρ, S => ((runE a ρ S).bind fun x S1 => bltW S1 (.isi t) [x]).bind fun w S1 => liftW (truW S1 w) S1
  | .mth m o es, ρ, S => ((runE o ρ S).bind fun x S1 => if recv S1 m x = true then (runEs es ρ S1).bind fun xs S2 => mthW S2 m x xs else none).bind fun w S1 => liftW (truW S1 w) S1
noncomputable def runB (k : Bool) : CEs → En → Sto → Rs W
  | .nil, _, _ => none
  | .cons a .nil, ρ, S => runE a ρ S
  | .cons a (.cons b r), ρ, S => (runE a ρ S).bind fun x S1 => match truW S1 x with
    | some c => if c = k then runB k (.cons b r) ρ S1 else okW x S1
    | none => none
noncomputable def runBT (k : Bool) : CEs → En → Sto → Rs Bool
  | .nil, _, _ => none
  | .cons a .nil, ρ, S => runT a ρ S
  | .cons a (.cons b r), ρ, S => (runT a ρ S).bind fun c S1 => if c = k then runBT k (.cons b r) ρ S1 else okW c S1
noncomputable def runOT : CO → En → Sto → Rs Bool
  | .none, _, S => okW true S
  | .some e, ρ, S => runT e ρ S
noncomputable def runEs : CEs → En → Sto → Rs (List W)
  | .nil, _, S => okW [] S
  | .cons e es, ρ, S => (runE e ρ S).bind fun x S1 => (runEs es ρ S1).bind fun xs S2 => okW (x :: xs) S2
noncomputable def runO : CO → En → Sto → Rs (Option Int)
  | .none, _, S => okW none S
  | .some e, ρ, S => (runE e ρ S).bind fun x S1 => match x with
    | .int i => okW (some i) S1
    | _ => none
noncomputable def runKs : CKs → En → Sto → Rs (List (Key × W))
  | .nil, _, S => okW [] S
  | .cons k v r, ρ, S => (runE k ρ S).bind fun x S1 => (runE v ρ S1).bind fun y S2 => (runKs r ρ S2).bind fun ps S3 => match keyW x with
    | some k => okW ((k, y) :: ps) S3
    | none => none
noncomputable def runI : CI → En → Sto → Rs Itr
  | .seq e, ρ, S => (runE e ρ S).bind fun x S1 => match x with
    | .tup ws => okW ⟨ws, []⟩ S1
    | .str z => okW ⟨z.cps.toList.map fun c => .str ⟨#[c]⟩, []⟩ S1
    | .ref n => (match S1[n]? with
      | some (.lst _ ws) => okW ⟨ws, [(n, ws)]⟩ S1
      | _ => none)
    | _ => none
  | .rng1 e, ρ, S => (runE e ρ S).bind fun x S1 => match x with
    | .int j => if -(2 ^ 62) ≤ j ∧ j < 2 ^ 62 then okW ⟨rangeW 0 j, []⟩ S1 else none
    | _ => none
  | .rng2 a b, ρ, S => (runE a ρ S).bind fun x S1 => (runE b ρ S1).bind fun y S2 => match x, y with
    | .int i, .int j => if (-(2 ^ 62) ≤ i ∧ i < 2 ^ 62) ∧ -(2 ^ 62) ≤ j ∧ j < 2 ^ 62 then okW ⟨rangeW i j, []⟩ S2 else none
    | _, _ => none
  | .enm e, ρ, S => (runE e ρ S).bind fun x S1 => match x with
    | .tup ws => okW ⟨pairsW ws, []⟩ S1
    | .ref n => (match S1[n]? with
      | some (.lst _ ws) => okW ⟨pairsW ws, [(n, ws)]⟩ S1
      | _ => none)
    | _ => none
  | .zip a b, ρ, S => (runE a ρ S).bind fun x S1 => (runE b ρ S1).bind fun y S2 => match x, y with
    | .ref n, .ref m => (match S2[n]?, S2[m]? with
      | some (.lst _ ws), some (.lst _ us) => okW ⟨List.zipWith (fun x y => .tup [x, y]) ws us, [(n, ws), (m, us)]⟩ S2
      | _, _ => none)
    | _, _ => none
end
end

/-! ### statements -/
inductive RT where
  | next (ρ : En) (S : Sto)
  | ret (w : W) (S : Sto)
  | brk (ρ : En) (S : Sto)
  | cont (ρ : En) (S : Sto)
  | ex (c : Nat) (fs : List W) (ρ : En) (S : Sto)
/-- an expression's end, within a statement -/
def thenS {α : Type} (r : Rs α) (ρ : En) (f : α → Sto → Option RT) : Option RT :=
  match r with
  | some (.ok a S) => f a S
  | some (.ex c fs S) => some (.ex c fs ρ S)
  | none => none
@[simp] theorem thenS_ok {α : Type} (a : α) (S : Sto) (ρ : En) (f : α → Sto → Option RT) : thenS (some (.ok a S)) ρ f = f a S := rfl
@[simp] theorem thenS_ex {α : Type} (c : Nat) (fs : List W) (S : Sto) (ρ : En) (f : α → Sto → Option RT) : thenS (some (.ex c fs S) : Rs α) ρ f = some (.ex c fs ρ S) := rfl
@[simp] theorem thenS_none {α : Type} (ρ : En) (f : α → Sto → Option RT) : thenS (none : Rs α) ρ f = none := rfl
/-- behind a statement the next one -/
def seqS (r : Option RT) (f : En → Sto → Option RT) : Option RT :=
  match r with
  | some (.next ρ S) => f ρ S
  | r => r
@[simp] theorem seqS_next (ρ : En) (S : Sto) (f : En → Sto → Option RT) : seqS (some (.next ρ S)) f = f ρ S := rfl
@[simp] theorem seqS_ret (w : W) (S : Sto) (f : En → Sto → Option RT) : seqS (some (.ret w S)) f = some (.ret w S) := rfl
@[simp] theorem seqS_brk (ρ : En) (S : Sto) (f : En → Sto → Option RT) : seqS (some (.brk ρ S)) f = some (.brk ρ S) := rfl
@[simp] theorem seqS_cont (ρ : En) (S : Sto) (f : En → Sto → Option RT) : seqS (some (.cont ρ S)) f = some (.cont ρ S) := rfl
@[simp] theorem seqS_ex (c : Nat) (fs : List W) (ρ : En) (S : Sto) (f : En → Sto → Option RT) : seqS (some (.ex c fs ρ S)) f = some (.ex c fs ρ S) := rfl
@[simp] theorem seqS_none (f : En → Sto → Option RT) : seqS none f = none := rfl
/-- behind a loop's body the next turn -/
def turnS (r : Option RT) (f : En → Sto → Option RT) : Option RT :=
  match r with
  | some (.next ρ S) => f ρ S
  | some (.cont ρ S) => f ρ S
  | some (.brk ρ S) => some (.next ρ S)
  | r => r
@[simp] theorem turnS_next (ρ : En) (S : Sto) (f : En → Sto → Option RT) : turnS (some (.next ρ S)) f = f ρ S := rfl
@[simp] theorem turnS_ret (w : W) (S : Sto) (f : En → Sto → Option RT) : turnS (some (.ret w S)) f = some (.ret w S) := rfl
@[simp] theorem turnS_brk (ρ : En) (S : Sto) (f : En → Sto → Option RT) : turnS (some (.brk ρ S)) f = some (.next ρ S) := rfl
@[simp] theorem turnS_cont (ρ : En) (S : Sto) (f : En → Sto → Option RT) : turnS (some (.cont ρ S)) f = f ρ S := rfl
@[simp] theorem turnS_ex (c : Nat) (fs : List W) (ρ : En) (S : Sto) (f : En → Sto → Option RT) : turnS (some (.ex c fs ρ S)) f = some (.ex c fs ρ S) := rfl
@[simp] theorem turnS_none (f : En → Sto → Option RT) : turnS none f = none := rfl

open Classical in
noncomputable def forL (put : W → En → Option En) (body : En → Sto → Option RT) (stays : Sto → Prop) : List W → En → Sto → Option RT
  | [], ρ, S => if stays S then some (.next ρ S) else none
  | w :: ws, ρ, S => if stays S then (match put w ρ with
    | some ρ1 => turnS (body ρ1 S) (forL put body stays ws)
    | none => none) else none
def whileN (cond : En → Sto → Rs Bool) (body : En → Sto → Option RT) : Nat → En → Sto → Option RT
  | 0, _, _ => none
  | n + 1, ρ, S => thenS (cond ρ S) ρ fun b S1 => if b = true then turnS (body ρ S1) (whileN cond body n) else some (.next ρ S1)
open Classical in
noncomputable def whileW (cond : En → Sto → Rs Bool) (body : En → Sto → Option RT) (ρ : En) (S : Sto) : Option RT :=
  if h : ∃ n, (whileN cond body n ρ S).isSome = true then whileN cond body (Classical.choose h) ρ S else none
theorem turnS_mono {r : Option RT} {f g : En → Sto → Option RT} {x : RT} (h : turnS r f = some x) (k : ∀ ρ S x, f ρ S = some x → g ρ S = some x) : turnS r g = some x := by
  cases r with
  | none => cases h
  | some t => cases t <;> simp only [turnS_next, turnS_ret, turnS_brk, turnS_cont, turnS_ex] at h ⊢ <;> first | exact k _ _ _ h | exact h
theorem whileN_succ {cond : En → Sto → Rs Bool} {body : En → Sto → Option RT} : ∀ (n : Nat) (ρ : En) (S : Sto) (x : RT), whileN cond body n ρ S = some x → whileN cond body (n + 1) ρ S = some x := by
  intro n
  induction n with
  | zero => intro ρ S x h; cases h
  | succ n ih =>
    intro ρ S x h
    unfold whileN at h ⊢
    cases e : cond ρ S with
    | none => rw [e] at h; cases h
    | some r =>
      rw [e] at h
      cases r with
      | ex c fs S1 => exact h
      | ok b S1 =>
        simp only [thenS_ok] at h ⊢
        cases b with
        | false => exact h
        | true =>
          simp only [if_true] at h ⊢
          exact turnS_mono h ih
theorem whileN_le {cond : En → Sto → Rs Bool} {body : En → Sto → Option RT} {n m : Nat} {ρ : En} {S : Sto} {x : RT} (h : whileN cond body n ρ S = some x) (l : n ≤ m) : whileN cond body m ρ S = some x := by
  induction l with
  | refl => exact h
  | step _ ih => exact whileN_succ _ _ _ _ ih
theorem whileW_of {cond : En → Sto → Rs Bool} {body : En → Sto → Option RT} {n : Nat} {ρ : En} {S : Sto} {x : RT} (h : whileN cond body n ρ S = some x) : whileW cond body ρ S = some x := by
  have hx : ∃ n, (whileN cond body n ρ S).isSome = true := ⟨n, by rw [h]; rfl⟩
  unfold whileW
  rw [dif_pos hx]
  obtain ⟨y, hy⟩ := Option.isSome_iff_exists.mp (Classical.choose_spec hx)
  have a := whileN_le hy (Nat.le_max_left _ n)
  have b := whileN_le h (Nat.le_max_right (Classical.choose hx) n)
  rw [hy, ← a, b]
theorem whileW_some {cond : En → Sto → Rs Bool} {body : En → Sto → Option RT} {ρ : En} {S : Sto} {x : RT} (h : whileW cond body ρ S = some x) : ∃ n, whileN cond body n ρ S = some x := by
  unfold whileW at h
  split at h
  · exact ⟨_, h⟩
  · cases h
/-- one turn -/
theorem whileW_eq {cond : En → Sto → Rs Bool} {body : En → Sto → Option RT} {ρ : En} {S : Sto} : whileW cond body ρ S = thenS (cond ρ S) ρ fun b S1 => if b = true then turnS (body ρ S1) (whileW cond body) else some (.next ρ S1) := by
  have key : ∀ x, whileW cond body ρ S = some x ↔ (thenS (cond ρ S) ρ fun b S1 => if b = true then turnS (body ρ S1) (whileW cond body) else some (.next ρ S1)) = some x := by
    intro x
    constructor
    · intro h
      obtain ⟨n, h⟩ := whileW_some h
      cases n with
      | zero => cases h
      | succ n =>
        unfold whileN at h
        cases e : cond ρ S with
        | none => rw [e] at h; cases h
        | some r =>
          rw [e] at h
          cases r with
          | ex c fs S1 => exact h
          | ok b S1 =>
            simp only [thenS_ok] at h ⊢
            cases b with
            | false => exact h
            | true =>
              simp only [if_true] at h ⊢
              exact turnS_mono h fun _ _ _ q => whileW_of q
    · intro h
      cases e : cond ρ S with
      | none => rw [e] at h; cases h
      | some r =>
        rw [e] at h
        cases r with
        | ex c fs S1 => exact whileW_of (n := 1) (by unfold whileN; rw [e]; exact h)
        | ok b S1 =>
          simp only [thenS_ok] at h
          cases b with
          | false => exact whileW_of (n := 1) (by unfold whileN; rw [e]; exact h)
          | true =>
            simp only [if_true] at h
            have : ∃ n, turnS (body ρ S1) (whileN cond body n) = some x := by
              cases q : body ρ S1 with
              | none => rw [q] at h; cases h
              | some t =>
                rw [q] at h
                cases t <;> simp only [turnS_next, turnS_ret, turnS_brk, turnS_cont, turnS_ex] at h ⊢ <;> first | exact whileW_some h | exact ⟨0, h⟩
            obtain ⟨n, hn⟩ := this
            exact whileW_of (n := n + 1) (by unfold whileN; rw [e]; simp only [thenS_ok, if_true]; exact hn)
  cases h : whileW cond body ρ S with
  | some x => exact ((key x).mp h).symm
  | none =>
    cases h2 : (thenS (cond ρ S) ρ fun b S1 => if b = true then turnS (body ρ S1) (whileW cond body) else some (.next ρ S1)) with
    | none => rfl
    | some x => rw [(key x).mpr h2] at h; cases h

section
variable (G : List W) (O : Orc)
mutual
noncomputable def runS : CS → En → Sto → Option RT
  | .asg t e, ρ, S => thenS (runE G O e ρ S) ρ fun w S1 => (putT t w ρ).map fun ρ1 => .next ρ1 S1
  | .setIx o i e, ρ, S => thenS (runE G O e ρ S) ρ fun w S1 => thenS (runE G O o ρ S1) ρ fun x S2 => thenS (runE G O i ρ S2) ρ fun k S3 => (setW S3 x k w).map fun S4 => .next ρ S4
  | .expr e, ρ, S => thenS (runE G O e ρ S) ρ fun _ S1 => some (.next ρ S1)
  | .doc, ρ, S => some (.next ρ S)
  | .ret e, ρ, S => thenS (runE G O e ρ S) ρ fun w S1 => some (.ret w S1)
  | .retN, _, S => some (.ret .non S)
  | .ife c a b, ρ, S => thenS (runT G O c ρ S) ρ fun k S1 => if k = true then runSs a ρ S1 else runSs b ρ S1
  | .whil c a, ρ, S => whileW (runT G O c) (fun ρ' S' => runSs a ρ' S') ρ S
  | .for_ t it a, ρ, S => thenS (runI G O it ρ S) ρ fun j S1 => forL (putT t) (fun ρ' S' => runSs a ρ' S') j.stays j.items ρ S1
  | .pass, ρ, S => some (.next ρ S)
  | .brk, ρ, S => some (.brk ρ S)
  | .cont, ρ, S => some (.cont ρ S)
  | .stuck, _, _ => none
noncomputable def runSs : CSs → En → Sto → Option RT
  | .nil, ρ, S => some (.next ρ S)
  | .cons s r, ρ, S => seqS (runS s ρ S) fun ρ1 S1 => runSs r ρ1 S1
end
end

/-! ### defs -/
structure FD where
  arity : Nat
  slots : Nat
  body : CSs
/-- a body's end as the call's -/
def backW : Option RT → Rs W
  | some (.next _ S) => okW .non S
  | some (.ret w S) => okW w S
  | some (.ex c fs _ S) => some (.ex c fs S)
  | _ => none
@[simp] theorem backW_next (ρ : En) (S : Sto) : backW (some (.next ρ S)) = some (.ok .non S) := rfl
@[simp] theorem backW_ret (w : W) (S : Sto) : backW (some (.ret w S)) = some (.ok w S) := rfl
@[simp] theorem backW_ex (c : Nat) (fs : List W) (ρ : En) (S : Sto) : backW (some (.ex c fs ρ S)) = some (.ex c fs S) := rfl
@[simp] theorem backW_none : backW none = none := rfl
def startE (n : Nat) (ws : List W) : En := ws.map some ++ List.replicate (n - ws.length) none
/-- the defs, calls within one another at most so deep -/
noncomputable def callAt (G : List W) (F : List FD) : Nat → Orc
  | 0, _, _, _ => none
  | d + 1, f, ws, S => match F[f]? with
    | some fd => if ws.length = fd.arity then backW (runSs G (callAt G F d) fd.body (startE fd.slots ws) S) else none
    | none => none
end Co
namespace Co
open PySem L2

section
variable (K : PySem.W.Frag) (m : List Addr) (H : Hp)
mutual
inductive VR : V → W → Prop where
  | non : VR .non .non
  | bl (b : Bool) : VR (.bl b) (.bl b)
  | int (i : Int) : VR (.int i) (.int i)
  | str (x : Str) : VR (.str x) (.str x)
  | tup {a : Addr} {vs : List V} {ws : List W} : SqT K H a vs → VRs vs ws → VR (.ref a) (.tup ws)
  | ref {n : Nat} {a : Addr} : m[n]? = some a → VR (.ref a) (.ref n)
inductive VRs : List V → List W → Prop where
  | nil : VRs [] []
  | cons {v : V} {vs : List V} {w : W} {ws : List W} : VR v w → VRs vs ws → VRs (v :: vs) (w :: ws)
end
/-- a dict's pairs -/
def KR (kv : List (Key × V)) (kw : List (Key × W)) : Prop := Paired (fun p q => p.1 = q.1 ∧ VR K m H p.2 q.2) kv kw
/-- a list of the written part -/
def KL (a : Addr) (xs : List V) : Prop := ∃ o its n, List.lookup a K = some o ∧ o.cls = Value.type "list" ∧ o.dict = none ∧ o.data = Data.seq its n ∧ its.size ≤ sizeLine ∧ Vals xs its.toList
def MR (a : Addr) : MO → Prop
  | .lst true ws => ∃ vs, H a = some (.lst vs) ∧ VRs K m H vs ws
  | .lst false ws => ∃ vs, (Rd H a (.lst vs) ∨ KL K a vs) ∧ VRs K m H vs ws
  | .dic true kws => ∃ kvs, H a = some (.dK kvs) ∧ KR K m H kvs kws
  | .dic false kws => ∃ kvs, Rd H a (.dK kvs) ∧ KR K m H kvs kws
def IsK (a : Addr) (o : MO) : Prop := ∃ ws vs, o = .lst false ws ∧ KL K a vs ∧ VRs K m H vs ws
/-- the table of modules: known, a dict -/
def SysH : Prop := ∃ (o : Obj) (u : Heap → Prop) (es : Array DictEntry) (ep : Nat), H sysModules = some (.frz o (.ext u)) ∧ o.data = .dict es ep
structure HR (S : Sto) : Prop where
  len : m.length = S.length
  inj : ∀ (n n' : Nat) (a : Addr) (o o' : MO), m[n]? = some a → m[n']? = some a → S[n]? = some o → S[n']? = some o' → n ≠ n' → IsK K m H a o ∨ IsK K m H a o'
  at_ : ∀ (n : Nat) (a : Addr) (o : MO), m[n]? = some a → S[n]? = some o → MR K m H a o
  sys : SysH H
structure ER (σ : St) (ρ : En) : Prop where
  len : σ.length = ρ.length
  at_ : ∀ (i : Nat) (w : W), ρ[i]? = some (some w) → ∃ v, σ[i]? = some (some v) ∧ VR K m H v w
end
structure Ext (K : PySem.W.Frag) (m : List Addr) (H : Hp) (m' : List Addr) (H' : Hp) : Prop where
  pre : ∃ r, m' = m ++ r
  tup : ∀ a xs, SqT K H a xs → SqT K H' a xs

section
variable {K : PySem.W.Frag} {m m' m'' : List Addr} {H H' H'' : Hp}
theorem Ext.refl : Ext K m H m H := ⟨⟨[], by simp⟩, fun _ _ h => h⟩
theorem Ext.trans (a : Ext K m H m' H') (b : Ext K m' H' m'' H'') : Ext K m H m'' H'' := by
  obtain ⟨⟨r, rfl⟩, ha⟩ := a
  obtain ⟨⟨r', rfl⟩, hb⟩ := b
  exact ⟨⟨r ++ r', by rw [List.append_assoc]⟩, fun x xs h => hb x xs (ha x xs h)⟩
theorem Ext.get (e : Ext K m H m' H') {n : Nat} {a : Addr} (h : m[n]? = some a) : m'[n]? = some a := by
  obtain ⟨⟨r, rfl⟩, _⟩ := e
  rw [List.getElem?_append_left (List.getElem?_eq_some_iff.mp h).1]
  exact h
mutual
theorem VR.ext (e : Ext K m H m' H') : ∀ {v : V} {w : W}, VR K m H v w → VR K m' H' v w
  | _, _, .non => .non
  | _, _, .bl b => .bl b
  | _, _, .int i => .int i
  | _, _, .str x => .str x
  | _, _, .tup h r => .tup (e.tup _ _ h) (VRs.ext e r)
  | _, _, .ref h => .ref (e.get h)
theorem VRs.ext (e : Ext K m H m' H') : ∀ {vs : List V} {ws : List W}, VRs K m H vs ws → VRs K m' H' vs ws
  | _, _, .nil => .nil
  | _, _, .cons h r => .cons (VR.ext e h) (VRs.ext e r)
end
theorem KR.ext (e : Ext K m H m' H') {kv : List (Key × V)} {kw : List (Key × W)} (h : KR K m H kv kw) : KR K m' H' kv kw := by
  unfold KR at h ⊢
  induction h with
  | nil => exact .nil
  | cons r t ih => exact .cons ⟨r.1, r.2.ext e⟩ ih
theorem VRs.length : ∀ {vs : List V} {ws : List W}, VRs K m H vs ws → vs.length = ws.length
  | _, _, .nil => rfl
  | _, _, .cons _ r => by rw [List.length_cons, List.length_cons, r.length]
theorem KR.length {kv : List (Key × V)} {kw : List (Key × W)} (h : KR K m H kv kw) : kv.length = kw.length := Paired.length h
theorem VRs.append : ∀ {vs us : List V} {ws xs : List W}, VRs K m H vs ws → VRs K m H us xs → VRs K m H (vs ++ us) (ws ++ xs)
  | _, _, _, _, .nil, s => s
  | _, _, _, _, .cons h r, s => .cons h (r.append s)
theorem VRs.get : ∀ {vs : List V} {ws : List W} {i : Nat} {w : W}, VRs K m H vs ws → ws[i]? = some w → ∃ v, vs[i]? = some v ∧ VR K m H v w
  | _, _, _, _, .nil, e => by simp at e
  | _, _, 0, _, .cons h _, e => by
    simp at e
    subst e
    exact ⟨_, rfl, h⟩
  | _, _, i + 1, _, .cons _ r, e => by
    obtain ⟨v, h1, h2⟩ := r.get (i := i) (by simpa using e)
    exact ⟨v, by simpa using h1, h2⟩
theorem VRs.getR : ∀ {vs : List V} {ws : List W} {i : Nat} {v : V}, VRs K m H vs ws → vs[i]? = some v → ∃ w, ws[i]? = some w ∧ VR K m H v w
  | _, _, _, _, .nil, e => by simp at e
  | _, _, 0, _, .cons h _, e => by
    simp at e
    subst e
    exact ⟨_, rfl, h⟩
  | _, _, i + 1, _, .cons _ r, e => by
    obtain ⟨v, h1, h2⟩ := r.getR (i := i) (by simpa using e)
    exact ⟨v, by simpa using h1, h2⟩
theorem VRs.take : ∀ {vs : List V} {ws : List W} (n : Nat), VRs K m H vs ws → VRs K m H (vs.take n) (ws.take n)
  | _, _, 0, _ => by simpa using VRs.nil
  | _, _, _ + 1, .nil => .nil
  | _, _, n + 1, .cons h r => .cons h (r.take n)
theorem VRs.drop : ∀ {vs : List V} {ws : List W} (n : Nat), VRs K m H vs ws → VRs K m H (vs.drop n) (ws.drop n)
  | _, _, 0, r => by simpa using r
  | _, _, _ + 1, .nil => .nil
  | _, _, n + 1, .cons _ r => r.drop n
theorem VRs.cut {vs : List V} {ws : List W} (lo hi : Option Int) (r : VRs K m H vs ws) : VRs K m H (cutV vs lo hi) (cutW ws lo hi) := by
  unfold cutV cutW
  rw [r.length]
  exact (r.drop _).take _
theorem VRs.set {v : V} {w : W} (h : VR K m H v w) : ∀ {vs : List V} {ws : List W} (i : Nat), VRs K m H vs ws → VRs K m H (vs.set i v) (ws.set i w)
  | _, _, _, .nil => .nil
  | _, _, 0, .cons _ t => .cons h t
  | _, _, i + 1, .cons q t => .cons q (VRs.set h i t)
theorem VRs.erase : ∀ {vs : List V} {ws : List W} (i : Nat), VRs K m H vs ws → VRs K m H (vs.eraseIdx i) (ws.eraseIdx i)
  | _, _, _, .nil => .nil
  | _, _, 0, .cons _ t => t
  | _, _, i + 1, .cons q t => .cons q (VRs.erase i t)
theorem VRs.dropLast {vs : List V} {ws : List W} (r : VRs K m H vs ws) : VRs K m H vs.dropLast ws.dropLast := by
  rw [List.dropLast_eq_take, List.dropLast_eq_take, r.length]
  exact r.take _
theorem VRs.reps {vs : List V} {ws : List W} (r : VRs K m H vs ws) : ∀ n : Nat, VRs K m H (List.replicate n vs).flatten (List.replicate n ws).flatten
  | 0 => .nil
  | n + 1 => by
    rw [List.replicate_succ, List.replicate_succ, List.flatten_cons, List.flatten_cons]
    exact r.append (r.reps n)
theorem VRs.isEmpty {vs : List V} {ws : List W} (r : VRs K m H vs ws) : vs.isEmpty = ws.isEmpty := by
  cases r <;> rfl

/-- what a new object changes -/
theorem Ext.new {p : Addr} {o : HO} (h : H p = none) : Ext K m H m (upd H p o) := by
  refine ⟨⟨[], by simp⟩, fun a xs q => ?_⟩
  rcases q with (q | ⟨o', q⟩) | q
  · exact .inl (.inl (by rw [upd_ne (ne_of_none q h)]; exact q))
  · exact .inl (.inr ⟨o', by rw [upd_ne (ne_of_none q h)]; exact q⟩)
  · exact .inr q
theorem Ext.snoc (e : Ext K m H m' H') (p : Addr) : Ext K m H (m' ++ [p]) H' := by
  obtain ⟨⟨r, rfl⟩, h⟩ := e
  exact ⟨⟨r ++ [p], by rw [List.append_assoc]⟩, h⟩
/-- what a written one changes -/
theorem Ext.wr {p : Addr} {o : HO} (h : ∀ xs, H p ≠ some (.tup xs)) (h2 : ∀ o' xs, H p ≠ some (.frz o' (.tup xs))) : Ext K m H m (upd H p o) := by
  refine ⟨⟨[], by simp⟩, fun a xs q => ?_⟩
  rcases q with (q | ⟨o', q⟩) | q
  · exact .inl (.inl (by rw [upd_ne (show a ≠ p from fun z => h xs (by rw [← z]; exact q))]; exact q))
  · exact .inl (.inr ⟨o', by rw [upd_ne (show a ≠ p from fun z => h2 o' xs (by rw [← z]; exact q))]; exact q⟩)
  · exact .inr q
theorem Ext.wrL {p : Addr} {vs : List V} {o : HO} (h : H p = some (.lst vs)) : Ext K m H m (upd H p o) := Ext.wr (fun xs q => by rw [h] at q; cases q) fun o' xs q => by rw [h] at q; cases q
theorem Ext.wrD {p : Addr} {vs : List (Key × V)} {o : HO} (h : H p = some (.dK vs)) : Ext K m H m (upd H p o) := Ext.wr (fun xs q => by rw [h] at q; cases q) fun o' xs q => by rw [h] at q; cases q

theorem IsK.ext (e : Ext K m H m' H') {a : Addr} {o : MO} (h : IsK K m H a o) : IsK K m' H' a o := by
  obtain ⟨ws, vs, h1, h2, h3⟩ := h
  exact ⟨ws, vs, h1, h2, h3.ext e⟩
theorem IsK.mr {a : Addr} {o : MO} (h : IsK K m H a o) : MR K m H a o := by
  obtain ⟨ws, vs, rfl, h2, h3⟩ := h
  exact ⟨vs, .inr h2, h3⟩
/-- an object that stands where nothing was changed -/
theorem MR.keep (e : Ext K m H m' H') {a : Addr} {o : MO} (h : MR K m H a o) (k : ∀ u, H a = some u → H' a = some u) : MR K m' H' a o := by
  cases o with
  | lst rw ws =>
    cases rw with
    | true => obtain ⟨vs, h1, h2⟩ := h; exact ⟨vs, k _ h1, h2.ext e⟩
    | false =>
      obtain ⟨vs, h1, h2⟩ := h
      refine ⟨vs, ?_, h2.ext e⟩
      rcases h1 with (h1 | ⟨o, h1⟩) | h1
      · exact .inl (.inl (k _ h1))
      · exact .inl (.inr ⟨o, k _ h1⟩)
      · exact .inr h1
  | dic rw kws =>
    cases rw with
    | true => obtain ⟨vs, h1, h2⟩ := h; exact ⟨vs, k _ h1, h2.ext e⟩
    | false =>
      obtain ⟨vs, h1, h2⟩ := h
      refine ⟨vs, ?_, h2.ext e⟩
      rcases h1 with h1 | ⟨o, h1⟩
      · exact .inl (k _ h1)
      · exact .inr ⟨o, k _ h1⟩
/-- an object at a place of which nothing is tracked is of the written part -/
theorem MR.isK {a : Addr} {o : MO} (h : MR K m H a o) (n : H a = none) : IsK K m H a o := by
  cases o with
  | lst rw ws =>
    cases rw with
    | true => obtain ⟨vs, h1, h2⟩ := h; rw [n] at h1; cases h1
    | false =>
      obtain ⟨vs, h1, h2⟩ := h
      rcases h1 with (h1 | ⟨o, h1⟩) | h1
      · rw [n] at h1; cases h1
      · rw [n] at h1; cases h1
      · exact ⟨ws, vs, rfl, h1, h2⟩
  | dic rw kws =>
    cases rw with
    | true => obtain ⟨vs, h1, h2⟩ := h; rw [n] at h1; cases h1
    | false =>
      obtain ⟨vs, h1, h2⟩ := h
      rcases h1 with h1 | ⟨o, h1⟩
      · rw [n] at h1; cases h1
      · rw [n] at h1; cases h1
theorem HR.old (h : HR K m H S) {n : Nat} {a : Addr} (e : m[n]? = some a) : ∃ o, S[n]? = some o := by
  have h1 := (List.getElem?_eq_some_iff.mp e).1
  rw [h.len] at h1
  exact ⟨S[n], by simp [h1]⟩
theorem HR.addr (h : HR K m H S) {n : Nat} {o : MO} (e : S[n]? = some o) : ∃ a, m[n]? = some a := by
  have h1 := (List.getElem?_eq_some_iff.mp e).1
  rw [← h.len] at h1
  exact ⟨m[n], by simp [h1]⟩
theorem SysH.upd (h : SysH H) {p : Addr} {o : HO} (hp : p ≠ sysModules) : SysH (L2.upd H p o) := by
  obtain ⟨ob, u, es, ep, h1, h2⟩ := h
  exact ⟨ob, u, es, ep, by rw [upd_ne (Ne.symm hp)]; exact h1, h2⟩
theorem SysH.ne (h : SysH H) {p : Addr} (hp : H p = none) : p ≠ sysModules := fun e => by
  obtain ⟨ob, u, es, ep, h1, h2⟩ := h
  rw [e, h1] at hp
  cases hp
/-- only new objects, none of them told -/
theorem HR.same (h : HR K m H S) (e : Ext K m H m H') (k : ∀ a u, H a = some u → H' a = some u) : HR K m H' S :=
  ⟨h.len, fun n n' a o o' h1 h2 h3 h4 h5 => (h.inj n n' a o o' h1 h2 h3 h4 h5).imp (·.ext e) (·.ext e), fun n a o h1 h2 => (h.at_ n a o h1 h2).keep e (k a),
    let ⟨ob, u, es, ep, h1, h2⟩ := h.sys; ⟨ob, u, es, ep, k _ _ h1, h2⟩⟩
theorem HR.fresh (h : HR K m H S) {p : Addr} {o : HO} (hp : H p = none) : HR K m (upd H p o) S := h.same (Ext.new hp) fun a u q => by rw [upd_ne (ne_of_none q hp)]; exact q
/-- a new object, told -/
theorem HR.laid (h : HR K m H S) {p : Addr} {o : HO} {x : MO} (hp : H p = none) (new : MR K (m ++ [p]) (upd H p o) p x) : HR K (m ++ [p]) (upd H p o) (S ++ [x]) := by
  have e : Ext K m H (m ++ [p]) (upd H p o) := (Ext.new hp).snoc p
  have old : ∀ {n : Nat} {a : Addr} {u : MO}, (m ++ [p])[n]? = some a → (S ++ [x])[n]? = some u → (n < m.length ∧ m[n]? = some a ∧ S[n]? = some u) ∨ (n = m.length ∧ a = p ∧ u = x) := fun {n a u} h1 h2 => by
    by_cases hn : n < m.length
    · rw [List.getElem?_append_left hn] at h1
      rw [List.getElem?_append_left (by rw [← h.len]; exact hn)] at h2
      exact .inl ⟨hn, h1, h2⟩
    · have hl := (List.getElem?_eq_some_iff.mp h1).1
      rw [List.length_append, List.length_singleton] at hl
      have en : n = m.length := by omega
      subst en
      rw [List.getElem?_append_right (Nat.le_refl _)] at h1
      rw [List.getElem?_append_right (by rw [h.len]; exact Nat.le_refl _)] at h2
      rw [h.len] at h2
      simp at h1 h2
      exact .inr ⟨rfl, h1.symm, h2.symm⟩
  refine ⟨by rw [List.length_append, List.length_append, h.len]; rfl, fun n n' a u u' h1 h2 h3 h4 h5 => ?_, fun n a u h1 h2 => ?_, h.sys.upd (h.sys.ne hp)⟩
  · rcases old h1 h3 with ⟨z1, z2, z3⟩ | ⟨z1, z2, z3⟩
    · rcases old h2 h4 with ⟨y1, y2, y3⟩ | ⟨y1, y2, y3⟩
      · exact (h.inj n n' a u u' z2 y2 z3 y3 h5).imp (·.ext e) (·.ext e)
      · subst y2
        exact .inl (((h.at_ n a u z2 z3).isK hp).ext e)
    · rcases old h2 h4 with ⟨y1, y2, y3⟩ | ⟨y1, y2, y3⟩
      · subst z2
        exact .inr (((h.at_ n' a u' y2 y3).isK hp).ext e)
      · exact absurd (z1.trans y1.symm) h5
  · rcases old h1 h2 with ⟨z1, z2, z3⟩ | ⟨z1, z2, z3⟩
    · exact (h.at_ n a u z2 z3).keep e fun b q => by rw [upd_ne (ne_of_none q hp)]; exact q
    · subst z2 z3
      exact new
/-- an object written -/
theorem HR.wr (h : HR K m H S) {n : Nat} {p : Addr} {o : HO} {y x : MO} (hn : m[n]? = some p) (hy : S[n]? = some y) (nk : ∀ ws, y ≠ .lst false ws) (nk2 : ∀ ws, x ≠ .lst false ws) (e : Ext K m H m (upd H p o)) (new : MR K m (upd H p o) p x) : HR K m (upd H p o) (S.set n x) := by
  have hlt : n < S.length := (List.getElem?_eq_some_iff.mp hy).1
  have notk : ∀ {a : Addr} {u : MO}, (∀ ws, u ≠ .lst false ws) → ¬ IsK K m H a u := fun {a u} q ⟨ws, _, e, _⟩ => q ws e
  have old : ∀ {j : Nat} {u : MO}, (S.set n x)[j]? = some u → (j = n ∧ u = x) ∨ (j ≠ n ∧ S[j]? = some u) := fun {j u} q => by
    by_cases hj : j = n
    · subst hj
      rw [List.getElem?_set_self hlt] at q
      exact .inl ⟨rfl, (Option.some.inj q).symm⟩
    · rw [List.getElem?_set_ne (Ne.symm hj)] at q
      exact .inr ⟨hj, q⟩
  -- another one that stands at p is of the written part
  have at_p : ∀ {j : Nat} {u : MO}, j ≠ n → m[j]? = some p → S[j]? = some u → IsK K m H p u := fun {j u} hj h1 h2 => by
    rcases h.inj j n p u y h1 hn h2 hy hj with z | z
    · exact z
    · exact absurd z (notk nk)
  have nsys : p ≠ sysModules := fun ep => by
    obtain ⟨ob, u, es, eq, h1, h2⟩ := h.sys
    have z := h.at_ n p y hn hy
    rw [ep] at z
    cases y with
    | lst rw ws =>
      cases rw with
      | true =>
        obtain ⟨vs, z1, _⟩ := z
        rw [h1] at z1
        cases z1
      | false => exact nk ws rfl
    | dic rw ws =>
      cases rw with
      | true =>
        obtain ⟨vs, z1, _⟩ := z
        rw [h1] at z1
        cases z1
      | false =>
        obtain ⟨vs, z1 | ⟨o1, z1⟩, _⟩ := z
        · rw [h1] at z1
          cases z1
        · rw [h1] at z1
          cases z1
  refine ⟨by rw [List.length_set]; exact h.len, fun j j' a u u' h1 h2 h3 h4 h5 => ?_, fun j a u h1 h2 => ?_, h.sys.upd nsys⟩
  · rcases old h3 with ⟨z1, z2⟩ | ⟨z1, z2⟩
    · subst z1
      rw [hn] at h1
      cases h1
      rcases old h4 with ⟨y1, _⟩ | ⟨y1, y2⟩
      · exact absurd y1.symm h5
      · exact .inr ((at_p y1 h2 y2).ext e)
    · rcases old h4 with ⟨y1, y2⟩ | ⟨y1, y2⟩
      · subst y1
        rw [hn] at h2
        cases h2
        exact .inl ((at_p z1 h1 z2).ext e)
      · exact (h.inj j j' a u u' h1 h2 z2 y2 h5).imp (·.ext e) (·.ext e)
  · rcases old h2 with ⟨z1, z2⟩ | ⟨z1, z2⟩
    · subst z1
      rw [hn] at h1
      cases h1
      subst z2
      exact new
    · by_cases ha : a = p
      · subst ha
        exact ((at_p z1 h1 z2).ext e).mr
      · exact (h.at_ j a u h1 z2).keep e fun b q => by rw [upd_ne ha]; exact q
theorem ER.ext (e : Ext K m H m' H') {σ : St} {ρ : En} (h : ER K m H σ ρ) : ER K m' H' σ ρ :=
  ⟨h.len, fun i w q => let ⟨v, h1, h2⟩ := h.at_ i w q; ⟨v, h1, h2.ext e⟩⟩
theorem ER.set {σ : St} {ρ : En} {i : Nat} {v : V} {w : W} (h : ER K m H σ ρ) (r : VR K m H v w) (hi : i < ρ.length) : ER K m H (σ.set i (some v)) (ρ.set i (some w)) := by
  refine ⟨by rw [List.length_set, List.length_set]; exact h.len, fun j x q => ?_⟩
  by_cases hj : j = i
  · subst hj
    rw [List.getElem?_set_self hi] at q
    cases q
    exact ⟨v, by rw [List.getElem?_set_self (by rw [h.len]; exact hi)], r⟩
  · rw [List.getElem?_set_ne (Ne.symm hj)] at q
    obtain ⟨u, h1, h2⟩ := h.at_ j x q
    exact ⟨u, by rw [List.getElem?_set_ne (Ne.symm hj)]; exact h1, h2⟩
theorem ER.wipe {σ : St} {ρ : En} (h : ER K m H σ ρ) : ∀ vs : List Nat, ER K m H (wipe σ vs) (wipeE ρ vs)
  | [] => h
  | i :: vs => by
    have ih := ER.wipe h vs
    unfold L2.wipe wipeE
    refine ⟨by rw [List.length_set, List.length_set]; exact ih.len, fun j x q => ?_⟩
    by_cases hj : j = i
    · subst hj
      by_cases hl : j < (wipeE ρ vs).length
      · rw [List.getElem?_set_self hl] at q; cases q
      · rw [List.getElem?_eq_none (by simpa using hl)] at q; cases q
    · rw [List.getElem?_set_ne (Ne.symm hj)] at q
      obtain ⟨u, h1, h2⟩ := ih.at_ j x q
      exact ⟨u, by rw [List.getElem?_set_ne (Ne.symm hj)]; exact h1, h2⟩
end

/-- how an exception of the core is one -/
abbrev XRel := List Addr → Hp → Nat → List W → Value → Option Addr → Prop
section
variable (K : PySem.W.Frag) (XR : XRel) (Wx : WX)
/-- what has to follow of an end of the core -/
def Post {α β : Type} (m : List Addr) (H : Hp) (σ : St) (rel : List Addr → Hp → β → α → Prop) (r : Rs α) (Q : β → Hp → Prop) : Prop :=
  match r with
  | some (.ok a S') => ∀ m' H' b, Ext K m H m' H' → HR K m' H' S' → rel m' H' b a → Q b H'
  | some (.ex c fs S') => ∀ m' H' cls d, Ext K m H m' H' → HR K m' H' S' → XR m' H' c fs cls d → Wx cls d σ H'
  | none => False
/-- the reading of an expression by the core -/
def tR {α β : Type} (rel : List Addr → Hp → β → α → Prop) (f : En → Sto → Rs α) : St → Hp → (β → Hp → Prop) → Prop := fun σ H Q =>
  ∃ m S ρ, HR K m H S ∧ ER K m H σ ρ ∧ Post K XR Wx m H σ rel (f ρ S) Q
end
section
variable {K : PySem.W.Frag} {XR : XRel} {Wx : WX} {m m' : List Addr} {H H' : Hp} {σ : St} {α β γ δ : Type} {rel : List Addr → Hp → β → α → Prop} {rel' : List Addr → Hp → δ → γ → Prop}
theorem Post.ext {r : Rs α} {Q : β → Hp → Prop} (h : Post K XR Wx m H σ rel r Q) (e : Ext K m H m' H') : Post K XR Wx m' H' σ rel r Q := by
  cases r with
  | none => exact h
  | some r =>
    cases r with
    | ok a S => exact fun m2 H2 b e2 hr hb => h m2 H2 b (e.trans e2) hr hb
    | ex c fs S => exact fun m2 H2 cls d e2 hr hb => h m2 H2 cls d (e.trans e2) hr hb
theorem Post.bind {r : Rs α} {g : α → Sto → Rs γ} {Q : δ → Hp → Prop} {Q' : β → Hp → Prop} (h : Post K XR Wx m H σ rel' (r.bind g) Q)
    (k : ∀ m1 H1 S1 b a, Ext K m H m1 H1 → HR K m1 H1 S1 → rel m1 H1 b a → Post K XR Wx m1 H1 σ rel' (g a S1) Q → Q' b H1) : Post K XR Wx m H σ rel r Q' := by
  cases r with
  | none => exact h
  | some r =>
    cases r with
    | ok a S => exact fun m1 H1 b e hr hb => k m1 H1 S b a e hr hb (Post.ext h e)
    | ex c fs S => exact h
theorem Post.ok {a : α} {S : Sto} {Q : β → Hp → Prop} {b : β} (h : Post K XR Wx m H σ rel (some (.ok a S)) Q) (hr : HR K m H S) (hb : rel m H b a) : Q b H := h m H b .refl hr hb
theorem Post.ok' {a : α} {S : Sto} {Q : β → Hp → Prop} {b : β} (h : Post K XR Wx m H σ rel (some (.ok a S)) Q) (e : Ext K m H m' H') (hr : HR K m' H' S) (hb : rel m' H' b a) : Q b H' := h m' H' b e hr hb
end
end Co
namespace Co
open PySem L2

def opO : Op2 → Operator
  | .add => .Add | .sub => .Sub | .mul => .Mult | .fdiv => .FloorDiv | .mod => .Mod | .pow => .Pow
def cmO : Cm → CmpOp
  | .eq => .Eq | .ne => .NotEq | .lt => .Lt | .le => .LtE | .gt => .Gt | .ge => .GtE | .isN => .Is | .notN => .IsNot | .in_ => .In | .nin => .NotIn

section
variable {K : PySem.W.Frag} {XR : XRel} {Wx : WX} {m : List Addr} {H : Hp} {σ : St} {S : Sto}
theorem MR.lst_ {a : Addr} {rw : Bool} {ws : List W} (h : MR K m H a (.lst rw ws)) : ∃ vs, SqL K H a vs ∧ VRs K m H vs ws := by
  cases rw with
  | true => obtain ⟨vs, h1, h2⟩ := h; exact ⟨vs, .inl (.inl h1), h2⟩
  | false =>
    obtain ⟨vs, h1, h2⟩ := h
    refine ⟨vs, ?_, h2⟩
    rcases h1 with h1 | ⟨o, its, n, h⟩
    · exact .inl h1
    · exact .inr ⟨o, its, n, h⟩
theorem MR.dic_ {a : Addr} {rw : Bool} {kws : List (Key × W)} (h : MR K m H a (.dic rw kws)) : ∃ kvs, Rd H a (.dK kvs) ∧ KR K m H kvs kws := by
  cases rw with
  | true => obtain ⟨vs, h1, h2⟩ := h; exact ⟨vs, .inl h1, h2⟩
  | false => exact h
theorem Post.none_ {α β : Type} {rel : List Addr → Hp → β → α → Prop} {Q : β → Hp → Prop} (h : Post K XR Wx m H σ rel none Q) : False := h
/-- a new list -/
theorem Post.newL {ws : List W} {vs : List V} {Q : V → Hp → Prop} (h : Post K XR Wx m H σ (VR K) (newL ws S) Q) (hr : HR K m H S) (hv : VRs K m H vs ws) : ∀ p, H p = none → Q (.ref p) (upd H p (.lst vs)) := fun p hp => by
  have e : Ext K m H (m ++ [p]) (upd H p (.lst vs)) := (Ext.new hp).snoc p
  refine Post.ok' h e (hr.laid hp ⟨vs, upd_same, hv.ext e⟩) (.ref ?_)
  rw [← hr.len, List.getElem?_append_right (Nat.le_refl _)]
  simp
end

/-- a two-place operation by the core -/
def rC (K : PySem.W.Frag) (XR : XRel) (Wx : WX) (g : Sto → W → W → Rs W) : R2 := fun x y H Q => ∃ m S σ x' y', HR K m H S ∧ VR K m H x x' ∧ VR K m H y y' ∧ Post K XR Wx m H σ (VR K) (g S x' y') Q
section
variable {X : Cx} {XR : XRel} {Wx : WX}
theorem op_core_add : OpR X (binaryOp .Add) (rC X.K XR Wx fun S x y => op2 S .add x y) := by
  intro pins s σ' H x y v u Q I rx ry h
  obtain ⟨m, S, σ, x', y', hR, vx, vy, P⟩ := h
  cases vx with
  | int i =>
    cases vy with
    | int j => exact op_add pins s σ' H _ _ v u Q I rx ry ⟨i, j, rfl, rfl, Post.ok P hR (.int _)⟩
    | _ => exact (Post.none_ P).elim
  | str a =>
    cases vy with
    | str b =>
      by_cases hz : a.length + b.length ≤ sizeLine
      · simp only [op2, if_pos hz] at P
        exact op_add_str pins s σ' H _ _ v u Q I rx ry ⟨a, b, rfl, rfl, hz, Post.ok P hR (.str _)⟩
      · simp only [op2, if_neg hz] at P
        exact (Post.none_ P).elim
    | _ => exact (Post.none_ P).elim
  | @tup a vs ws ha ra =>
    cases vy with
    | @tup b us xs hb rb =>
      by_cases hz : ws.length + xs.length ≤ sizeLine
      · simp only [op2, if_pos hz] at P
        refine op_catA pins s σ' H _ _ v u Q I rx ry ⟨a, b, vs, us, rfl, rfl, ha, hb, by rw [ra.length, rb.length]; exact hz, fun e => ?_, fun _ e => ?_, fun _ _ p hp => ?_⟩
        · subst e
          cases ra
          exact Post.ok P hR (.tup hb rb)
        · subst e
          cases rb
          exact Post.ok P hR (.tup ha (by rw [List.append_nil]; exact ra))
        · exact Post.ok' P (Ext.new hp) (hR.fresh hp) (.tup (.inl (.inl upd_same)) ((ra.append rb).ext (Ext.new hp)))
      · simp only [op2, if_neg hz] at P
        exact (Post.none_ P).elim
    | _ => exact (Post.none_ P).elim
  | @ref n a hn =>
    cases vy with
    | @ref n' b hn' =>
      obtain ⟨o, ho⟩ := hR.old hn
      obtain ⟨o', ho'⟩ := hR.old hn'
      have ma := hR.at_ n a o hn ho
      have mb := hR.at_ n' b o' hn' ho'
      simp only [op2, ho, ho'] at P
      split at P
      · rename_i ws xs e1 e2
        cases e1
        cases e2
        obtain ⟨vs, h1, h2⟩ := ma
        obtain ⟨us, h3, h4⟩ := mb
        by_cases hz : ws.length + xs.length ≤ sizeLine
        · rw [if_pos hz] at P
          exact op_cat pins s σ' H _ _ v u Q I rx ry ⟨a, b, vs, us, rfl, rfl, h1, h3, by rw [h2.length, h4.length]; exact hz, Post.newL P hR (h2.append h4)⟩
        · rw [if_neg hz] at P
          exact (Post.none_ P).elim
      · exact (Post.none_ P).elim
    | _ => exact (Post.none_ P).elim
  | _ => cases vy <;> exact (Post.none_ P).elim
theorem op_core_sub : OpR X (binaryOp .Sub) (rC X.K XR Wx fun S x y => op2 S .sub x y) := by
  intro pins s σ' H x y v u Q I rx ry h
  obtain ⟨m, S, σ, x', y', hR, vx, vy, P⟩ := h
  cases vx with
  | int i =>
    cases vy with
    | int j => exact op_sub pins s σ' H _ _ v u Q I rx ry ⟨i, j, rfl, rfl, Post.ok P hR (.int _)⟩
    | _ => exact (Post.none_ P).elim
  | _ => cases vy <;> exact (Post.none_ P).elim
theorem mulOk_of {a : Str} {k : Int} (h1 : 1 ≤ k) (h2 : k ≤ 1000) (h3 : a.length ≤ 1000) : PySem.MulOk a k := by
  refine ⟨?_, fun _ _ => ?_, fun _ _ => ?_⟩
  · simp only [Bool.or_eq_false_iff, decide_eq_false_iff_not]
    omega
  · have : (1000 : Int) ≤ (2 ^ 63 - 1) / k := by
      rw [Int.le_ediv_iff_mul_le (by omega)]
      omega
    omega
  · have : a.length * k.toNat ≤ 1000 * 1000 := Nat.mul_le_mul h3 (by omega)
    unfold Builtin.Str.tooLong
    simp only [decide_eq_false_iff_not]
    have e : (sizeLine : Nat) = 16777216 := by decide
    omega
theorem op_core_mul : OpR X (binaryOp .Mult) (rC X.K XR Wx fun S x y => op2 S .mul x y) := by
  intro pins s σ' H x y v u Q I rx ry h
  obtain ⟨m, S, σ, x', y', hR, vx, vy, P⟩ := h
  cases vx with
  | int i =>
    cases vy with
    | int j =>
      by_cases hz : MulOk i j
      · simp only [op2, if_pos hz] at P
        rcases hz with hz | hz
        · exact op_mul pins s σ' H _ _ v u Q I rx ry ⟨i, j, rfl, rfl, hz, Post.ok P hR (.int _)⟩
        · exact op_mulW pins s σ' H _ _ v u Q I rx ry ⟨i, j, rfl, rfl, hz, Post.ok P hR (.int _)⟩
      · simp only [op2, if_neg hz] at P
        exact (Post.none_ P).elim
    | _ => exact (Post.none_ P).elim
  | @ref n a hn =>
    cases vy with
    | int k =>
      obtain ⟨o, ho⟩ := hR.old hn
      have ma := hR.at_ n a o hn ho
      simp only [op2, ho] at P
      split at P
      · rename_i ws e1
        cases e1
        obtain ⟨vs, h1, h2⟩ := ma
        by_cases hz : -(2 ^ 63) ≤ k ∧ k < 2 ^ 63 ∧ ws.length * k.toNat ≤ sizeLine
        · rw [if_pos hz] at P
          exact op_rep pins s σ' H _ _ v u Q I rx ry ⟨a, k, vs, rfl, rfl, h1, hz.1, hz.2.1, by rw [h2.length]; exact hz.2.2, Post.newL P hR (h2.reps _)⟩
        · rw [if_neg hz] at P
          exact (Post.none_ P).elim
      · exact (Post.none_ P).elim
    | _ => exact (Post.none_ P).elim
  | @tup a vs ws h1 h2 =>
    cases vy with
    | int k =>
      by_cases hz : ws ≠ [] ∧ 2 ≤ k ∧ k ≤ 1000 ∧ ws.length ≤ 1000
      · simp only [op2, if_pos hz] at P
        refine op_repT pins s σ' H _ _ v u Q I rx ry ⟨a, k, vs, rfl, rfl, h1, fun e => ?_, hz.2.1, hz.2.2.1, by rw [h2.length]; exact hz.2.2.2, fun p hp => Post.ok' P (Ext.new hp) (hR.fresh hp) (.tup (.inl (.inl upd_same)) ((h2.reps _).ext (Ext.new hp)))⟩
        subst e
        cases h2
        exact hz.1 rfl
      · simp only [op2, if_neg hz] at P
        exact (Post.none_ P).elim
    | _ => exact (Post.none_ P).elim
  | str a =>
    cases vy with
    | int k =>
      by_cases hz : 1 ≤ k ∧ k ≤ 1000 ∧ a.length ≤ 1000
      · simp only [op2, if_pos hz] at P
        obtain ⟨t1, rfl⟩ := rx
        obtain ⟨t2, rfl⟩ := ry
        exact SB.mul (mulOk_of hz.1 hz.2.1 hz.2.2) fun t' kk => ⟨.str _, H, Inv.kept I (fun b u q => q), ⟨t', rfl⟩, Post.ok P hR (.str _)⟩
      · simp only [op2, if_neg hz] at P
        exact (Post.none_ P).elim
    | _ => exact (Post.none_ P).elim
  | _ => cases vy <;> exact (Post.none_ P).elim
theorem op_core_fdiv : OpR X (binaryOp .FloorDiv) (rC X.K XR Wx fun S x y => op2 S .fdiv x y) := by
  intro pins s σ' H x y v u Q I rx ry h
  obtain ⟨m, S, σ, x', y', hR, vx, vy, P⟩ := h
  cases vx with
  | int i =>
    cases vy with
    | int j =>
      by_cases hz : CDivN i j ∨ CDivW i j
      · simp only [op2, if_pos hz] at P
        rcases hz with hz | hz
        · exact op_fdivN pins s σ' H _ _ v u Q I rx ry ⟨i, j, rfl, rfl, hz, Post.ok P hR (.int _)⟩
        · refine op_fdivW pins s σ' H _ _ v u Q I rx ry ⟨i, j, rfl, rfl, hz, ?_⟩
          have e : i.fdiv j = i / j := Int.fdiv_eq_ediv_of_nonneg i (by have h1 : (0 : Int) < j := hz.1; omega)
          rw [e] at P
          exact Post.ok P hR (.int _)
      · simp only [op2, if_neg hz] at P
        exact (Post.none_ P).elim
    | _ => exact (Post.none_ P).elim
  | _ => cases vy <;> exact (Post.none_ P).elim
theorem op_core_mod : OpR X (binaryOp .Mod) (rC X.K XR Wx fun S x y => op2 S .mod x y) := by
  intro pins s σ' H x y v u Q I rx ry h
  obtain ⟨m, S, σ, x', y', hR, vx, vy, P⟩ := h
  cases vx with
  | int i =>
    cases vy with
    | int j =>
      by_cases hz : j ≠ 0
      · simp only [op2, if_pos hz] at P
        exact op_modN pins s σ' H _ _ v u Q I rx ry ⟨i, j, rfl, rfl, hz, Post.ok P hR (.int _)⟩
      · simp only [op2, if_neg hz] at P
        exact (Post.none_ P).elim
    | _ => exact (Post.none_ P).elim
  | _ => cases vy <;> exact (Post.none_ P).elim
theorem op_core_pow : OpR X (binaryOp .Pow) (rC X.K XR Wx fun S x y => op2 S .pow x y) := by
  intro pins s σ' H x y v u Q I rx ry h
  obtain ⟨m, S, σ, x', y', hR, vx, vy, P⟩ := h
  cases vx with
  | int i =>
    cases vy with
    | int j =>
      by_cases hz : CPow i j
      · simp only [op2, if_pos hz] at P
        exact op_pow pins s σ' H _ _ v u Q I rx ry ⟨i, j, rfl, rfl, hz, Post.ok P hR (.int _)⟩
      · simp only [op2, if_neg hz] at P
        exact (Post.none_ P).elim
    | _ => exact (Post.none_ P).elim
  | _ => cases vy <;> exact (Post.none_ P).elim
theorem op_core (o : Op2) : OpR X (binaryOp (opO o)) (rC X.K XR Wx fun S x y => op2 S o x y) := by
  cases o with
  | add => exact op_core_add
  | sub => exact op_core_sub
  | mul => exact op_core_mul
  | fdiv => exact op_core_fdiv
  | mod => exact op_core_mod
  | pow => exact op_core_pow
end

/-! ### what a value reads as -/
section
variable {K : PySem.W.Frag} {m : List Addr} {H : Hp} {S : Sto}
theorem mapM_cons_some {α β : Type} {f : α → Option β} {x : α} {xs : List α} {ys : List β} (h : (x :: xs).mapM f = some ys) : ∃ y r, f x = some y ∧ xs.mapM f = some r ∧ ys = y :: r := by
  rw [List.mapM_cons] at h
  cases e : f x with
  | none => rw [e] at h; cases h
  | some y =>
    rw [e] at h
    cases e2 : xs.mapM f with
    | none => rw [e2] at h; cases h
    | some r =>
      rw [e2] at h
      cases h
      exact ⟨y, r, rfl, rfl, rfl⟩
theorem dpAll_of {n : Nat} (ih : ∀ (w : W) (v : V) (d : PyData), VR K m H v w → readD n S w = some d → d.hasDict = false → Dp K H v d) :
    ∀ (ws : List W) (vs : List V) (ds : List PyData), VRs K m H vs ws → ws.mapM (readD n S) = some ds → PyData.hasDictAll ds = false → DpAll K H vs ds
  | [], _, ds, .nil, h, _ => by
    simp at h
    subst h
    exact .nil
  | w :: ws, _, ds, .cons hv hr, h, hd => by
    obtain ⟨y, r, h1, h2, rfl⟩ := mapM_cons_some h
    simp only [PyData.hasDictAll, Bool.or_eq_false_iff] at hd
    exact .cons (ih w _ y hv h1 hd.1) (dpAll_of ih ws _ r hr h2 hd.2)
theorem dp_of (hR : HR K m H S) : ∀ (n : Nat) (w : W) (v : V) (d : PyData), VR K m H v w → readD n S w = some d → d.hasDict = false → Dp K H v d
  | 0, _, _, _, _, h, _ => by cases h
  | n + 1, w, v, d, hv, h, hd => by
    cases hv with
    | non => simp [readD] at h; subst h; exact .non
    | bl b => simp [readD] at h; subst h; exact .bl b
    | int i => simp [readD] at h; subst h; exact .int i
    | str x => simp [readD] at h; subst h; exact .str x
    | @tup a vs ws hs hr =>
      simp only [readD, Option.map_eq_some_iff] at h
      obtain ⟨ds, h1, rfl⟩ := h
      simp only [PyData.hasDict] at hd
      exact .tup hs (dpAll_of (fun w v d => dp_of hR n w v d) ws vs ds hr h1 hd)
    | @ref k a hk =>
      obtain ⟨o, ho⟩ := hR.old hk
      have ma := hR.at_ k a o hk ho
      simp only [readD, ho] at h
      cases o with
      | lst rw ws =>
        simp only [Option.map_eq_some_iff] at h
        obtain ⟨ds, h1, rfl⟩ := h
        obtain ⟨vs, h2, h3⟩ := ma.lst_
        simp only [PyData.hasDict] at hd
        exact .lst h2 (dpAll_of (fun w v d => dp_of hR n w v d) ws vs ds h3 h1 hd)
      | dic rw kws =>
        simp only [Option.map_eq_some_iff] at h
        obtain ⟨ds, h1, rfl⟩ := h
        simp [PyData.hasDict] at hd
mutual
theorem noDict_of_canLay : ∀ d : PyData, d.canLay0 = true → d.hasDict = false := PyData.hasDict_of_canLay
end
end

/-! ### comparisons -/
section
variable {X : Cx} {XR : XRel} {Wx : WX}
theorem Post.lift {α β : Type} {K : PySem.W.Frag} {m : List Addr} {H : Hp} {σ : St} {S : Sto} {rel : List Addr → Hp → β → α → Prop} {o : Option α} {Q : β → Hp → Prop} (h : Post K XR Wx m H σ rel (liftW o S) Q) : ∃ a, o = some a ∧ Post K XR Wx m H σ rel (some (.ok a S)) Q := by
  cases o with
  | none => exact (Post.none_ h).elim
  | some a => exact ⟨a, rfl, h⟩
/-- a comparison by the core -/
def rCm (K : PySem.W.Frag) (XR : XRel) (Wx : WX) (c : Cm) : R2 := fun x y H Q => ∃ m S x' y' b, HR K m H S ∧ VR K m H x x' ∧ VR K m H y y' ∧ cmpW S c x' y' = some b ∧ Q (.bl b) H
theorem eqW_data {S : Sto} {x y : W} {b : Bool} {K : PySem.W.Frag} {m : List Addr} {H : Hp} {v u : V} (hR : HR K m H S) (hv : VR K m H v x) (hu : VR K m H u y) (h : eqD S x y = some b) :
    ∃ d e, Dp K H v d ∧ Dp K H u e ∧ SeqAt.shaped d = true ∧ SeqAt.shaped e = true ∧ b = PyData.eqv d e := by
  unfold eqD at h
  split at h
  · rename_i d e h1 h2
    split at h
    · rename_i h3
      cases h
      exact ⟨d, e, dp_of hR 60 x v d hv h1 (PyData.hasDict_of_canLay _ (SeqAt.canLay_of_shaped h3.1)), dp_of hR 60 y u e hu h2 (PyData.hasDict_of_canLay _ (SeqAt.canLay_of_shaped h3.2)), h3.1, h3.2, rfl⟩
    · cases h
  · cases h
/-- == of the core is == of the data or of scalars -/
theorem eqW_cases {S : Sto} {x y : W} {b : Bool} {K : PySem.W.Frag} {m : List Addr} {H : Hp} {v u : V} (hR : HR K m H S) (hv : VR K m H v x) (hu : VR K m H u y) (h : eqW S x y = some b) :
    (scal v u = true ∧ b = decide (v = u)) ∨ ∃ d e, Dp K H v d ∧ Dp K H u e ∧ SeqAt.shaped d = true ∧ SeqAt.shaped e = true ∧ b = PyData.eqv d e := by
  have key : eqD S x y = some b → (scal v u = true ∧ b = decide (v = u)) ∨ ∃ d e, Dp K H v d ∧ Dp K H u e ∧ SeqAt.shaped d = true ∧ SeqAt.shaped e = true ∧ b = PyData.eqv d e := fun q => .inr (eqW_data hR hv hu q)
  cases hv with
  | int i =>
    cases hu with
    | int j => simp only [eqW, Option.some.injEq] at h; subst h; exact .inl ⟨rfl, by simp⟩
    | _ => exact key h
  | str i =>
    cases hu with
    | str j => simp only [eqW, Option.some.injEq] at h; subst h; exact .inl ⟨rfl, by simp⟩
    | _ => exact key h
  | bl i =>
    cases hu with
    | bl j => simp only [eqW, Option.some.injEq] at h; subst h; exact .inl ⟨rfl, by simp⟩
    | _ => exact key h
  | non =>
    cases hu with
    | non => simp only [eqW, Option.some.injEq] at h; subst h; exact .inl ⟨rfl, by simp⟩
    | _ => exact key h
  | tup h1 h2 => cases hu <;> exact key h
  | ref h1 => cases hu <;> exact key h
theorem cm_core_eq (hu : X.A.units + 64 < cLine) : OpR X (compareOp .Eq) (rCm X.K XR Wx .eq) := by
  intro pins s σ' H x y v u Q I rx ry h
  obtain ⟨m, S, x', y', b, hR, vx, vy, e, q⟩ := h
  rcases eqW_cases hR vx vy e with ⟨h1, rfl⟩ | ⟨d, d', h1, h2, h3, h4, rfl⟩
  · exact op_eq pins s σ' H x y v u Q I rx ry ⟨h1, q⟩
  · exact op_eqD hu pins s σ' H x y v u Q I rx ry ⟨d, d', h1, h2, h3, h4, q⟩
theorem cm_core_ne (hu : X.A.units + 64 < cLine) : OpR X (compareOp .NotEq) (rCm X.K XR Wx .ne) := by
  intro pins s σ' H x y v u Q I rx ry h
  obtain ⟨m, S, x', y', b, hR, vx, vy, e, q⟩ := h
  simp only [cmpW, Option.map_eq_some_iff] at e
  obtain ⟨b, e, rfl⟩ := e
  rcases eqW_cases hR vx vy e with ⟨h1, rfl⟩ | ⟨d, d', h1, h2, h3, h4, rfl⟩
  · exact op_ne pins s σ' H x y v u Q I rx ry ⟨h1, q⟩
  · exact op_neD hu pins s σ' H x y v u Q I rx ry ⟨d, d', h1, h2, h3, h4, q⟩
theorem cm_core_lt : OpR X (compareOp .Lt) (rCm X.K XR Wx .lt) := by
  intro pins s σ' H x y v u Q I rx ry h
  obtain ⟨m, S, x', y', b, hR, vx, vy, e, q⟩ := h
  cases vx <;> cases vy <;> simp only [cmpW, Option.some.injEq, reduceCtorEq] at e
  · subst e; exact op_lt pins s σ' H _ _ v u Q I rx ry ⟨_, _, rfl, rfl, q⟩
  · subst e; exact op_lt_str pins s σ' H _ _ v u Q I rx ry ⟨_, _, rfl, rfl, q⟩
theorem cm_core_le : OpR X (compareOp .LtE) (rCm X.K XR Wx .le) := by
  intro pins s σ' H x y v u Q I rx ry h
  obtain ⟨m, S, x', y', b, hR, vx, vy, e, q⟩ := h
  cases vx <;> cases vy <;> simp only [cmpW, Option.some.injEq, reduceCtorEq] at e
  · subst e; exact op_le pins s σ' H _ _ v u Q I rx ry ⟨_, _, rfl, rfl, q⟩
  · subst e; exact op_le_str pins s σ' H _ _ v u Q I rx ry ⟨_, _, rfl, rfl, q⟩
theorem cm_core_gt : OpR X (compareOp .Gt) (rCm X.K XR Wx .gt) := by
  intro pins s σ' H x y v u Q I rx ry h
  obtain ⟨m, S, x', y', b, hR, vx, vy, e, q⟩ := h
  cases vx <;> cases vy <;> simp only [cmpW, Option.some.injEq, reduceCtorEq] at e
  · subst e; exact op_gt pins s σ' H _ _ v u Q I rx ry ⟨_, _, rfl, rfl, q⟩
  · subst e; exact op_gt_str pins s σ' H _ _ v u Q I rx ry ⟨_, _, rfl, rfl, q⟩
theorem cm_core_ge : OpR X (compareOp .GtE) (rCm X.K XR Wx .ge) := by
  intro pins s σ' H x y v u Q I rx ry h
  obtain ⟨m, S, x', y', b, hR, vx, vy, e, q⟩ := h
  cases vx <;> cases vy <;> simp only [cmpW, Option.some.injEq, reduceCtorEq] at e
  · subst e; exact op_ge pins s σ' H _ _ v u Q I rx ry ⟨_, _, rfl, rfl, q⟩
  · subst e; exact op_ge_str pins s σ' H _ _ v u Q I rx ry ⟨_, _, rfl, rfl, q⟩
theorem cm_core_isN : OpR X (compareOp .Is) (rCm X.K XR Wx .isN) := by
  intro pins s σ' H x y v u Q I rx ry h
  obtain ⟨m, S, x', y', b, hR, vx, vy, e, q⟩ := h
  cases vy <;> simp only [cmpW, Option.some.injEq, reduceCtorEq] at e
  subst e
  refine op_isN pins s σ' H _ _ v u Q I rx ry ⟨rfl, ?_⟩
  cases vx <;> simpa using q
theorem cm_core_notN : OpR X (compareOp .IsNot) (rCm X.K XR Wx .notN) := by
  intro pins s σ' H x y v u Q I rx ry h
  obtain ⟨m, S, x', y', b, hR, vx, vy, e, q⟩ := h
  cases vy <;> simp only [cmpW, Option.some.injEq, reduceCtorEq] at e
  subst e
  refine op_notN pins s σ' H _ _ v u Q I rx ry ⟨rfl, ?_⟩
  cases vx <;> simpa using q
theorem items_of {K : PySem.W.Frag} {m : List Addr} {H : Hp} {S : Sto} {v : V} {w : W} {ws : List W} (hR : HR K m H S) (hv : VR K m H v w) (h : itemsW S w = some ws) : ∃ a vs, v = .ref a ∧ (SqL K H a vs ∨ SqT K H a vs) ∧ VRs K m H vs ws := by
  cases hv with
  | tup h1 h2 => simp only [itemsW, Option.some.injEq] at h; subst h; exact ⟨_, _, rfl, .inr h1, h2⟩
  | @ref n a hn =>
    obtain ⟨o, ho⟩ := hR.old hn
    have ma := hR.at_ n a o hn ho
    simp only [itemsW, ho] at h
    cases o with
    | lst rw xs => simp only [Option.some.injEq] at h; subst h; obtain ⟨vs, h1, h2⟩ := ma.lst_; exact ⟨a, vs, rfl, .inl h1, h2⟩
    | dic rw xs => simp at h
  | _ => simp [itemsW] at h
theorem flat_of {K : PySem.W.Frag} {m : List Addr} {H : Hp} {v : V} {w : W} (hv : VR K m H v w) (h : flatW w = true) : flatV v = true := by
  cases hv <;> first | rfl | (simp [flatW] at h)
theorem flats_of {K : PySem.W.Frag} {m : List Addr} {H : Hp} : ∀ {vs : List V} {ws : List W}, VRs K m H vs ws → ws.all flatW = true → vs.all flatV = true
  | _, _, .nil, _ => rfl
  | _, _, .cons h r, e => by
    simp only [List.all_cons, Bool.and_eq_true] at e ⊢
    exact ⟨flat_of h e.1, flats_of r e.2⟩
theorem eqF_of {K : PySem.W.Frag} {m : List Addr} {H : Hp} {v u : V} {w x : W} (hv : VR K m H v w) (hu : VR K m H u x) (h1 : flatW w = true) (h2 : flatW x = true) : eqV v u = eqF w x := by
  cases hv <;> cases hu <;> first | rfl | (simp [flatW] at h1) | (simp [flatW] at h2)
theorem inF_of {K : PySem.W.Frag} {m : List Addr} {H : Hp} {u : V} {x : W} (hu : VR K m H u x) (hx : flatW x = true) : ∀ {vs : List V} {ws : List W}, VRs K m H vs ws → ws.all flatW = true → inV u vs = ws.any fun y => eqF y x
  | _, _, .nil, _ => rfl
  | _, _, .cons h r, e => by
    simp only [List.all_cons, Bool.and_eq_true] at e
    have ih := inF_of hu hx r e.2
    unfold inV at ih ⊢
    rw [List.any_cons, List.any_cons, ih, eqF_of h hu e.1 hx]
theorem cm_core_in : OpR X (compareOp .In) (rCm X.K XR Wx .in_) := by
  intro pins s σ' H x y v u Q I rx ry h
  obtain ⟨m, S, x', y', b, hR, vx, vy, e, q⟩ := h
  have gen : (match itemsW S y' with
    | some ws => if flatW x' = true ∧ ws.all flatW = true then some (ws.any fun y => eqF y x') else none
    | none => none) = some b → wpAny (model X.prog X.w) X.A (compareOp .In v u) (EP X pins σ' Q) X.xe s := fun e => by
    split at e
    · rename_i ws hw
      split at e
      · rename_i hf
        cases e
        obtain ⟨a, vs, rfl, h1, h2⟩ := items_of hR vy hw
        refine op_in_seq pins s σ' H _ _ v u Q I rx ry ⟨a, vs, rfl, h1, flat_of vx hf.1, flats_of h2 hf.2, ?_⟩
        rw [← inF_of vx hf.1 h2 hf.2] at q
        exact q
      · cases e
    · cases e
  cases vx <;> cases vy <;> first
    | (simp only [cmpW, Option.some.injEq] at e; subst e; exact op_in_str pins s σ' H _ _ v u Q I rx ry ⟨_, _, rfl, rfl, q⟩)
    | exact gen e
theorem cm_core_nin : OpR X (compareOp .NotIn) (rCm X.K XR Wx .nin) := by
  intro pins s σ' H x y v u Q I rx ry h
  obtain ⟨m, S, x', y', b, hR, vx, vy, e, q⟩ := h
  have gen : (match itemsW S y' with
    | some ws => if flatW x' = true ∧ ws.all flatW = true then some (!ws.any fun y => eqF y x') else none
    | none => none) = some b → wpAny (model X.prog X.w) X.A (compareOp .NotIn v u) (EP X pins σ' Q) X.xe s := fun e => by
    split at e
    · rename_i ws hw
      split at e
      · rename_i hf
        cases e
        obtain ⟨a, vs, rfl, h1, h2⟩ := items_of hR vy hw
        refine op_notIn_seq pins s σ' H _ _ v u Q I rx ry ⟨a, vs, rfl, h1, flat_of vx hf.1, flats_of h2 hf.2, ?_⟩
        rw [← inF_of vx hf.1 h2 hf.2] at q
        exact q
      · cases e
    · cases e
  cases vx <;> cases vy <;> first
    | (simp only [cmpW, Option.some.injEq] at e; subst e; exact op_notIn_str pins s σ' H _ _ v u Q I rx ry ⟨_, _, rfl, rfl, q⟩)
    | exact gen e
theorem cm_core (hu : X.A.units + 64 < cLine) (c : Cm) : OpR X (compareOp (cmO c)) (rCm X.K XR Wx c) := by
  cases c with
  | eq => exact cm_core_eq hu
  | ne => exact cm_core_ne hu
  | lt => exact cm_core_lt
  | le => exact cm_core_le
  | gt => exact cm_core_gt
  | ge => exact cm_core_ge
  | isN => exact cm_core_isN
  | notN => exact cm_core_notN
  | in_ => exact cm_core_in
  | nin => exact cm_core_nin

/-! ### truth -/
theorem tru_of {K : PySem.W.Frag} {m : List Addr} {H : Hp} {S : Sto} {v : V} {w : W} {b : Bool} (hR : HR K m H S) (hv : VR K m H v w) (h : truW S w = some b) : TruV K v H b := by
  cases hv with
  | non => simp only [truW, Option.some.injEq] at h; exact h.symm
  | bl c => simp only [truW, Option.some.injEq] at h; exact h.symm
  | int i => simp only [truW, Option.some.injEq] at h; exact h.symm
  | str x =>
    simp only [truW] at h
    split at h
    · rename_i hz
      simp only [Option.some.injEq] at h
      exact ⟨hz, h.symm⟩
    · cases h
  | tup h1 h2 =>
    simp only [truW, Option.some.injEq] at h
    exact .inr (.inl ⟨_, h1, by rw [h2.isEmpty]; exact h.symm⟩)
  | @ref n a hn =>
    obtain ⟨o, ho⟩ := hR.old hn
    have ma := hR.at_ n a o hn ho
    simp only [truW, ho] at h
    cases o with
    | lst rw xs =>
      simp only [Option.some.injEq] at h
      obtain ⟨vs, h1, h2⟩ := ma.lst_
      exact .inl ⟨vs, h1, by rw [h2.isEmpty]; exact h.symm⟩
    | dic rw kws =>
      cases rw with
      | true =>
        simp only [Option.some.injEq] at h
        obtain ⟨kvs, h1, h2⟩ := ma
        refine .inr (.inr ⟨kvs, h1, ?_⟩)
        rw [← h]
        cases h2 <;> rfl
      | false => simp at h
end
end Co
namespace Co
open PySem L2

section
variable {K : PySem.W.Frag} {XR : XRel} {Wx : WX} {m : List Addr} {H : Hp} {S : Sto}
/-! ### subscripts -/
theorem atI_VR {vs : List V} {ws : List W} {i : Int} {w : W} (r : VRs K m H vs ws) (h : atI ws i = some w) : ∃ v, atI vs i = some v ∧ VR K m H v w := by
  unfold atI at h ⊢
  rw [r.length]
  cases e : ixN ws.length i with
  | none => rw [e] at h; cases h
  | some j =>
    rw [e] at h
    obtain ⟨v, h1, h2⟩ := r.get (show ws[j]? = some w from h)
    exact ⟨v, h1, h2⟩
theorem valD_KR {kv : List (Key × V)} {kw : List (Key × W)} (r : KR K m H kv kw) (k : Key) : (valD kw k = none ∧ valV kv k = none) ∨ ∃ v w, valD kw k = some w ∧ valV kv k = some v ∧ VR K m H v w := by
  unfold KR at r
  induction r with
  | nil => exact .inl ⟨rfl, rfl⟩
  | @cons p q ps qs h t ih =>
    obtain ⟨h1, h2⟩ := h
    by_cases e : p.1 = k
    · refine .inr ⟨p.2, q.2, ?_, ?_, h2⟩
      · unfold valD
        rw [List.find?_cons, show decide (q.1 = k) = true by rw [← h1]; simpa using e]
        rfl
      · exact valV_pos e
    · have e1 : valD (q :: qs) k = valD qs k := by
        unfold valD
        rw [List.find?_cons, show decide (q.1 = k) = false by rw [← h1]; simpa using e]
      have e2 : valV (p :: ps) k = valV ps k := valV_neg e
      rw [e1, e2]
      exact ih
theorem putD_KR {kv : List (Key × V)} {kw : List (Key × W)} {v : V} {w : W} (r : KR K m H kv kw) (k : Key) (h : VR K m H v w) : KR K m H (putK kv k v) (putD kw k w) := by
  have ea : (kv.any fun x => decide (x.1 = k)) = kw.any fun x => decide (x.1 = k) := by
    unfold KR at r
    induction r with
    | nil => rfl
    | cons h t ih => rw [List.any_cons, List.any_cons, ih, h.1]
  unfold putK putD
  rw [ea]
  split
  · rename_i hs
    unfold KR at r ⊢
    clear ea hs
    induction r with
    | nil => exact .nil
    | @cons p q ps qs h' t ih =>
      rw [List.map_cons, List.map_cons]
      refine .cons ?_ ih
      by_cases e : p.1 = k
      · rw [if_pos e, if_pos (h'.1 ▸ e)]
        exact ⟨h'.1, h⟩
      · rw [if_neg e, if_neg (h'.1 ▸ e)]
        exact h'
  · rename_i hs
    unfold KR at r ⊢
    clear ea hs
    induction r with
    | nil => exact .cons ⟨rfl, h⟩ .nil
    | cons h' t ih => exact .cons h' ih
theorem key_VR {y : V} {w : W} {k : Key} (h : VR K m H y w) (e : keyW w = some k) : y = kV k := by
  cases h <;> simp [keyW] at e <;> subst e <;> rfl
end

section
variable {X : Cx} {XR : XRel} {Wx : WX}
/-- a[i] by the core -/
def rIxC (K : PySem.W.Frag) : R2 := fun x y H Q => ∃ m S x' y' w, HR K m H S ∧ VR K m H x x' ∧ VR K m H y y' ∧ ixW S x' y' = some w ∧ ∀ v, VR K m H v w → Q v H
theorem ix_core {a b : Expr} {ta tb : TE} {pos : Pos} (hu : X.A.units + 1 < cLine) (ha : PE X a ta) (hb : PE X b tb) (hs : PlainIx b) : PE X (.Subscript a b pos) (tOp (rIxC X.K) ta tb) := by
  refine ⟨fun pins s σ H Q I h => ?_⟩
  have key : ∃ x' : Bool, True := ⟨true, trivial⟩
  refine Calls_sub a b pins s σ H Q I ha hb hs hu h
where
  Calls_sub (a b : Expr) {ta tb : TE} {pos : Pos} (pins : List (Addr × Obj)) (s : Shared) (σ : St) (H : Hp) (Q : VK) (I : Inv X pins σ H s) (ha : PE X a ta) (hb : PE X b tb) (hs : PlainIx b) (hu : X.A.units + 1 < cLine)
      (h : tOp (rIxC X.K) ta tb σ H Q) : wpAny (model X.prog X.w) X.A (eval (.Subscript a b pos) X.env) (EP X pins σ Q) X.xe s := by
    refine PyProof.Rows.Subscript_ (binT ha hb I h fun v u s2 x y H2 I2 rx ry q => ?_)
    obtain ⟨m, S, x', y', w, hR, vx, vy, e, q⟩ := q
    cases vx with
    | @tup p vs ws h1 h2 =>
      cases vy with
      | int i =>
        simp only [ixW] at e
        obtain ⟨z, e1, e2⟩ := atI_VR h2 e
        exact ix_tup a b pins s2 σ H2 _ _ v u Q I2 rx ry ⟨p, vs, i, z, rfl, rfl, h1, e1, q z e2⟩ (hs _ _)
      | _ => simp [ixW] at e
    | str z =>
      cases vy with
      | int i =>
        simp only [ixW] at e
        split at e
        · rename_i hz
          simp only [Option.map_eq_some_iff] at e
          obtain ⟨c, e1, rfl⟩ := e
          exact ix_str a b pins s2 σ H2 _ _ v u Q I2 rx ry ⟨z, i, c, rfl, rfl, hz, e1, q _ (.str _)⟩ (hs _ _)
        · cases e
      | _ => simp [ixW] at e
    | @ref n p hn =>
      obtain ⟨o, ho⟩ := hR.old hn
      have ma := hR.at_ n p o hn ho
      cases o with
      | lst rw ws =>
        obtain ⟨vs, h1, h2⟩ := ma.lst_
        cases vy with
        | int i =>
          simp only [ixW, ho] at e
          obtain ⟨z, e1, e2⟩ := atI_VR h2 e
          exact ix_list a b pins s2 σ H2 _ _ v u Q I2 rx ry ⟨p, vs, i, z, rfl, rfl, h1, e1, q z e2⟩ (hs _ _)
        | _ => simp [ixW, ho] at e
      | dic rw kws =>
        obtain ⟨kvs, h1, h2⟩ := ma.dic_
        simp only [ixW, ho] at e
        split at e
        · rename_i k hk
          have ey := key_VR vy hk
          rcases valD_KR h2 k with ⟨z, _⟩ | ⟨v1, w1, z1, z2, z3⟩
          · rw [z] at e; cases e
          · rw [z1] at e
            cases e
            have g : DGet H2 p y (some v1) := .inl ⟨kvs, k, h1, ey, z2.symm⟩
            cases rx
            exact PyProof.Rows.tail_any (dict_typeIs I2 g) PySem.F.slot_dict_getitem.lookup (d_getItem hu I2 g ry fun w' s3 I3 rw' => ⟨v1, H2, I3, rw', q v1 z3⟩) (hs _ _)
        · cases e
    | _ => cases vy <;> simp [ixW] at e

/-! ### slices -/
def rSlC (K : PySem.W.Frag) (XR : XRel) (Wx : WX) : V → Option Int → Option Int → Hp → VK → Prop := fun x lo hi H Q => ∃ m S σ x', HR K m H S ∧ VR K m H x x' ∧ Post K XR Wx m H σ (VR K) (slW S lo hi x') Q
theorem sl_core : SlR X (rSlC X.K XR Wx) := by
  intro pins s σ H x v vl vu lo hi sl Q I rx hs pl pu h
  obtain ⟨m, S, σ', x', hR, vx, P⟩ := h
  cases vx with
  | @tup a vs ws h1 h2 =>
    simp only [slW] at P
    refine sl_tupA pins s σ H _ v vl vu lo hi sl Q I rx hs pl pu ⟨a, vs, rfl, h1, fun hw => ?_, fun hw p hp => ?_⟩
    · refine Post.ok P hR (.tup h1 ?_)
      have e : cutV vs lo hi = vs := by
        unfold cutV
        rw [hw.1, hw.2, List.drop_zero, Nat.sub_zero, List.take_length]
      have := h2.cut lo hi
      rw [e] at this
      exact this
    · exact Post.ok' P (Ext.new hp) (hR.fresh hp) (.tup (.inl (.inl upd_same)) ((h2.cut lo hi).ext (Ext.new hp)))
  | str z =>
    simp only [slW] at P
    split at P
    · rename_i hz
      exact sl_str pins s σ H _ v vl vu lo hi sl Q I rx hs pl pu ⟨z, rfl, hz, Post.ok P hR (.str _)⟩
    · exact (Post.none_ P).elim
  | @ref n a hn =>
    obtain ⟨o, ho⟩ := hR.old hn
    have ma := hR.at_ n a o hn ho
    simp only [slW, ho] at P
    cases o with
    | lst rw ws =>
      obtain ⟨vs, h1, h2⟩ := ma.lst_
      exact sl_list pins s σ H _ v vl vu lo hi sl Q I rx hs pl pu ⟨a, vs, rfl, h1, Post.newL P hR (h2.cut lo hi)⟩
    | dic rw kws => exact (Post.none_ P).elim
  | _ => exact (Post.none_ P).elim
end
end Co
namespace Co
open PySem L2

section
variable {K : PySem.W.Frag} {m : List Addr} {H : Hp} {S : Sto}
/-! ### built-ins -/
def rB (K : PySem.W.Frag) (XR : XRel) (Wx : WX) (f : Blt) : List V → Hp → VK → Prop := fun xs H Q => ∃ m S σ ws, HR K m H S ∧ VRs K m H xs ws ∧ Post K XR Wx m H σ (VR K) (bltW S f ws) Q
theorem ints_VR : ∀ {vs : List V} {ws : List W} {l : List Int}, VRs K m H vs ws → intsW ws = some l → vs = l.map V.int
  | _, _, l, .nil, h => by simp [intsW] at h; subst h; rfl
  | _, _, l, .cons hv r, h => by
    cases hv with
    | int i =>
      simp only [intsW, Option.map_eq_some_iff] at h
      obtain ⟨l', h1, rfl⟩ := h
      rw [ints_VR r h1]
      rfl
    | _ => simp [intsW] at h
end
section
variable {X : Cx} {XR : XRel} {Wx : WX}
theorem vrs1 {K : PySem.W.Frag} {m : List Addr} {H : Hp} {xs : List V} {w : W} (r : VRs K m H xs [w]) : ∃ x, xs = [x] ∧ VR K m H x w := by
  cases r with
  | cons h t => cases t; exact ⟨_, rfl, h⟩
theorem vrs2 {K : PySem.W.Frag} {m : List Addr} {H : Hp} {xs : List V} {w u : W} (r : VRs K m H xs [w, u]) : ∃ x y, xs = [x, y] ∧ VR K m H x w ∧ VR K m H y u := by
  cases r with
  | cons h t =>
    obtain ⟨y, rfl, h2⟩ := vrs1 t
    exact ⟨_, y, rfl, h, h2⟩
theorem b_len : CallR X (.builtin "len") (rB X.K XR Wx .len) := by
  intro pins s σ' H xs us Q I r h
  obtain ⟨m, S, σ, ws, hR, hv, P⟩ := h
  unfold bltW at P
  split at P <;> rename_i e <;> first | (exact (Post.none_ P).elim) | (cases e; done) | skip
  · cases e
    rename_i w
    obtain ⟨x, rfl, hx⟩ := vrs1 hv
    obtain ⟨n, hn, P⟩ := Post.lift P
    simp only [Option.map_eq_some_iff] at hn
    obtain ⟨n, hn, rfl⟩ := hn
    refine call_len pins s σ' H _ us Q I r ⟨x, n, rfl, ?_, Post.ok P hR (.int _)⟩
    have gen : (itemsW S w).map (·.length) = some n → LenV X.K x H n := fun h => by
      simp only [Option.map_eq_some_iff] at h
      obtain ⟨ws, h1, rfl⟩ := h
      obtain ⟨a, vs, rfl, h2, h3⟩ := items_of hR hx h1
      rw [← h3.length]
      exact h2.imp (fun q => ⟨vs, q, rfl⟩) fun q => ⟨vs, q, rfl⟩
    cases hx with
    | str z =>
      simp only [lenW] at hn
      split at hn
      · rename_i hz
        simp only [Option.some.injEq] at hn
        exact ⟨hz, hn.symm⟩
      · cases hn
    | _ => exact gen hn
theorem b_int : CallR X (.type "int") (rB X.K XR Wx .int) := by
  intro pins s σ' H xs us Q I r h
  obtain ⟨m, S, σ, ws, hR, hv, P⟩ := h
  unfold bltW at P
  split at P <;> rename_i e <;> first | (exact (Post.none_ P).elim) | (cases e; done) | skip
  · obtain ⟨x, rfl, hx⟩ := vrs1 hv
    cases hx
    exact call_int1 pins s σ' H _ us Q I r (.inl ⟨_, rfl, Post.ok P hR (.int _)⟩)
  · obtain ⟨x, rfl, hx⟩ := vrs1 hv
    cases hx
    exact call_int1 pins s σ' H _ us Q I r (.inr ⟨_, rfl, Post.ok P hR (.int _)⟩)
  · obtain ⟨x, rfl, hx⟩ := vrs1 hv
    cases hx
    split at P
    · rename_i n hn
      split at P
      · rename_i hz
        exact call_int_str pins s σ' H _ us Q I r ⟨_, n, rfl, hn, hz, Post.ok P hR (.int _)⟩
      · exact (Post.none_ P).elim
    · exact (Post.none_ P).elim
theorem b_tuple : CallR X (.type "tuple") (rB X.K XR Wx .tuple) := by
  intro pins s σ' H xs us Q I r h
  obtain ⟨m, S, σ, ws, hR, hv, P⟩ := h
  unfold bltW at P
  split at P <;> rename_i e <;> first | (exact (Post.none_ P).elim) | (cases e; done) | skip
  · obtain ⟨x, rfl, hx⟩ := vrs1 hv
    cases hx with
    | tup h1 h2 => exact call_tuple_of pins s σ' H _ us Q I r ⟨_, _, rfl, .inr ⟨h1, Post.ok P hR (.tup h1 h2)⟩⟩
  · obtain ⟨x, rfl, hx⟩ := vrs1 hv
    cases hx with
    | @ref n a hn =>
      obtain ⟨o, ho⟩ := hR.old hn
      have ma := hR.at_ _ a o hn ho
      simp only [ho] at P
      cases o with
      | lst rw ws =>
        obtain ⟨vs, h1, h2⟩ := ma.lst_
        exact call_tuple_of pins s σ' H _ us Q I r ⟨_, _, rfl, .inl ⟨h1, fun l hl => Post.ok' P (Ext.new hl) (hR.fresh hl) (.tup (.inl (.inl upd_same)) (h2.ext (Ext.new hl)))⟩⟩
      | dic rw kws => exact (Post.none_ P).elim
theorem b_list : CallR X (.type "list") (rB X.K XR Wx .list) := by
  intro pins s σ' H xs us Q I r h
  obtain ⟨m, S, σ, ws, hR, hv, P⟩ := h
  unfold bltW at P
  split at P <;> rename_i e <;> first | (exact (Post.none_ P).elim) | (cases e; done) | skip
  · obtain ⟨x, rfl, hx⟩ := vrs1 hv
    split at P
    · rename_i ws hw
      obtain ⟨a, vs, rfl, h1, h2⟩ := items_of hR hx hw
      exact call_list_of pins s σ' H _ us Q I r ⟨a, vs, rfl, h1, Post.newL P hR h2⟩
    · exact (Post.none_ P).elim
theorem b_abs : CallR X (.builtin "abs") (rB X.K XR Wx .abs) := by
  intro pins s σ' H xs us Q I r h
  obtain ⟨m, S, σ, ws, hR, hv, P⟩ := h
  unfold bltW at P
  split at P <;> rename_i e <;> first | (exact (Post.none_ P).elim) | (cases e; done) | skip
  · obtain ⟨x, rfl, hx⟩ := vrs1 hv
    cases hx
    exact call_abs pins s σ' H _ us Q I r ⟨_, rfl, Post.ok P hR (.int _)⟩
theorem b_max2 (hc : X.calm = true) : CallR X (.builtin "max") (rB X.K XR Wx .max2) := by
  intro pins s σ' H xs us Q I r h
  obtain ⟨m, S, σ, ws, hR, hv, P⟩ := h
  unfold bltW at P
  split at P <;> rename_i e <;> first | (exact (Post.none_ P).elim) | (cases e; done) | skip
  · obtain ⟨x, y, rfl, hx, hy⟩ := vrs2 hv
    cases hx
    cases hy
    exact call_max2 hc pins s σ' H _ us Q I r ⟨_, _, rfl, Post.ok P hR (.int _)⟩
theorem b_min2 (hc : X.calm = true) : CallR X (.builtin "min") (rB X.K XR Wx .min2) := by
  intro pins s σ' H xs us Q I r h
  obtain ⟨m, S, σ, ws, hR, hv, P⟩ := h
  unfold bltW at P
  split at P <;> rename_i e <;> first | (exact (Post.none_ P).elim) | (cases e; done) | skip
  · obtain ⟨x, y, rfl, hx, hy⟩ := vrs2 hv
    cases hx
    cases hy
    exact call_min2 hc pins s σ' H _ us Q I r ⟨_, _, rfl, Post.ok P hR (.int _)⟩
theorem b_str : CallR X (.type "str") (rB X.K XR Wx .str) := by
  intro pins s σ' H xs us Q I r h
  obtain ⟨m, S, σ, ws, hR, hv, P⟩ := h
  unfold bltW at P
  split at P <;> rename_i e <;> first | (exact (Post.none_ P).elim) | (cases e; done) | skip
  · obtain ⟨x, rfl, hx⟩ := vrs1 hv
    cases hx
    split at P
    · rename_i hz
      exact call_str_int pins s σ' H _ us Q I r ⟨_, rfl, hz, Post.ok P hR (.str _)⟩
    · exact (Post.none_ P).elim
theorem b_sum (hc : X.calm = true) : CallR X (.builtin "sum") (rB X.K XR Wx .sum) := by
  intro pins s σ' H xs us Q I r h
  obtain ⟨m, S, σ, ws, hR, hv, P⟩ := h
  unfold bltW at P
  split at P <;> rename_i e <;> first | (exact (Post.none_ P).elim) | (cases e; done) | skip
  · obtain ⟨x, rfl, hx⟩ := vrs1 hv
    cases hx with
    | @ref n a hn =>
      obtain ⟨o, ho⟩ := hR.old hn
      have ma := hR.at_ _ a o hn ho
      simp only [ho] at P
      cases o with
      | lst rw ws =>
        obtain ⟨l, hl, P⟩ := Post.lift P
        simp only [Option.map_eq_some_iff] at hl
        obtain ⟨l, hl, rfl⟩ := hl
        obtain ⟨vs, h1, h2⟩ := ma.lst_
        exact cr_sum hc pins s σ' H _ us Q I r ⟨a, l, rfl, by rw [← ints_VR h2 hl]; exact h1, Post.ok P hR (.int _)⟩
      | dic rw kws => exact (Post.none_ P).elim
/-! ### isinstance -/
def tyN : Ty → String
  | .int => "int" | .bool => "bool" | .str => "str" | .tuple => "tuple" | .list => "list" | .dict => "dict"
theorem ints_VRs {K : PySem.W.Frag} {m : List Addr} {H : Hp} : ∀ l : List Int, VRs K m H (l.map V.int) (l.map W.int)
  | [] => .nil
  | i :: l => .cons (.int i) (ints_VRs l)
theorem b_sorted : CallR X (.builtin "sorted") (rB X.K XR Wx .sorted) := by
  intro pins s σ' H xs us Q I r h
  obtain ⟨m, S, σ, ws, hR, hv, P⟩ := h
  unfold bltW at P
  split at P <;> rename_i e <;> first | (exact (Post.none_ P).elim) | (cases e; done) | skip
  · obtain ⟨x, rfl, hx⟩ := vrs1 hv
    cases hx with
    | @ref n a hn =>
      obtain ⟨o, ho⟩ := hR.old hn
      have ma := hR.at_ _ a o hn ho
      simp only [ho] at P
      cases o with
      | lst rw ws =>
        simp only at P
        split at P
        · rename_i l hl
          obtain ⟨vs, h1, h2⟩ := ma.lst_
          have hvs := ints_VR h2 hl
          subst hvs
          refine cr_sortedI pins s σ' H _ us Q I r ⟨a, l, rfl, h1, fun ns' p hp hq hn' => ?_⟩
          have srt : (l.mergeSort fun a b => decide (a ≤ b)).Pairwise (· ≤ ·) := by
            have := List.pairwise_mergeSort (le := fun a b : Int => decide (a ≤ b)) (fun a b c h1 h2 => by simp only [decide_eq_true_eq] at *; omega) (fun a b => by simp only [Bool.or_eq_true, decide_eq_true_eq]; omega) l
            exact this.imp fun h => of_decide_eq_true h
          have e : ns' = l.mergeSort fun a b => decide (a ≤ b) := List.Perm.eq_of_pairwise (le := fun a b : Int => a ≤ b) (fun a b _ _ h1 h2 => Int.le_antisymm h1 h2) hq srt (hp.trans (List.mergeSort_perm l _).symm)
          subst e
          exact Post.newL P hR (ints_VRs _) p hn'
        · exact (Post.none_ P).elim
      | dic rw kws => exact (Post.none_ P).elim
theorem b_isi (t : Ty) : CallR X (.builtin "isinstance") (fun xs H Q => ∃ x, xs = [x, .ty (tyN t)] ∧ rB X.K XR Wx (.isi t) [x] H Q) := by
  intro pins s σ' H xs us Q I r h
  obtain ⟨x, rfl, m, S, σ, ws, hR, hv, P⟩ := h
  unfold bltW at P
  split at P <;> rename_i e <;> first | (exact (Post.none_ P).elim) | (cases e; done) | skip
  · cases e
    obtain ⟨x', hx', hx⟩ := vrs1 hv
    cases hx'
    obtain ⟨n, hn, P⟩ := Post.lift P
    simp only [Option.map_eq_some_iff] at hn
    obtain ⟨b, hb, rfl⟩ := hn
    have fin : ∀ (ty : String), TyX X.K H x (.type ty) → kitB ty (tyN t) = some b → wpAny (model X.prog X.w) X.A (call (.builtin "isinstance") us) (EP X pins σ' Q) X.xe s := fun ty h1 h2 =>
      call_isi pins s σ' H _ us Q I r ⟨x, .ty (tyN t), .type ty, .type (tyN t), b, rfl, .ty _, h1, kit_ty h2, Post.ok P hR (.bl _)⟩
    cases hx with
    | non => exact fin "NoneType" (.base .non) (by cases t <;> simp [isT] at hb <;> subst hb <;> decide +kernel)
    | bl c => exact fin "bool" (.base (.bl c)) (by cases t <;> simp [isT] at hb <;> subst hb <;> decide +kernel)
    | int i => exact fin "int" (.base (.int i)) (by cases t <;> simp [isT] at hb <;> subst hb <;> decide +kernel)
    | str z => exact fin "str" (.base (.str z)) (by cases t <;> simp [isT] at hb <;> subst hb <;> decide +kernel)
    | tup h1 h2 =>
      have h3 : ∀ {a : Addr} {vs : List V}, SqT X.K H a vs → TyX X.K H (.ref a) (.type "tuple") := fun h1 => by
        rcases h1 with (h1 | ⟨o, h1⟩) | ⟨o, its, n, q1, q2, _⟩
        · exact .base (.tup h1)
        · exact .fTuple h1
        · exact .kTuple q1 q2
      exact fin "tuple" (h3 h1) (by cases t <;> simp [isT] at hb <;> subst hb <;> decide +kernel)
    | @ref n a hn =>
      obtain ⟨o, ho⟩ := hR.old hn
      have ma := hR.at_ _ a o hn ho
      simp only [isT, ho] at hb
      cases o with
      | lst rw ws =>
        cases rw with
        | true => obtain ⟨vs, h1, _⟩ := ma; exact fin "list" (.base (.lst h1)) (by cases t <;> simp at hb <;> subst hb <;> decide +kernel)
        | false => simp at hb
      | dic rw ws =>
        cases rw with
        | true => obtain ⟨vs, h1, _⟩ := ma; exact fin "dict" (.base (.dK h1)) (by cases t <;> simp at hb <;> subst hb <;> decide +kernel)
        | false => simp at hb

/-! ### methods of lists -/
def rMt (K : PySem.W.Frag) (XR : XRel) (Wx : WX) (f : Mt) : V → List V → Hp → VK → Prop := fun x xs H Q => ∃ m S σ w ws, HR K m H S ∧ VR K m H x w ∧ VRs K m H xs ws ∧ Post K XR Wx m H σ (VR K) (mthW S f w ws) Q
theorem wrL {K : PySem.W.Frag} {m : List Addr} {H : Hp} {S : Sto} {σ : St} {n : Nat} {a : Addr} {vs us : List V} {ws xs : List W} {y : W} {v : V} {Q : VK} (hR : HR K m H S) (hn : m[n]? = some a) (ho : S[n]? = some (.lst true ws)) (h1 : H a = some (.lst vs)) (r : VRs K m H us xs) (ry : VR K m H v y)
    (P : Post K XR Wx m H σ (VR K) (okW y (S.set n (.lst true xs))) Q) : Q v (upd H a (.lst us)) :=
  Post.ok' P (Ext.wrL h1) (hR.wr hn ho (fun _ q => by cases q) (fun _ q => by cases q) (Ext.wrL h1) ⟨us, upd_same, r.ext (Ext.wrL h1)⟩) (ry.ext (Ext.wrL h1))
theorem m_append : MtR X "list.append" (rMt X.K XR Wx .append) := by
  intro pins s σ' H x xs v us Q I rx r h
  obtain ⟨m, S, σ, w, ws, hR, hx, hv, P⟩ := h
  unfold mthW at P
  split at P <;> rename_i e <;> first | (exact (Post.none_ P).elim) | (cases e; done) | skip
  cases hx with
  | @ref n a hn =>
    obtain ⟨y, rfl, hy⟩ := vrs1 hv
    split at P
    · rename_i ws ho
      obtain ⟨vs, h1, h2⟩ := hR.at_ _ a _ hn ho
      split at P
      · rename_i hz
        exact mt_append pins s σ' H _ _ v us Q I rx r ⟨a, vs, y, rfl, rfl, h1, by rw [h2.length]; exact hz, wrL hR hn ho h1 (h2.append (.cons hy .nil)) .non P⟩
      · exact (Post.none_ P).elim
    · exact (Post.none_ P).elim
theorem m_pop : MtR X "list.pop" (rMt X.K XR Wx .pop) := by
  intro pins s σ' H x xs v us Q I rx r h
  obtain ⟨m, S, σ, w, ws, hR, hx, hv, P⟩ := h
  unfold mthW at P
  split at P <;> rename_i e <;> first | (exact (Post.none_ P).elim) | (cases e; done) | skip
  cases hx with
  | @ref n a hn =>
    cases hv
    split at P
    · rename_i ws ho
      obtain ⟨vs, h1, h2⟩ := hR.at_ _ a _ hn ho
      split at P
      · rename_i y hy
        obtain ⟨z, hz, rz⟩ := h2.get hy
        exact mt_pop pins s σ' H _ _ v us Q I rx r ⟨a, vs, z, rfl, rfl, h1, by rw [h2.length]; exact hz, wrL hR hn ho h1 h2.dropLast rz P⟩
      · exact (Post.none_ P).elim
    · exact (Post.none_ P).elim
theorem m_popAt : MtR X "list.pop" (rMt X.K XR Wx .popAt) := by
  intro pins s σ' H x xs v us Q I rx r h
  obtain ⟨m, S, σ, w, ws, hR, hx, hv, P⟩ := h
  unfold mthW at P
  split at P <;> rename_i e <;> first | (exact (Post.none_ P).elim) | (cases e; done) | skip
  cases hx with
  | @ref n a hn =>
    obtain ⟨y, rfl, hy⟩ := vrs1 hv
    cases hy
    split at P
    · rename_i ws ho
      obtain ⟨vs, h1, h2⟩ := hR.at_ _ a _ hn ho
      split at P
      · rename_i hz
        split at P
        · rename_i k hk
          split at P
          · rename_i y hy
            obtain ⟨z, hz', rz⟩ := h2.get hy
            exact mt_popAt pins s σ' H _ _ v us Q I rx r ⟨a, vs, _, k, z, rfl, rfl, h1, hz.1, hz.2, by rw [h2.length]; exact hk, hz', wrL hR hn ho h1 (h2.erase k) rz P⟩
          · exact (Post.none_ P).elim
        · exact (Post.none_ P).elim
      · exact (Post.none_ P).elim
    · exact (Post.none_ P).elim
theorem m_extend : MtR X "list.extend" (rMt X.K XR Wx .extend) := by
  intro pins s σ' H x xs v us Q I rx r h
  obtain ⟨m, S, σ, w, ws, hR, hx, hv, P⟩ := h
  unfold mthW at P
  split at P <;> rename_i e <;> first | (exact (Post.none_ P).elim) | (cases e; done) | skip
  cases hx with
  | @ref n a hn =>
    obtain ⟨y, rfl, hy⟩ := vrs1 hv
    cases hy with
    | @ref n' b hn' =>
    split at P
    · rename_i ws xs ho ho'
      obtain ⟨vs, h1, h2⟩ := hR.at_ _ a _ hn ho
      obtain ⟨us', h3, h4⟩ := hR.at_ _ b _ hn' ho'
      split at P
      · rename_i hz
        exact mt_extend pins s σ' H _ _ v us Q I rx r ⟨a, b, vs, us', rfl, rfl, h1, h3, by rw [h2.length, h4.length]; exact hz, wrL hR hn ho h1 (h2.append h4) .non P⟩
      · exact (Post.none_ P).elim
    · exact (Post.none_ P).elim
theorem m_tyV {K : PySem.W.Frag} {m : List Addr} {H : Hp} {S : Sto} {v : V} {n : Nat} {rw : Bool} {ws : List W} (hR : HR K m H S) (hv : VR K m H v (.ref n)) (ho : S[n]? = some (.lst rw ws)) : tyV K "list" v H := by
  cases hv with
  | ref hn =>
    obtain ⟨vs, h1, _⟩ := (hR.at_ n _ _ hn ho).lst_
    exact .inl ⟨rfl, vs, h1⟩

/-! ### a[i] = v -/
def rSetC (K : PySem.W.Frag) : V → V → V → Hp → (Hp → Prop) → Prop := fun o i v H Q => ∃ m S o' i' v' S', HR K m H S ∧ VR K m H o o' ∧ VR K m H i i' ∧ VR K m H v v' ∧ setW S o' i' v' = some S' ∧ ∀ H', Ext K m H m H' → HR K m H' S' → Q H'
theorem set_core (hu : X.A.units + 1 < cLine) : PSet X (rSetC X.K) := by
  intro pins s σ H o i v ov iv u Q I ro ri rv h
  obtain ⟨m, S, o', i', v', S', hR, vo, vi, vv, e, q⟩ := h
  unfold setW at e
  split at e
  · rename_i n
    cases vo with
    | @ref n a hn =>
      split at e
      · rename_i ws ho
        obtain ⟨vs, h1, h2⟩ := hR.at_ _ a _ hn ho
        split at e
        · rename_i j
          simp only [Option.map_eq_some_iff] at e
          obtain ⟨k, e1, rfl⟩ := e
          cases vi
          refine set_list pins s σ H _ _ v ov iv u Q I ro ri rv ⟨a, vs, _, k, rfl, rfl, h1, by rw [h2.length]; exact e1, ?_⟩
          exact q _ (Ext.wrL h1) (hR.wr hn ho (fun _ q => by cases q) (fun _ q => by cases q) (Ext.wrL h1) ⟨_, upd_same, (VRs.set vv k h2).ext (Ext.wrL h1)⟩)
        · cases e
      · rename_i kws ho
        obtain ⟨kvs, h1, h2⟩ := hR.at_ _ a _ hn ho
        split at e
        · rename_i k hk
          split at e
          · rename_i hz
            cases e
            have ey := key_VR vi hk
            subst ey
            cases ro
            refine d_setItem hu I (DPut.k h1 (by rw [h2.length]; exact hz)) ri rv fun s' I' => ⟨_, I', ?_⟩
            exact q _ (Ext.wrD h1) (hR.wr hn ho (fun _ q => by cases q) (fun _ q => by cases q) (Ext.wrD h1) ⟨_, upd_same, (putD_KR h2 k vv).ext (Ext.wrD h1)⟩)
          · cases e
        · cases e
      · cases e
  · cases e
end
end Co
namespace Co
open PySem L2

/-! ### repr -/
section
variable {X : Cx} {pins : List (Addr × Obj)} {σ : St} {H : Hp} {s : Shared} {m : List Addr} {S : Sto}
theorem not_sys (hS : SysH H) (I : Inv X pins σ H s) {a : Addr} {o : Obj} {vs : Array Value} {k : Nat} (h : s.heap.get? a = some o) (hc : o.data = .seq vs k) : a ≠ sysModules := fun e => by
  obtain ⟨ob, u, es, ep, h1, h2⟩ := hS
  obtain ⟨g1, _⟩ := I.hok _ _ h1
  rw [e, g1] at h
  cases h
  rw [h2] at hc
  cases hc
theorem keys_reads {P : Program} {w : World} {h : Heap} : ∀ {es : List DictEntry} {kvs : List (Key × Value)}, Pairs (mixKind P w) es kvs →
    ReadsAll h (es.map (·.key)) (kvs.map fun kv => (match kv.1 with | .inl i => PyData.int i | .inr x => PyData.str x)) []
  | _, _, .nil => .nil
  | _, _, .cons (e := e) (kv := kv) hk _ t => by
    have r := keys_reads (h := h) t
    obtain ⟨k, v⟩ := kv
    rw [List.map_cons, List.map_cons]
    rcases keyIs_shape hk with ⟨i, t, rfl, e1⟩ | ⟨x, t, rfl, e1⟩
    · rw [e1]
      exact .cons (as := []) (bs := []) (.int i t) r
    · rw [e1]
      exact .cons (as := []) (bs := []) (.str x t) r
theorem pairs_vals {P : Program} {w : World} : ∀ {es : List DictEntry} {kvs : List (Key × Value)}, Pairs (mixKind P w) es kvs → es.map (·.val) = kvs.map (·.2)
  | _, _, .nil => rfl
  | _, _, .cons _ hv t => by rw [List.map_cons, List.map_cons, pairs_vals t, hv]
mutual
theorem reads_of (I : Inv X pins σ H s) (hR : HR X.K m H S) : ∀ (n : Nat) (w : W) (v : V) (u : Value) (d : PyData), VR X.K m H v w → RelV v u → readD n S w = some d → ∃ as, Reads s.heap u d as ∧ sysModules ∉ as
  | 0, _, _, _, _, _, _, h => by cases h
  | n + 1, w, v, u, d, hv, hu, h => by
    cases hv with
    | non => simp [readD] at h; subst h; cases hu; exact ⟨[], .none, by simp⟩
    | bl b => simp [readD] at h; subst h; cases hu; exact ⟨[], .bool b, by simp⟩
    | int i => simp [readD] at h; subst h; obtain ⟨t, rfl⟩ := hu; exact ⟨[], .int i t, by simp⟩
    | str x => simp [readD] at h; subst h; obtain ⟨t, rfl⟩ := hu; exact ⟨[], .str x t, by simp⟩
    | @tup a vs ws hq hr =>
      simp only [readD, Option.map_eq_some_iff] at h
      obtain ⟨ds, h1, rfl⟩ := h
      cases hu
      obtain ⟨its, rv, ⟨o, ho, hc, k, hd⟩, hz⟩ := I.tuple hq
      obtain ⟨as, h2, h3⟩ := reads_all I hR n ws vs its ds hr rv h1
      exact ⟨as, .tuple ho hc hd (by simpa using h2), h3⟩
    | @ref k a hk =>
      cases hu
      obtain ⟨o, ho⟩ := hR.old hk
      have ma := hR.at_ k a o hk ho
      simp only [readD, ho] at h
      cases o with
      | lst rw ws =>
        simp only [Option.map_eq_some_iff] at h
        obtain ⟨ds, h1, rfl⟩ := h
        obtain ⟨vs, h2, h3⟩ := ma.lst_
        obtain ⟨its, rv, ⟨⟨cls, dd, data, sl⟩, n', ho', hc, hdn, hdt⟩, hz⟩ := I.list h2
        simp only at hc hdt
        subst hc hdt
        obtain ⟨as, h4, h5⟩ := reads_all I hR n ws vs its ds h3 rv h1
        refine ⟨a :: as, .list ho' rfl rfl (by simpa using h4), ?_⟩
        simp only [List.mem_cons, not_or]
        exact ⟨(not_sys hR.sys I ho' rfl).symm, h5⟩
      | dic rw kws =>
        simp only [Option.map_eq_some_iff] at h
        obtain ⟨ds, h1, rfl⟩ := h
        obtain ⟨kvs, h2, h3⟩ := ma.dic_
        obtain ⟨hz, hsys, vs, rel, o', es, ep, g1, g2, g3, g4, g5, g6⟩ := dk_rd I.hok h2
        obtain ⟨as, h4, h5, h6⟩ := reads_kvs I hR n kws kvs vs ds h3 rel h1
        refine ⟨a :: [] ++ as, .dict g1 g2.1 g3 ?_ ?_, ?_⟩
        · rw [h6]
          exact keys_reads g5
        · rw [pairs_vals g5]
          exact h4
        · simp only [List.cons_append, List.nil_append, List.mem_cons, not_or]
          exact ⟨fun e => by rw [← e] at hsys; simp at hsys, h5⟩
theorem reads_all (I : Inv X pins σ H s) (hR : HR X.K m H S) : ∀ (n : Nat) (ws : List W) (vs : List V) (us : List Value) (ds : List PyData), VRs X.K m H vs ws → Vals vs us → ws.mapM (readD n S) = some ds → ∃ as, ReadsAll s.heap us ds as ∧ sysModules ∉ as
  | n, [], _, _, ds, .nil, .nil, h => by
    simp at h
    subst h
    exact ⟨[], .nil, by simp⟩
  | n, w :: ws, _, _, ds, .cons hv hr, .cons rv rr, h => by
    obtain ⟨y, r, h1, h2, rfl⟩ := mapM_cons_some h
    obtain ⟨as, a1, a2⟩ := reads_of I hR n w _ _ y hv rv h1
    obtain ⟨bs, b1, b2⟩ := reads_all I hR n ws _ _ r hr rr h2
    exact ⟨as ++ bs, .cons a1 b1, by simp only [List.mem_append, not_or]; exact ⟨a2, b2⟩⟩
theorem reads_kvs (I : Inv X pins σ H s) (hR : HR X.K m H S) : ∀ (n : Nat) (kws : List (Key × W)) (kvs : List (Key × V)) (vs : List (Key × Value)) (ds : List (PyData × PyData)), KR X.K m H kvs kws → KV kvs vs →
    (kws.mapM fun kv => (readD n S kv.2).map fun d => ((match kv.1 with | .inl i => PyData.int i | .inr x => PyData.str x), d)) = some ds →
    ∃ as, ReadsAll s.heap (vs.map (·.2)) (ds.map (·.2)) as ∧ sysModules ∉ as ∧ ds.map (·.1) = vs.map fun kv => (match kv.1 with | .inl i => PyData.int i | .inr x => PyData.str x)
  | n, [], _, _, ds, .nil, .nil, h => by
    simp at h
    subst h
    exact ⟨[], .nil, by simp, rfl⟩
  | n, w :: ws, _, _, ds, .cons hv hr, .cons rv rr, h => by
    obtain ⟨y, r, h1, h2, rfl⟩ := mapM_cons_some h
    simp only [Option.map_eq_some_iff] at h1
    obtain ⟨d, h1, rfl⟩ := h1
    obtain ⟨as, a1, a2⟩ := reads_of I hR n w.2 _ _ d hv.2 rv.2 h1
    obtain ⟨bs, b1, b2, b3⟩ := reads_kvs I hR n ws _ _ r hr rr h2
    refine ⟨as ++ bs, .cons a1 b1, by simp only [List.mem_append, not_or]; exact ⟨a2, b2⟩, ?_⟩
    rw [List.map_cons, List.map_cons, b3, ← rv.1, hv.1]
end
end
section
variable {X : Cx} {XR : XRel} {Wx : WX}
theorem b_repr (hg : X.A.guards = some []) (hu : X.A.units + 64 < cLine) : CallR X (.builtin "repr") (rB X.K XR Wx .repr) := by
  intro pins s σ' H xs us Q I r h
  obtain ⟨m, S, σ, ws, hR, hv, P⟩ := h
  unfold bltW at P
  split at P <;> rename_i e <;> first | (exact (Post.none_ P).elim) | (cases e; done) | skip
  · cases e
    obtain ⟨x, rfl, hx⟩ := vrs1 hv
    obtain ⟨n, hn, P⟩ := Post.lift P
    simp only [Option.map_eq_some_iff] at hn
    obtain ⟨t, ht, rfl⟩ := hn
    obtain ⟨u, rfl, ru⟩ := vals1 r
    unfold reprW at ht
    split at ht
    · rename_i d hd
      split at ht
      · rename_i hz
        cases ht
        obtain ⟨h1, h2, h3⟩ := hz
        obtain ⟨as, r1, r2⟩ := reads_of I hR 60 _ _ _ d hx ru hd
        have fin : Q (.str d.shown) H := Post.ok P hR (.str _)
        cases r1 with
        | none => exact PySem.P.repr_of_none ⟨.str _, H, I.tok _, ⟨_, rfl⟩, by simpa only [PyData.shown] using fin⟩
        | bool b => exact PySem.P.repr_of_bool ⟨.str _, H, I.tok _, ⟨_, rfl⟩, by simpa only [PyData.shown] using fin⟩
        | int i t => exact PySem.P.repr_of_int (by simpa [PyData.showable] using h1) ⟨.str _, H, I.tok _, ⟨_, rfl⟩, by simpa only [PyData.shown] using fin⟩
        | str x t => exact PySem.P.repr_of_str ⟨.str _, H, I.tok _, ⟨_, rfl⟩, by simpa only [PyData.shown] using fin⟩ (by simpa only [PyData.shown] using h2)
        | list h4 h5 h6 h7 => exact repr_of_reads' (.list h4 h5 h6 h7) h1 (fun _ => r2) hg (by omega) (fun _ _ e => e) (fun h' u tk k => ⟨.str _, H, I.kept k, ⟨_, rfl⟩, fin⟩) h2
        | tuple h4 h5 h6 h7 => exact repr_of_reads' (.tuple h4 h5 h6 h7) h1 (fun _ => r2) hg (by omega) (fun _ _ e => e) (fun h' u tk k => ⟨.str _, H, I.kept k, ⟨_, rfl⟩, fin⟩) h2
        | dict h4 h5 h6 h7 h8 => exact repr_of_reads' (.dict h4 h5 h6 h7 h8) h1 (fun _ => r2) hg (by omega) (fun _ _ e => e) (fun h' u tk k => ⟨.str _, H, I.kept k, ⟨_, rfl⟩, fin⟩) h2
      · cases ht
    · cases ht
end

/-! ### enumerate of a tuple -/
set_option maxHeartbeats 1000000 in
theorem meets_enumerate_newB1 {v : Value} {o : Obj} {H : Heap → Prop} (B : Begins v o H) :
    Meets (Builtin.«enumerate.__new__» ⟨[.type "enumerate", v], []⟩) (fun _ R s => H s.heap ∧
      R (.ok (.ret (.ref (s.heap.push o).objs.size))) { s with heap := (s.heap.push o).push { cls := .type "enumerate", data := .fields #[.none, .bool false, .ref s.heap.objs.size, rawInt 0, .none, .none] } }) :=
  .of_wp fun prog w A R s h => by
    obtain ⟨hp, g, d, tk, os⟩ := s; obtain ⟨h1, h⟩ := h
    have hsub := sub_enumerate
    have q1 : ∀ {A' : Around} {E : Value → Shared → Prop} {Q : Value → Shared → Prop}, Q (.ref hp.objs.size) ⟨hp.push o, g, d, tk, os⟩ → wpAny (model prog w) A' (pyIter v) Q E ⟨hp, g, d, tk, os⟩ :=
      fun q => B.iter prog w _ _ ⟨hp, g, d, tk, os⟩ _ h1 q
    wp_walk using q1
    refine wpAny_stack_any fun st => wpAny_pure ?_
    split
    · rename_i c _ _ _ _ _
      cases (c == Value.type "enumerate")
      · wp_walk using q1
        exact ⟨_, rfl, h⟩
      · wp_walk using q1
        exact ⟨_, rfl, h⟩
    · wp_walk using q1
      exact ⟨_, rfl, h⟩
section
variable {prog : Program} {w : World} {A : Around} {E : Value → Shared → Prop} {s : Shared}
theorem enum_begins1 {v : Value} {o : Obj} {H : Heap → Prop} {Q : Value → Shared → Prop} (B : Begins v o H) (h1 : H s.heap)
    (h : ∀ h', IsEnum h' (s.heap.objs.size + 1) s.heap.objs.size 0 .none → h'.get? s.heap.objs.size = some o → h'.objs.size = s.heap.objs.size + 2 →
      (∀ b o, s.heap.get? b = some o → h'.get? b = some o) → Q (.ref (s.heap.objs.size + 1)) { s with heap := h' }) :
    wpAny (model prog w) A (call (.type "enumerate") [v]) Q E s := by
  refine callType_new F.called_enumerate (by decide) (F.typeCall_enumerate_1 _) (F.newCall_enumerate_1 _) (fun obj => F.args_object_init_2 obj _) F.entry_enumerate_new
    (meets_enumerate_newB1 B) ⟨h1, ?_⟩
  have hz : (s.heap.push o).objs.size = s.heap.objs.size + 1 := Heap.size_push ..
  show _ ∧ _
  rw [hz]
  have he : IsEnum ((s.heap.push o).push { cls := .type "enumerate", data := .fields #[.none, .bool false, .ref s.heap.objs.size, rawInt 0, .none, .none] }) (s.heap.objs.size + 1) s.heap.objs.size 0 .none := by
    have := Heap.get?_push_size (s.heap.push o) (o := { cls := .type "enumerate", data := .fields #[.none, .bool false, .ref s.heap.objs.size, rawInt 0, .none, .none] }) rfl
    rw [hz] at this; exact this
  refine ⟨⟨_, he, rfl⟩, h _ he (Heap.get?_push_of_some _ (Heap.get?_push_size _ B.free)) (by rw [Heap.size_push, hz]) fun b o x => Heap.get?_push_of_some _ (Heap.get?_push_of_some _ x)⟩
end
/-- the tuple at a, each item in a new pair -/
def IteT (K : PySem.W.Frag) (a : Addr) : It :=
  ⟨fun i H => ∃ (xs : List V) (x : V), SqT K H a xs ∧ xs[i]? = some x, fun i H v H' => ∃ T x, v = .ref T ∧ H T = none ∧ H' = upd H T (.tup [.int (i : Nat), x]) ∧ ∀ xs, SqT K H a xs → xs[i]? = some x, fun i H => ∃ xs : List V, SqT K H a xs ∧ xs.length = i⟩
theorem turn_enumT {P : Program} {w : World} {K : PySem.W.Frag} {elts : List Expr} {kk : Nat} {tpos : Pos} (a e it : Addr) :
    Turn P w K (.Tuple elts kk tpos) (IteT K a) [e, it] e (fun i h => (∃ old, IsEnum h e it ((i : Nat) : Int) old) ∧ h.IsTupleIter it a i ∧ e ≠ it) where
  mem := by simp
  obj := fun i h st b hb => by
    obtain ⟨⟨old, he⟩, ⟨o, ho, hc, hd⟩, _⟩ := st
    have e' : b = e ∨ b = it := by simpa using hb
    rcases e' with z | z
    · rw [z]; exact ⟨_, he, fun v q => nomatch q⟩
    · rw [z]; exact ⟨o, ho, fun v q => by rw [hd] at q; cases q⟩
  keep := fun i h h' st k => let ⟨⟨old, he⟩, hi, hne⟩ := st; ⟨⟨old, k e (by simp) _ he⟩, hi.at fun o q => k it (by simp) o q, hne⟩
  item := by
    intro X hP hw hK hc i pins s σ H E I hf st hg
    subst hP hw hK
    obtain ⟨⟨old, he⟩, hit, hne⟩ := st
    obtain ⟨xs, x, hq, hx⟩ := hg
    obtain ⟨its, rv, p, hz⟩ := I.tuple hq
    obtain ⟨u, hu, ru⟩ := rv.get hx
    have p' : s.heap.IsTuple a its.toArray := p
    have hel : e < s.heap.objs.size := Heap.lt_size he
    have hil : it < s.heap.objs.size := by obtain ⟨_, q, _⟩ := hit; exact Heap.lt_size q
    have hae : a ≠ e := fun z => by
      obtain ⟨o, h1, h2, _⟩ := p'
      rw [z, he] at h1
      cases h1
      simp at h2
    have hai : a ≠ it := fun z => by
      obtain ⟨o, h1, h2, _⟩ := p'
      obtain ⟨o', h3, h4, _⟩ := hit
      rw [z, h3] at h1
      cases h1
      rw [h4] at h2
      simp at h2
    have hlt : i < its.toArray.size := by
      rw [List.size_toArray]
      exact (List.getElem?_eq_some_iff.mp hu).1
    refine wpAny_pyNext_enum_itemD (Draws.tuple (A := X.A.in1) (I.ok.hd hc) it a hai its.toArray) he ⟨hit, p'⟩ hlt hne (by simp [hne, hae.symm]) fun x' h' tk hPx ho hit' hT hsz hk => ?_
    have ex : x' = u := by
      have : its[i]? = some x' := by simpa using hPx
      rw [hu] at this
      exact (Option.some.inj this).symm
    subst ex
    refine ⟨_, rfl, wpAny_letOwnedTupleGo_enum (s := { s with heap := h', toks := tk + 1 }) ho fun h'' he' sb => ?_⟩
    have hT2 : h''.get? s.heap.objs.size = some { cls := .type "tuple", data := .seq #[.int i tk, x'] } := (sb.2 _ (Nat.ne_of_gt hel)).trans hT
    have new : ObjOk X.prog X.w (upd H s.heap.objs.size (.tup [.int (i : Nat), x])) h'' s.heap.objs.size (.tup [.int (i : Nat), x]) :=
      ⟨by show 2 ≤ sizeLine; decide, [.int i tk, x'], .cons ⟨_, rfl⟩ (.cons ru .nil), ⟨_, hT2, rfl, _, rfl⟩⟩
    have I1 : Inv X pins σ (upd H s.heap.objs.size (.tup [.int (i : Nat), x])) { s with heap := h'', toks := tk + 1 } :=
      I.turnedNew (ch := [e, it]) (fun b ob hb q => (sb.2 b (fun z => hb (by simp [z]))).trans (hk b ob (fun z => hb (by simp [z])) (fun z => hb (by simp [z])) q)) hf (Nat.le_refl _) new
    refine ⟨.ref s.heap.objs.size, _, I1, rfl, ⟨_, x, rfl, I.hok.fresh (Nat.le_refl _), rfl, fun ys hy => by rw [I.tuple_inj hy hq]; exact hx⟩, ⟨⟨x', ?_⟩, hit'.1.at fun o q => (sb.2 it (Ne.symm hne)).trans q, hne⟩, fun b hb => ?_⟩
    · have e1 : ((i + 1 : Nat) : Int) = (i : Int) + 1 := by omega
      rw [e1]; exact he'
    · have hb' : b < s.heap.objs.size := by
        have e' : b = e ∨ b = it := by simpa using hb
        rcases e' with z | z
        · rw [z]; exact hel
        · rw [z]; exact hil
      rw [upd_ne (Nat.ne_of_lt hb')]
      exact (hf b hb).1
  done := by
    intro X hP hw hK hc i pins s σ H E I hf st hg
    subst hP hw hK
    obtain ⟨⟨old, he⟩, hit, hne⟩ := st
    obtain ⟨xs, hq, hx⟩ := hg
    obtain ⟨its, rv, p, hz⟩ := I.tuple hq
    have p' : s.heap.IsTuple a its.toArray := p
    have hai : a ≠ it := fun z => by
      obtain ⟨o, h1, h2, _⟩ := p'
      obtain ⟨o', h3, h4, _⟩ := hit
      rw [z, h3] at h1
      cases h1
      rw [h4] at h2
      simp at h2
    obtain ⟨f0, f1, f2, f3, f4, f5⟩ := hf it (by simp)
    have hl := rv.length
    have en : i = its.toArray.size := by rw [List.size_toArray, ← hl, hx]
    subst en
    exact wpAny_pyNext_enum_endD (Draws.tuple (A := X.A.in1) (I.ok.hd hc) it a hai its.toArray) he ⟨hit, p'⟩ fun h' eb => ⟨rfl, I.turned (t' := s.toks) (fun b o hb q => eb b o hb q) f0 f1 f3 f4 f5⟩
  self := fun A i s Q E st h => let ⟨⟨_, he⟩, _⟩ := st; wpAny_pyIter_enum he h
def iEnumT (K : PySem.W.Frag) (ta : TA) : TI := fun σ H R => ta σ H fun vs H1 => ∃ a xs, vs = [.ref a] ∧ SqT K H1 a xs ∧ R (IteT K a) H1
theorem pi_enumT {X : Cx} {e : Expr} {ta : TA} {p pos tpos : Pos} {elts : List Expr} {kk : Nat} (hg : Gl X "enumerate") (hm : X.mg "enumerate" = none) (ha : PA X [e] ta) (hs : starEach [e] X.env = [(false, eval e X.env)] := by rfl) :
    PI X (.Tuple elts kk tpos) (.Call (.Name "enumerate" p) [e] [] pos) (iEnumT X.K ta) := by
  refine ⟨fun pins s σ H R I h => ?_⟩
  refine PyProof.Rows.Call_ (ld_blt I hg hm PyProof.Rows.boot_enumerate (PyProof.Rows.callWith_type1 (thn (ha.run pos pins s σ H _ I h) fun us s1 ⟨vs, H1, I1, r1, q1⟩ => ?_) hs rfl))
  obtain ⟨a, xs, ex, hq, q⟩ := q1
  subst ex
  cases r1 with
  | cons r rr =>
    cases rr
    cases r
    obtain ⟨its, rv, p', hz⟩ := I1.tuple hq
    refine enum_begins1 (begins_tuple a its.toArray) p' fun h' he hit hsz hk => wpAny_pyIter_enum he ?_
    have I2 : Inv X pins σ H1 { s1 with heap := h' } := I1.kept (t' := s1.toks) hk
    refine ⟨s1.heap.objs.size + 1, [s1.heap.objs.size + 1, s1.heap.objs.size], _, _, H1, rfl, I2, turn_enumT a (s1.heap.objs.size + 1) s1.heap.objs.size, ⟨⟨.none, he⟩, ⟨_, hit, rfl, rfl⟩, Nat.succ_ne_self _⟩, fun b hb => ?_, q⟩
    have e' : b = s1.heap.objs.size + 1 ∨ b = s1.heap.objs.size := by simpa using hb
    have hle : s1.heap.objs.size ≤ b := by
      rcases e' with z | z
      · rw [z]; exact Nat.le_add_right _ _
      · rw [z]; exact Nat.le_refl _
    exact I1.fpOk hle (I1.hok.fresh hle)
theorem walk_enumT {K : PySem.W.Frag} {a : Addr} {xs : List V} : Walk (IteT K a) xs.length (fun H => SqT K H a xs) (YPair (fun i => some (.int (i : Nat))) (fun i => xs[i]?)) := by
  refine ⟨fun i _ hi q => ⟨xs, xs[i], q, by simp [hi]⟩, fun _ q => ⟨xs, q, rfl⟩, fun i H v H' _ q y => ?_⟩
  obtain ⟨T, x, h1, h2, h3, h4⟩ := y
  exact ⟨T, .int (i : Nat), x, h1, h2, h3, rfl, h4 xs q⟩
end Co
namespace Co
open PySem PySem.Spec PyProof.Rows L2

/-! ### defs, where it is told besides that no repr runs around -/
structure RoomG (k : Nat) (A : Around) : Prop where
  room : Room k A
  gd : A.guards = some []
theorem RoomG.mono {j k : Nat} {A : Around} (r : RoomG k A) (h : j ≤ k) : RoomG j A := ⟨r.room.mono h, r.gd⟩
structure FnG (P : Program) (w : World) (K : PySem.W.Frag) (mg : Str → Option Value) (base : Heap) (C : CXT) (k : Nat) (f : Addr) (fd : FuncData) (ps : List Str) (sp : Sp) : Prop where
  many : ∀ vs H Q E, sp vs H Q E → vs.length = ps.length
  runs : ∀ (A : Around) (outer : List Env) (s : Shared) (H : Hp) (args : Args) (us : List Value) (vs : List V) (Q : VK) (E : XK), RoomG k A → Env0 P w K mg base A outer s H → BindsTo s fd args (ps.zip us) → Vals vs us →
    sp vs H Q E → codeAny (model P w) A (.call (.ref f) args) (CR C outer P w H s Q E) s
theorem FnG.imp {P : Program} {w : World} {K : PySem.W.Frag} {mg : Str → Option Value} {base : Heap} {C : CXT} {k : Nat} {f : Addr} {fd : FuncData} {ps : List Str} {sp sp' : Sp} (F : FnG P w K mg base C k f fd ps sp)
    (h : ∀ vs H Q E, sp' vs H Q E → sp vs H Q E) : FnG P w K mg base C k f fd ps sp' :=
  ⟨fun vs H Q E q => F.many vs H Q E (h _ _ _ _ q), fun A o s H a us vs Q E r e b v q => F.runs A o s H a us vs Q E r e b v (h _ _ _ _ q)⟩
/-- a def of the text by its body -/
theorem fnG_of {C : CXT} {P : Program} {w : World} {K : PySem.W.Frag} {mg : Str → Option Value} {base : Heap} {k : Nat} {f : Addr} {name qual : Str} {params : Arguments} {body : List Stmt} {scope : Scope} {dV kV doc pm cdv ct oc : Value} {an od : Option Addr}
    {osl : Array (Option Value)} {N ps : List Str} {sp : Sp} (at_ : K.lookup f = some ⟨oc, od, .func (PySem.W.fnOf name qual params body scope dV kV doc pm an cdv ct), osl⟩) (code : PySem.W.codeIn K cdv qual = true) (S : FnScope N ps scope)
    (many : ∀ vs H Q E, sp vs H Q E → vs.length = ps.length)
    (hb : ∀ (A : Around) (outer : List Env) (s : Shared) (H : Hp) (vs : List V) (Q : VK) (E : XK), RoomG k (A.deeper (envOfC qual scope s.heap.objs.size f cdv)) → sp vs H Q E →
      ∃ t, PSs (cxOf C P w K mg base N qual scope f cdv A outer s H E) body t ∧ t { nx := fun _ H' => Q .non H', rt := Q } (start N vs) H) :
    FnG P w K mg base C (k + 1) f (PySem.W.fnOf name qual params body scope dV kV doc pm an cdv ct) ps sp := by
  refine ⟨many, fun A outer s H args us vs Q E hr e0 bd rel hq => ?_⟩
  have inK : K.In s.heap := e0.mod.kin.keeps fun b o e => (e0.bs b o e).1
  have nolim : s.heap.NoLimit := e0.mod.nolimit.keeps fun b o e => (e0.bs b o e).1
  have kinds : ∀ y ∈ ps.zip us, scope.names.lookup y.1 = some .local ∨ (scope.names.lookup y.1 = some .cell ∧ ((cellsFrom (s.heap.objs.size + 1) scope.names []).lookup y.1).isSome = true) := by
    rintro ⟨n, v⟩ hy
    exact (S.par n (List.of_mem_zip hy).1).imp id fun q => ⟨q, PySem.W.cellsFrom_some _ _ _ (.inl q)⟩
  refine codeAny_call_function hr.room.depth (inK _ _ at_) rfl S.co S.gen rfl (PySem.W.codeRec_of inK code) (bd _ _ _ _ ?_)
  refine wpAny_newFunctionEnv_cells S.kind kinds fun env he s1 x => ?_
  subst he
  refine ⟨nolim.keeps x.toInCall.keep, codeAny_func ?_⟩
  obtain ⟨t, ht, h3⟩ := hb A outer s H vs Q E ⟨hr.room.deeper _, hr.gd⟩ hq
  have I0 : Inv (cxOf C P w K mg base N qual scope f cdv A outer s H E) [] (start N vs) H s1 := inv_start S hr.room.hd e0 (many _ _ _ _ hq) rel x
  have back : ∀ {s' : Shared} {σ' : L2.St} {H' : Hp} {v : V} {u : Value}, Inv (cxOf C P w K mg base N qual scope f cdv A outer s H E) [] σ' H' s' → RelV v u → Q v H' → L2.CE outer P w H s Q u s' :=
    fun {s' σ' H' v u} J rv q => ⟨v, H', J.os, J.bare, J.base, J.hok, rv, q⟩
  refine wpAny_mono (ht.run [] s1 (start N vs) H _ I0 h3) (fun fl s' hs => ?_) fun e s' hs => hs
  cases fl with
  | ret u => obtain ⟨v, σ', H', J, rv, q⟩ := hs; exact back J rv q
  | next => obtain ⟨σ', H', J, q⟩ := hs; exact back (v := V.non) (u := Value.none) J rfl q
  | brk => obtain ⟨_, _, _, q⟩ := hs; exact False.elim q
  | cont => obtain ⟨_, _, _, q⟩ := hs; exact False.elim q
section
variable {X : Cx} {C : CXT} {k : Nat} {f : Addr} {fd : FuncData} {ps : List Str} {sp : Sp} {E : XK} {pins : List (Addr × Obj)} {σ : L2.St} {H : Hp} {s : Shared} {Q : VK}
/-- a call by what is bound -/
theorem FnG.call {args : List Value} {kw : List (Str × Value)} {us : List Value} {vs : List V} (F : FnG X.prog X.w X.K X.mg X.base C k f fd ps sp) (hr : RoomG k X.A) (bd : BindsTo s fd ⟨args, kw⟩ (ps.zip us))
    (I : Inv X pins σ H s) (hx : ∀ e s', C X.stack H s E e s' → X.xe e s') (r : Vals vs us) (h : sp vs H Q E) : wpAny (model X.prog X.w) X.A (PySem.call (.ref f) args kw) (EP X pins σ Q) X.xe s := by
  refine wpAny_call (codeAny_mono (F.runs X.A X.stack s H ⟨args, kw⟩ us vs Q E hr I.env0 bd r h) fun r s' hq => ?_)
  cases r with
  | error e => exact hx e s' hq
  | ok fl =>
    cases fl with
    | ret u => exact I.after hq
    | next => exact hq.elim
    | brk => exact hq.elim
    | cont => exact hq.elim
end

/-! ### what a text is held against -/
/-- a program's defs (names, parameters), the names of its constants, the forms of its calls by names -/
structure Sta where
  fns : List (Str × List Str)
  glos : List Str
  kws : List (Nat × Nat × List Str × List Nat)
/-- the names of built-ins that are used -/
def bltNames : List Str := ["len", "int", "tuple", "list", "repr", "abs", "max", "min", "str", "sum", "isinstance", "bool", "dict", "range", "enumerate", "zip", "sorted"]
def ScOk (sc : Scope) (env : Env) : Prop := ∀ x k, sc.names.lookup x = some k → (k ≠ .free → env.scope.names.lookup x = some k) ∧ (k = .free → env.scope.names.lookup x = some .free ∨ env.scope.names.lookup x = some .cell)
/-- the promise of the def i by the core -/
def spO (K : PySem.W.Frag) (XR : XRel) (O : Orc) (n i : Nat) : Sp := fun vs H Q E => vs.length = n ∧ ∃ m S ws, HR K m H S ∧ VRs K m H vs ws ∧ Post K XR (fun cls d _ H => E cls d H) m H [] (VR K) (O i ws S) Q
structure Good (P : Sta) (G : List W) (O : Orc) (XR : XRel) (Wx : WX) (N : List Str) (sc : Scope) (X : Cx) : Prop where
  fnc : ∀ x, sc.names.lookup x = some .cell → X.fn x = true
  nm : X.N = N
  nd : N.Nodup
  sc : ScOk sc X.env
  calm : X.calm = true
  blt : ∀ x ∈ bltNames, X.mg x = none
  glo : ∀ (i : Nat) (x : Str), P.glos[i]? = some x → ∃ v u w, X.mg x = some u ∧ RelV v u ∧ G[i]? = some w ∧ ∀ m H, VR X.K m H v w
  fns : ∃ k, RoomG k X.A ∧ (∀ (i : Nat) (x : Str) (ps : List Str), P.fns[i]? = some (x, ps) → ∃ f fd, X.mg x = some (.ref f) ∧ PySem.W.keepIn X.K (.ref f) = true ∧ Binds X.K fd ps [] ∧ FnG X.prog X.w X.K X.mg X.base (CX X.prog X.w) k f fd ps (spO X.K XR O ps.length i) ∧
    ∀ (n : Nat) (ks : List Str) (perm : List Nat), (i, n, ks, perm) ∈ P.kws → ∀ (s : Shared) (us ws : List Value), X.K.In s.heap → us.length = n → ws.length = ks.length → BindsTo s fd ⟨us, ks.zip ws⟩ (ps.zip (us ++ perm.filterMap (ws[·]?))))
  tk : Takes X Wx

/-! ### looks at the syntax -/
def notStar : Expr → Bool
  | .Starred _ _ => false
  | .Slice _ _ _ _ => false
  | .Set _ _ _ => false
  | _ => true
def plainT : Expr → Bool
  | .UnaryOp _ _ _ => false
  | .BoolOp _ _ _ => false
  | .IfExp _ _ _ _ => false
  | .Compare _ _ _ _ => false
  | _ => true
def noSuper : Expr → Bool
  | .Call _ _ _ _ => false
  | _ => true
def noComp : Expr → Bool
  | .ListComp _ _ _ _ => false
  | .SetComp _ _ _ _ => false
  | .DictComp _ _ _ _ _ => false
  | _ => true
section
variable {e : Expr} {es : List Expr} {env : Env}
theorem star_of (h : notStar e = true) : starEach (e :: es) env = (false, eval e env) :: starEach es env := by cases e <;> first | rfl | (cases h)
theorem plainT_of (h : plainT e = true) (whole : Sem Value) : isTrue e env whole = (do let v ← whole; standAt e.pos; holding [v] (truthy v)) := by cases e <;> first | rfl | (cases h)
theorem plainIx_of (h : notStar e = true) : PlainIx e := fun o i => by cases e <;> first | rfl | (cases h)
theorem base_of (h : noSuper e = true) (a : Str) : attributeBase e a env (eval e env) = eval e env := by cases e <;> first | rfl | (cases h)
theorem fold_of (h : notStar e = true) (x : Value) : foldedSetIterable e env x = pure x := by cases e <;> first | rfl | (cases h)
theorem mark_of (h : notStar e = true) (op : CmpOp) : behindInMarks op e = false := by cases e <;> first | rfl | (cases h)
theorem swap_of (h : noComp e = true) (t : Option Expr) (l : Nat) : swapsWith e t l env = pure false := by cases e <;> first | rfl | (cases h)
end
theorem stars_of {env : Env} : ∀ {es : List Expr}, es.all notStar = true → (starEach es env).all (fun x => !x.1) = true
  | [], _ => rfl
  | e :: es, h => by
    simp only [List.all_cons, Bool.and_eq_true] at h
    rw [star_of h.1, List.all_cons, stars_of h.2]
    rfl
theorem stars_any {env : Env} {pos : Pos} {es : List Expr} (h : es.all notStar = true) : (backTo pos (starEach es env)).any (·.1) = false := by
  have := stars_of (env := env) h
  unfold backTo
  rw [List.any_map, List.any_eq_false]
  rw [List.all_eq_true] at this
  intro x hx
  have := this x hx
  simpa using this
theorem stars_all {env : Env} {pos : Pos} {es : List Expr} (h : es.all notStar = true) : (backTo pos (starEach es env)).all (fun x => !x.1) = true := by
  have := stars_of (env := env) h
  unfold backTo
  rw [List.all_map]
  exact this
end Co
namespace Co
open PySem PySem.Spec PyProof.Rows L2

/-! ### a core term is a text's -/
def nameOk (x : Str) : Bool := !(x == ("__debug__" : Str)) && !(x == ("__classdict__" : Str)) && !(decide (x = ("__name__" : Str)))
def visB (sc : Scope) (x : Str) : Bool := match sc.names.lookup x with
  | some .local => true
  | some .cell => true
  | some .free => true
  | _ => false
def locB (sc : Scope) (x : Str) : Bool := match sc.names.lookup x with
  | some .local => true
  | some .cell => true
  | _ => false
def glB (sc : Scope) (x : Str) : Bool := match sc.names.lookup x with
  | some .globalImplicit => true
  | _ => false
def opB : Op2 → Operator → Bool
  | .add, .Add => true | .sub, .Sub => true | .mul, .Mult => true | .fdiv, .FloorDiv => true | .mod, .Mod => true | .pow, .Pow => true
  | _, _ => false
theorem opB_of {o : Op2} {op : Operator} (h : opB o op = true) : op = opO o := by cases o <;> cases op <;> first | rfl | (cases h)
def cmB : Cm → CmpOp → Bool
  | .eq, .Eq => true | .ne, .NotEq => true | .lt, .Lt => true | .le, .LtE => true | .gt, .Gt => true | .ge, .GtE => true | .isN, .Is => true | .notN, .IsNot => true | .in_, .In => true | .nin, .NotIn => true
  | _, _ => false
theorem cmB_of {o : Cm} {op : CmpOp} (h : cmB o op = true) : op = cmO o := by cases o <;> cases op <;> first | rfl | (cases h)
def cstB : W → Const → Bool
  | .non, .none => true
  | .bl b, .bool c => b == c
  | .int i, .int j => decide (i = j)
  | .str x, .str y => decide (x = y)
  | _, _ => false
def bltB : Blt → Str → Bool
  | .len, x => x == ("len" : Str)
  | .int, x => x == ("int" : Str)
  | .tuple, x => x == ("tuple" : Str)
  | .list, x => x == ("list" : Str)
  | .repr, x => x == ("repr" : Str)
  | .abs, x => x == ("abs" : Str)
  | .max2, x => x == ("max" : Str)
  | .min2, x => x == ("min" : Str)
  | .str, x => x == ("str" : Str)
  | .sum, x => x == ("sum" : Str)
  | .isi _, _ => false
  | .sorted, x => x == ("sorted" : Str)
  | .lrng, _ => false
  | .rev, _ => false
  | .join, _ => false
  | .split, _ => false
/-- texts' methods, as calls -/
def txtB : Blt → CEs → Str → Bool
  | .join, .cons (.cst (.str _)) (.cons _ .nil), x => x == ("join" : Str)
  | .split, .cons (.cst (.str _)) (.cons _ .nil), x => x == ("split" : Str)
  | _, _, _ => false
/-- -1 -/
def isM1 : Expr → Bool
  | .UnaryOp .USub (.Constant (.int i) _ _) _ => decide (i = 1)
  | _ => false
/-- range(e), as the one argument -/
def rngArg : List Expr → Option (Str × Expr)
  | [.Call (.Name y _) [e] [] _] => some (y, e)
  | _ => none
def mtB : Mt → Str → Nat → Bool
  | .append, x, n => x == ("append" : Str) && n == 1
  | .pop, x, n => x == ("pop" : Str) && n == 0
  | .popAt, x, n => x == ("pop" : Str) && n == 1
  | .extend, x, n => x == ("extend" : Str) && n == 1
  | .get1, _, _ => false
def ownN (N : List Str) (own : List Nat) : List (Str × Nat) := own.filterMap fun i => (N[i]?).map fun x => (x, i)
mutual
def tgSlots : Tg → List Nat
  | .name i => [i]
  | .tup ts => tgsSlots ts
def tgsSlots : List Tg → List Nat
  | [] => []
  | t :: ts => tgSlots t ++ tgsSlots ts
end
section
variable (P : Sta) (N : List Str)
mutual
def okTg (sc : Scope) : Tg → Expr → Bool
  | .name i, .Name x _ => (N[i]? == some x) && locB sc x
  | .tup ts, .Tuple es _ _ => okTgs sc ts es
  | _, _ => false
def okTgs (sc : Scope) : List Tg → List Expr → Bool
  | [], [] => true
  | t :: ts, e :: es => notStar e && okTg sc t e && okTgs sc ts es
  | _, _ => false
end
def isTup : Expr → Bool
  | .Tuple _ _ _ => true
  | _ => false
def kwNames (kws : List Keyword) : List Str := kws.filterMap (·.arg)
mutual
def okE (sc : Scope) : CE → Expr → Bool
  | .var i, .Name x _ => (N[i]? == some x) && visB sc x && nameOk x
  | .cst w, .Constant k _ _ => cstB w k
  | .glo g, .Name x _ => (P.glos[g]? == some x) && glB sc x && nameOk x
  | .bin o a b, .BinOp ea op eb _ => opB o op && okE sc a ea && okE sc b eb
  | .neg a, .UnaryOp .USub ea _ => okE sc a ea
  | .not_ a, .UnaryOp .Not ea _ => okE sc a ea
  | .bool k es, .BoolOp .And vs _ => k && okEs sc es vs
  | .bool k es, .BoolOp .Or vs _ => !k && okEs sc es vs
  | .cmp c a b, .Compare ea [op] [eb] _ => cmB c op && notStar eb && okE sc a ea && okE sc b eb
  | .chain c d a b e, .Compare ea [op, op'] [eb, ee] _ => cmB c op && cmB d op' && notStar ee && okE sc a ea && okE sc b eb && okE sc e ee
  | .ife c a b, .IfExp ec ea eb _ => okE sc c ec && okE sc a ea && okE sc b eb
  | .tup es, .Tuple el _ _ => okEs sc es el
  | .lst es, .List el _ => okEs sc es el
  | .dct kvs, .Dict ks vs _ => okK sc kvs ks vs && decide (ks.length ≤ 15)
  | .idx a b, .Subscript ea eb _ => notStar eb && okE sc a ea && okE sc b eb
  | .slc a lo hi, .Subscript ea (.Slice l h none _) _ => okE sc a ea && okO sc lo l && okO sc hi h
  | .call f es ks perm, .Call (.Name x _) args kws _ => ((P.fns[f]?).map (·.1) == some x) && glB sc x && nameOk x && okEs sc es args && okKw sc ks kws &&
      (if kws.isEmpty then perm.isEmpty && ((P.fns[f]?).map (·.2.length) == some args.length) else P.kws.contains (f, args.length, kwNames kws, perm))
  | .isi t a, .Call (.Name x _) [ea, .Name y _] [] _ => (x == ("isinstance" : Str)) && (y == Str.ofString (tyN t)) && glB sc x && glB sc y && notStar ea && okE sc a ea
  | .blt f es, .Call (.Name x _) args [] _ => if f = Blt.lrng then (match rngArg args with
    | some (y, e) => (x == ("list" : Str)) && (y == ("range" : Str)) && glB sc x && glB sc y && okEs sc es [e]
    | none => false) else bltB f x && glB sc x && okEs sc es args && !args.isEmpty
  | .blt f es, .Subscript ea (.Slice none none (some u) _) _ => (f == Blt.rev) && isM1 u && okEs sc es [ea]
  | .blt f es, .Call (.Attribute eo x apos) [eb] [] cpos => txtB f es x && noSuper eo && (apos.endLine == cpos.line) && okEs sc es [eo, eb]
  | .mth m o es, .Call (.Attribute eo name apos) args [] cpos => mtB m name args.length && noSuper eo && (apos.endLine == cpos.line) && okE sc o eo && okEs sc es args
  | .comp e tg it c own, .ListComp elt [⟨te, ie, ifs, ia⟩] scope _ => (ia == 0) && blkC N sc scope (ownN N own) && ((ownN N own).map (·.2) == own) && notStar ie && (tgSlots tg).all (own.contains ·) && okTg N scope tg te && okI sc it te ie && okIf scope c ifs && okE scope e elt
  | _, _ => false
def okEs (sc : Scope) : CEs → List Expr → Bool
  | .nil, [] => true
  | .cons c cs, e :: es => notStar e && okE sc c e && okEs sc cs es
  | _, _ => false
def okO (sc : Scope) : CO → Option Expr → Bool
  | .none, none => true
  | .some c, some e => okE sc c e
  | _, _ => false
def okIf (sc : Scope) : CO → List Expr → Bool
  | .none, [] => true
  | .some c, [e] => okE sc c e
  | _, _ => false
def okK (sc : Scope) : CKs → List (Option Expr) → List Expr → Bool
  | .nil, [], [] => true
  | .cons k v r, some ek :: ks, ev :: vs => okE sc k ek && okE sc v ev && okK sc r ks vs
  | _, _, _ => false
def okKw (sc : Scope) : CEs → List Keyword → Bool
  | .nil, [] => true
  | .cons c cs, ⟨some _, e, _⟩ :: kws => okE sc c e && okKw sc cs kws
  | _, _ => false
def okI (sc : Scope) : CI → Expr → Expr → Bool
  | .seq c, _, e => okE sc c e
  | .rng1 c, _, .Call (.Name x _) [e] [] _ => (x == ("range" : Str)) && glB sc x && notStar e && okE sc c e
  | .rng2 a b, _, .Call (.Name x _) [ea, eb] [] _ => (x == ("range" : Str)) && glB sc x && notStar ea && notStar eb && okE sc a ea && okE sc b eb
  | .zip a b, tg, .Call (.Name x _) [ea, eb] [] _ => isTup tg && (x == ("zip" : Str)) && glB sc x && notStar ea && notStar eb && okE sc a ea && okE sc b eb
  | .enm c, tg, .Call (.Name x _) [e] [] _ => isTup tg && (x == ("enumerate" : Str)) && glB sc x && notStar e && okE sc c e
  | _, _, _ => false
end
end

section
variable {P : Sta} {G : List W} {O : Orc} {XR : XRel} {Wx : WX} {N : List Str} {sc : Scope} {X : Cx}
theorem PE.weak {e : Expr} {t t' : TE} (h : PE X e t) (k : ∀ σ H Q, t' σ H Q → t σ H Q) : PE X e t' := ⟨fun pins s σ H Q I q => h.run pins s σ H Q I (k σ H Q q)⟩
theorem PT.weak {e : Expr} {t t' : TT} (h : PT X e t) (k : ∀ σ H Q, t' σ H Q → t σ H Q) : PT X e t' := ⟨fun pins s σ H Q I q => h.run pins s σ H Q I (k σ H Q q)⟩
theorem PA.weak {es : List Expr} {t t' : TA} (h : PA X es t) (k : ∀ σ H Q, t' σ H Q → t σ H Q) : PA X es t' := ⟨fun pos pins s σ H Q I q => h.run pos pins s σ H Q I (k σ H Q q)⟩
theorem PE.never {e : Expr} {t : TE} (k : ∀ σ H Q, ¬ t σ H Q) : PE X e t := ⟨fun pins s σ H Q I q => (k σ H Q q).elim⟩
theorem PT.never {e : Expr} {t : TT} (k : ∀ σ H Q, ¬ t σ H Q) : PT X e t := ⟨fun pins s σ H Q I q => (k σ H Q q).elim⟩
/-- the readings -/
abbrev tE (K : PySem.W.Frag) (XR : XRel) (Wx : WX) (f : En → Sto → Rs W) : TE := tR K XR Wx (VR K) f
abbrev rBl : List Addr → Hp → Bool → Bool → Prop := fun _ _ b a => b = a
abbrev tT (K : PySem.W.Frag) (XR : XRel) (Wx : WX) (f : En → Sto → Rs Bool) : TT := tR K XR Wx rBl f
abbrev tEs (K : PySem.W.Frag) (XR : XRel) (Wx : WX) (f : En → Sto → Rs (List W)) : TA := tR K XR Wx (VRs K) f
theorem Good.vis (g : Good P G O XR Wx N sc X) {x : Str} (h : visB sc x = true) : Vis X.env.scope x := by
  unfold visB at h
  split at h
  · rename_i q; exact .inl ((g.sc x _ q).1 (by decide))
  · rename_i q; exact .inr (.inl ((g.sc x _ q).1 (by decide)))
  · rename_i q
    rcases (g.sc x _ q).2 rfl with z | z
    · exact .inr (.inr z)
    · exact .inr (.inl z)
  · cases h
theorem Good.gl (g : Good P G O XR Wx N sc X) {x : Str} (h : glB sc x = true) : Gl X x := by
  unfold glB at h
  split at h
  · rename_i q; exact (g.sc x _ q).1 (by decide)
  · cases h
theorem Good.loc (g : Good P G O XR Wx N sc X) {x : Str} (h : locB sc x = true) : Loc X.env.scope x := by
  unfold locB at h
  split at h
  · rename_i q; exact .inl ((g.sc x _ q).1 (by decide))
  · rename_i q; exact .inr ((g.sc x _ q).1 (by decide))
  · cases h
theorem nameOk_of {x : Str} (h : nameOk x = true) : (x == ("__debug__" : Str)) = false ∧ (x == ("__classdict__" : Str)) = false ∧ x ≠ ("__name__" : Str) := by
  unfold nameOk at h
  simp only [Bool.and_eq_true, Bool.not_eq_true', decide_eq_false_iff_not] at h
  exact ⟨h.1.1, h.1.2, h.2⟩
theorem so_var (g : Good P G O XR Wx N sc X) {i : Nat} {x : Str} {pos : Pos} (h1 : (N[i]? == some x) = true) (h2 : visB sc x = true) (h3 : nameOk x = true) : PE X (.Name x pos) (tE X.K XR Wx (runE G O (.var i))) := by
  obtain ⟨n1, n2, n3⟩ := nameOk_of h3
  refine PE.weak (pe_var (i := i) (by rw [g.nm]; exact eq_of_beq h1) (g.vis h2) n1 n2) ?_
  rintro σ H Q ⟨m, S, ρ, hR, eR, P⟩
  unfold runE at P
  split at P
  · rename_i w hw
    obtain ⟨v, hv, r⟩ := eR.at_ i w hw
    exact ⟨v, hv, Post.ok P hR r⟩
  · exact (Post.none_ P).elim
theorem so_cst {w : W} {k : Const} {j : Nat} {pos : Pos} (h : cstB w k = true) : PE X (.Constant k j pos) (tE X.K XR Wx (runE G O (.cst w))) := by
  cases w <;> cases k <;> try (cases h; done)
  · exact PE.weak pe_non fun σ H Q ⟨m, S, ρ, hR, eR, P⟩ => by unfold runE at P; exact Post.ok P hR .non
  · cases (eq_of_beq h)
    exact PE.weak pe_bl fun σ H Q ⟨m, S, ρ, hR, eR, P⟩ => by unfold runE at P; exact Post.ok P hR (.bl _)
  · cases (of_decide_eq_true h)
    exact PE.weak pe_int fun σ H Q ⟨m, S, ρ, hR, eR, P⟩ => by unfold runE at P; exact Post.ok P hR (.int _)
  · cases (of_decide_eq_true h)
    exact PE.weak pe_str fun σ H Q ⟨m, S, ρ, hR, eR, P⟩ => by unfold runE at P; exact Post.ok P hR (.str _)
theorem so_glo (g : Good P G O XR Wx N sc X) {i : Nat} {x : Str} {pos : Pos} (h1 : (P.glos[i]? == some x) = true) (h2 : glB sc x = true) (h3 : nameOk x = true) : PE X (.Name x pos) (tE X.K XR Wx (runE G O (.glo i))) := by
  obtain ⟨n1, n2, n3⟩ := nameOk_of h3
  obtain ⟨v, u, w, hm, r, hw, hv⟩ := g.glo i x (eq_of_beq h1)
  refine PE.weak (pe_glob (g.gl h2) hm r n1) ?_
  rintro σ H Q ⟨m, S, ρ, hR, eR, P⟩
  unfold runE at P
  rw [hw] at P
  exact Post.ok P hR (hv _ _)
theorem so_bin {o : Op2} {a b : CE} {ea eb : Expr} {op : Operator} {pos : Pos} (h : opB o op = true) (ha : PE X ea (tE X.K XR Wx (runE G O a))) (hb : PE X eb (tE X.K XR Wx (runE G O b))) :
    PE X (.BinOp ea op eb pos) (tE X.K XR Wx (runE G O (.bin o a b))) := by
  rw [opB_of h]
  refine PE.weak (pe_op (op_core (XR := XR) (Wx := Wx) o) ha hb) ?_
  rintro σ H Q ⟨m, S, ρ, hR, eR, P⟩
  unfold runE at P
  exact ⟨m, S, ρ, hR, eR, Post.bind P fun m1 H1 S1 x x' e1 hR1 vx P1 => ⟨m1, S1, ρ, hR1, eR.ext e1, Post.bind P1 fun m2 H2 S2 y y' e2 hR2 vy P2 => ⟨m2, S2, σ, x', y', hR2, vx.ext e2, vy, P2⟩⟩⟩
theorem so_neg {a : CE} {ea : Expr} {pos : Pos} (ha : PE X ea (tE X.K XR Wx (runE G O a))) : PE X (.UnaryOp .USub ea pos) (tE X.K XR Wx (runE G O (.neg a))) := by
  refine PE.weak (pe_un un_neg ha) ?_
  rintro σ H Q ⟨m, S, ρ, hR, eR, P⟩
  unfold runE at P
  refine ⟨m, S, ρ, hR, eR, Post.bind P fun m1 H1 S1 x x' e1 hR1 vx P1 => ?_⟩
  cases vx with
  | int i => exact ⟨i, rfl, Post.ok P1 hR1 (.int _)⟩
  | _ => exact (Post.none_ P1).elim
theorem so_not {a : CE} {ea : Expr} {pos : Pos} (ha : PE X ea (tE X.K XR Wx (runE G O a))) : PE X (.UnaryOp .Not ea pos) (tE X.K XR Wx (runE G O (.not_ a))) := by
  refine PE.weak (pe_notT ha) ?_
  rintro σ H Q ⟨m, S, ρ, hR, eR, P⟩
  unfold runE at P
  refine ⟨m, S, ρ, hR, eR, Post.bind P fun m1 H1 S1 x x' e1 hR1 vx P1 => ?_⟩
  obtain ⟨w, hw, P2⟩ := Post.lift P1
  simp only [Option.map_eq_some_iff] at hw
  obtain ⟨b, hb, rfl⟩ := hw
  exact ⟨b, tru_of hR1 vx hb, Post.ok P2 hR1 (.bl _)⟩
theorem so_cmp (hu : X.A.units + 64 < cLine) {c : Cm} {a b : CE} {ea eb : Expr} {op : CmpOp} {pos : Pos} (h : cmB c op = true) (hs : notStar eb = true) (ha : PE X ea (tE X.K XR Wx (runE G O a))) (hb : PE X eb (tE X.K XR Wx (runE G O b))) :
    PE X (.Compare ea [op] [eb] pos) (tE X.K XR Wx (runE G O (.cmp c a b))) := by
  rw [cmB_of h]
  refine PE.weak (pe_cmpR (cm_core (XR := XR) (Wx := Wx) hu c) ha hb (mark_of hs _)) ?_
  rintro σ H Q ⟨m, S, ρ, hR, eR, P⟩
  unfold runE at P
  refine ⟨m, S, ρ, hR, eR, Post.bind P fun m1 H1 S1 x x' e1 hR1 vx P1 => ⟨m1, S1, ρ, hR1, eR.ext e1, Post.bind P1 fun m2 H2 S2 y y' e2 hR2 vy P2 => ?_⟩⟩
  obtain ⟨w, hw, P3⟩ := Post.lift P2
  simp only [Option.map_eq_some_iff] at hw
  obtain ⟨k, hk, rfl⟩ := hw
  exact ⟨m2, S2, x', y', k, hR2, vx.ext e2, vy, hk, Post.ok P3 hR2 (.bl _)⟩
theorem so_cmpT (hu : X.A.units + 64 < cLine) {c : Cm} {a b : CE} {ea eb : Expr} {op : CmpOp} {pos : Pos} (h : cmB c op = true) (hs : notStar eb = true) (ha : PE X ea (tE X.K XR Wx (runE G O a))) (hb : PE X eb (tE X.K XR Wx (runE G O b))) :
    PT X (.Compare ea [op] [eb] pos) (tT X.K XR Wx (runT G O (.cmp c a b))) := by
  rw [cmB_of h]
  refine PT.weak (pt_cmpR (cm_core (XR := XR) (Wx := Wx) hu c) ha hb (mark_of hs _)) ?_
  rintro σ H Q ⟨m, S, ρ, hR, eR, P⟩
  unfold runT at P
  refine ⟨m, S, ρ, hR, eR, Post.bind P fun m1 H1 S1 x x' e1 hR1 vx P1 => ⟨m1, S1, ρ, hR1, eR.ext e1, Post.bind P1 fun m2 H2 S2 y y' e2 hR2 vy P2 => ?_⟩⟩
  obtain ⟨k, hk, P3⟩ := Post.lift P2
  exact ⟨m2, S2, x', y', k, hR2, vx.ext e2, vy, hk, k, rfl, Post.ok P3 hR2 rfl⟩
theorem so_chain (hu : X.A.units + 64 < cLine) {c d : Cm} {a b e : CE} {ea eb ee : Expr} {op op' : CmpOp} {pos : Pos} (h : cmB c op = true) (h' : cmB d op' = true) (hs : notStar ee = true) (ha : PE X ea (tE X.K XR Wx (runE G O a))) (hb : PE X eb (tE X.K XR Wx (runE G O b)))
    (he : PE X ee (tE X.K XR Wx (runE G O e))) : PE X (.Compare ea [op, op'] [eb, ee] pos) (tE X.K XR Wx (runE G O (.chain c d a b e))) := by
  rw [cmB_of h, cmB_of h']
  refine PE.weak (pe_chain (cm_core (XR := XR) (Wx := Wx) hu c) (cm_core (XR := XR) (Wx := Wx) hu d) ha hb he (mark_of hs _)) ?_
  rintro σ H Q ⟨m, S, ρ, hR, eR, P⟩
  unfold runE at P
  refine ⟨m, S, ρ, hR, eR, Post.bind P fun m1 H1 S1 x x' e1 hR1 vx P1 => ⟨m1, S1, ρ, hR1, eR.ext e1, Post.bind P1 fun m2 H2 S2 y y' e2 hR2 vy P2 => ?_⟩⟩
  split at P2
  · rename_i hk
    refine ⟨m2, S2, x', y', true, hR2, vx.ext e2, vy, hk, true, rfl, ?_⟩
    rw [if_pos rfl]
    refine ⟨m2, S2, ρ, hR2, (eR.ext e1).ext e2, Post.bind P2 fun m3 H3 S3 z z' e3 hR3 vz P3 => ?_⟩
    obtain ⟨w, hw, P4⟩ := Post.lift P3
    simp only [Option.map_eq_some_iff] at hw
    obtain ⟨k, hk, rfl⟩ := hw
    exact ⟨m3, S3, y', z', k, hR3, vy.ext e3, vz, hk, Post.ok P4 hR3 (.bl _)⟩
  · rename_i hk
    refine ⟨m2, S2, x', y', false, hR2, vx.ext e2, vy, hk, false, rfl, ?_⟩
    rw [if_neg (by decide)]
    exact Post.ok P2 hR2 (.bl _)
  · exact (Post.none_ P2).elim
theorem so_chainT (hu : X.A.units + 64 < cLine) {c d : Cm} {a b e : CE} {ea eb ee : Expr} {op op' : CmpOp} {pos : Pos} (h : cmB c op = true) (h' : cmB d op' = true) (hs : notStar ee = true) (ha : PE X ea (tE X.K XR Wx (runE G O a))) (hb : PE X eb (tE X.K XR Wx (runE G O b)))
    (he : PE X ee (tE X.K XR Wx (runE G O e))) : PT X (.Compare ea [op, op'] [eb, ee] pos) (tT X.K XR Wx (runT G O (.chain c d a b e))) := by
  rw [cmB_of h, cmB_of h']
  refine PT.weak (pt_chain (cm_core (XR := XR) (Wx := Wx) hu c) (cm_core (XR := XR) (Wx := Wx) hu d) ha hb he (mark_of hs _)) ?_
  rintro σ H Q ⟨m, S, ρ, hR, eR, P⟩
  unfold runT at P
  refine ⟨m, S, ρ, hR, eR, Post.bind P fun m1 H1 S1 x x' e1 hR1 vx P1 => ⟨m1, S1, ρ, hR1, eR.ext e1, Post.bind P1 fun m2 H2 S2 y y' e2 hR2 vy P2 => ?_⟩⟩
  split at P2
  · rename_i hk
    refine ⟨m2, S2, x', y', true, hR2, vx.ext e2, vy, hk, true, rfl, ?_⟩
    rw [if_pos rfl]
    refine ⟨m2, S2, ρ, hR2, (eR.ext e1).ext e2, Post.bind P2 fun m3 H3 S3 z z' e3 hR3 vz P3 => ?_⟩
    obtain ⟨k, hk, P4⟩ := Post.lift P3
    exact ⟨m3, S3, y', z', k, hR3, vy.ext e3, vz, hk, k, rfl, Post.ok P4 hR3 rfl⟩
  · rename_i hk
    refine ⟨m2, S2, x', y', false, hR2, vx.ext e2, vy, hk, false, rfl, ?_⟩
    rw [if_neg (by decide)]
    exact ⟨false, rfl, Post.ok P2 hR2 rfl⟩
  · exact (Post.none_ P2).elim
theorem so_ife {c a b : CE} {ec ea eb : Expr} {pos : Pos} (hc : PT X ec (tT X.K XR Wx (runT G O c))) (ha : PE X ea (tE X.K XR Wx (runE G O a))) (hb : PE X eb (tE X.K XR Wx (runE G O b))) :
    PE X (.IfExp ec ea eb pos) (tE X.K XR Wx (runE G O (.ife c a b))) := by
  refine PE.weak (pe_ifExp hc ha hb) ?_
  rintro σ H Q ⟨m, S, ρ, hR, eR, P⟩
  unfold runE at P
  refine ⟨m, S, ρ, hR, eR, Post.bind P fun m1 H1 S1 x x' e1 hR1 vx P1 => ?_⟩
  have vx' : x = x' := vx
  subst vx'
  cases x with
  | true => exact ⟨m1, S1, ρ, hR1, eR.ext e1, P1⟩
  | false => exact ⟨m1, S1, ρ, hR1, eR.ext e1, P1⟩
/-- the test of an expression by its value -/
theorem so_tru {f : En → Sto → Rs W} {e : Expr} (hp : plainT e = true) (he : PE X e (tE X.K XR Wx f)) : PT X e (tT X.K XR Wx fun ρ S => (f ρ S).bind fun w S1 => liftW (truW S1 w) S1) := by
  refine PT.weak (pt_truth he (plainT_of hp)) ?_
  rintro σ H Q ⟨m, S, ρ, hR, eR, P⟩
  refine ⟨m, S, ρ, hR, eR, Post.bind P fun m1 H1 S1 x x' e1 hR1 vx P1 => ?_⟩
  obtain ⟨b, hb, P2⟩ := Post.lift P1
  exact ⟨b, tru_of hR1 vx hb, Post.ok P2 hR1 rfl⟩
theorem so_truN {f : En → Sto → Rs W} {e : Expr} {pos : Pos} (he : PE X (.UnaryOp .USub e pos) (tE X.K XR Wx f)) : PT X (.UnaryOp .USub e pos) (tT X.K XR Wx fun ρ S => (f ρ S).bind fun w S1 => liftW (truW S1 w) S1) := by
  refine PT.weak (pt_truth he (fun _ => rfl)) ?_
  rintro σ H Q ⟨m, S, ρ, hR, eR, P⟩
  refine ⟨m, S, ρ, hR, eR, Post.bind P fun m1 H1 S1 x x' e1 hR1 vx P1 => ?_⟩
  obtain ⟨b, hb, P2⟩ := Post.lift P1
  exact ⟨b, tru_of hR1 vx hb, Post.ok P2 hR1 rfl⟩
theorem so_tup {es : CEs} {el : List Expr} {j : Nat} {pos : Pos} (h : PA X el (tEs X.K XR Wx (runEs G O es))) : PE X (.Tuple el j pos) (tE X.K XR Wx (runE G O (.tup es))) := by
  refine PE.weak (pe_tup h) ?_
  rintro σ H Q ⟨m, S, ρ, hR, eR, P⟩
  unfold runE at P
  refine ⟨m, S, ρ, hR, eR, Post.bind P fun m1 H1 S1 x x' e1 hR1 vx P1 => ?_⟩
  split at P1
  · rename_i hz
    exact ⟨by rw [vx.length]; exact hz, fun p hp => Post.ok' P1 (Ext.new hp) (hR1.fresh hp) (.tup (.inl (.inl upd_same)) (vx.ext (Ext.new hp)))⟩
  · exact (Post.none_ P1).elim
theorem so_lst {es : CEs} {el : List Expr} {pos : Pos} (h : PA X el (tEs X.K XR Wx (runEs G O es))) : PE X (.List el pos) (tE X.K XR Wx (runE G O (.lst es))) := by
  refine PE.weak (pe_lst h) ?_
  rintro σ H Q ⟨m, S, ρ, hR, eR, P⟩
  unfold runE at P
  refine ⟨m, S, ρ, hR, eR, Post.bind P fun m1 H1 S1 x x' e1 hR1 vx P1 => ?_⟩
  split at P1
  · rename_i hz
    exact ⟨by rw [vx.length]; exact hz, Post.newL P1 hR1 vx⟩
  · exact (Post.none_ P1).elim
theorem so_es_nil : PA X [] (tEs X.K XR Wx (runEs G O .nil)) := by
  refine PA.weak pa_nil ?_
  rintro σ H Q ⟨m, S, ρ, hR, eR, P⟩
  unfold runEs at P
  exact Post.ok P hR .nil
theorem so_es_cons {c : CE} {cs : CEs} {e : Expr} {es : List Expr} (hs : notStar e = true) (h : PE X e (tE X.K XR Wx (runE G O c))) (hr : PA X es (tEs X.K XR Wx (runEs G O cs))) : PA X (e :: es) (tEs X.K XR Wx (runEs G O (.cons c cs))) := by
  refine PA.weak (pa_cons h hr (star_of hs)) ?_
  rintro σ H Q ⟨m, S, ρ, hR, eR, P⟩
  unfold runEs at P
  refine ⟨m, S, ρ, hR, eR, Post.bind P fun m1 H1 S1 x x' e1 hR1 vx P1 => ⟨m1, S1, ρ, hR1, eR.ext e1, Post.bind P1 fun m2 H2 S2 xs xs' e2 hR2 vxs P2 => ?_⟩⟩
  exact Post.ok P2 hR2 (.cons (vx.ext e2) vxs)
theorem so_idx (hu : X.A.units + 64 < cLine) {a b : CE} {ea eb : Expr} {pos : Pos} (hs : notStar eb = true) (ha : PE X ea (tE X.K XR Wx (runE G O a))) (hb : PE X eb (tE X.K XR Wx (runE G O b))) :
    PE X (.Subscript ea eb pos) (tE X.K XR Wx (runE G O (.idx a b))) := by
  refine PE.weak (ix_core (by omega) ha hb (plainIx_of hs)) ?_
  rintro σ H Q ⟨m, S, ρ, hR, eR, P⟩
  unfold runE at P
  refine ⟨m, S, ρ, hR, eR, Post.bind P fun m1 H1 S1 x x' e1 hR1 vx P1 => ⟨m1, S1, ρ, hR1, eR.ext e1, Post.bind P1 fun m2 H2 S2 y y' e2 hR2 vy P2 => ?_⟩⟩
  obtain ⟨w, hw, P3⟩ := Post.lift P2
  exact ⟨m2, S2, x', y', w, hR2, vx.ext e2, vy, hw, fun v r => Post.ok P3 hR2 r⟩
abbrev rOp : List Addr → Hp → Option Int → Option Int → Prop := fun _ _ b a => b = a
theorem so_o_none : PO X none (tR X.K XR Wx rOp (runO G O .none)) := by
  refine ⟨fun pins s σ H Q I h => po_none.run pins s σ H Q I ?_⟩
  obtain ⟨m, S, ρ, hR, eR, P⟩ := h
  unfold runO at P
  exact Post.ok P hR rfl
theorem so_o_some {c : CE} {e : Expr} (he : PE X e (tE X.K XR Wx (runE G O c))) : PO X (some e) (tR X.K XR Wx rOp (runO G O (.some c))) := by
  refine ⟨fun pins s σ H Q I h => (po_some he).run pins s σ H Q I ?_⟩
  obtain ⟨m, S, ρ, hR, eR, P⟩ := h
  unfold runO at P
  refine ⟨m, S, ρ, hR, eR, Post.bind P fun m1 H1 S1 x x' e1 hR1 vx P1 => ?_⟩
  cases vx with
  | int i => exact ⟨i, rfl, Post.ok P1 hR1 rfl⟩
  | _ => exact (Post.none_ P1).elim
theorem so_slc {a : CE} {lo hi : CO} {ea : Expr} {l h : Option Expr} {p pos : Pos} (ha : PE X ea (tE X.K XR Wx (runE G O a))) (hl : PO X l (tR X.K XR Wx rOp (runO G O lo))) (hh : PO X h (tR X.K XR Wx rOp (runO G O hi))) :
    PE X (.Subscript ea (.Slice l h none p) pos) (tE X.K XR Wx (runE G O (.slc a lo hi))) := by
  refine PE.weak (pe_slice (sl_core (XR := XR) (Wx := Wx)) ha hl hh) ?_
  rintro σ H Q ⟨m, S, ρ, hR, eR, P⟩
  unfold runE at P
  refine ⟨m, S, ρ, hR, eR, Post.bind P fun m1 H1 S1 x x' e1 hR1 vx P1 => ⟨m1, S1, ρ, hR1, eR.ext e1, Post.bind P1 fun m2 H2 S2 y y' e2 hR2 vy P2 => ⟨m2, S2, ρ, hR2, (eR.ext e1).ext e2, Post.bind P2 fun m3 H3 S3 z z' e3 hR3 vz P3 => ?_⟩⟩⟩
  have vy' : y = y' := vy
  have vz' : z = z' := vz
  subst vy' vz'
  exact ⟨m3, S3, σ, x', hR3, (vx.ext e2).ext e3, P3⟩
end
end Co
namespace Co
open PySem PySem.Spec PyProof.Rows L2

section
variable {P : Sta} {G : List W} {O : Orc} {XR : XRel} {Wx : WX} {N : List Str} {sc : Scope} {X : Cx}
/-! ### and, or -/
def opK : Bool → BoolOp
  | true => .And
  | false => .Or
theorem so_b_one {k : Bool} {c : CE} {e : Expr} {pos : Pos} (h : PE X e (tE X.K XR Wx (runE G O c))) : PE X (.BoolOp (opK k) [e] pos) (tE X.K XR Wx (runB G O k (.cons c .nil))) := by
  refine PE.weak (pe_one h) ?_
  rintro σ H Q ⟨m, S, ρ, hR, eR, P⟩
  unfold runB at P
  exact ⟨m, S, ρ, hR, eR, P⟩
theorem so_b_cons {k : Bool} {c d : CE} {r : CEs} {e e' : Expr} {es : List Expr} {pos : Pos} (h : PE X e (tE X.K XR Wx (runE G O c))) (hr : PE X (.BoolOp (opK k) (e' :: es) pos) (tE X.K XR Wx (runB G O k (.cons d r)))) :
    PE X (.BoolOp (opK k) (e :: e' :: es) pos) (tE X.K XR Wx (runB G O k (.cons c (.cons d r)))) := by
  cases k with
  | true =>
    refine PE.weak (pe_andT h hr) ?_
    rintro σ H Q ⟨m, S, ρ, hR, eR, P⟩
    unfold runB at P
    refine ⟨m, S, ρ, hR, eR, Post.bind P fun m1 H1 S1 x x' e1 hR1 vx P1 => ?_⟩
    split at P1
    · rename_i b hb
      refine ⟨b, tru_of hR1 vx hb, ?_⟩
      cases b with
      | true => exact ⟨m1, S1, ρ, hR1, eR.ext e1, P1⟩
      | false => exact Post.ok P1 hR1 vx
    · exact (Post.none_ P1).elim
  | false =>
    refine PE.weak (pe_orT h hr) ?_
    rintro σ H Q ⟨m, S, ρ, hR, eR, P⟩
    unfold runB at P
    refine ⟨m, S, ρ, hR, eR, Post.bind P fun m1 H1 S1 x x' e1 hR1 vx P1 => ?_⟩
    split at P1
    · rename_i b hb
      refine ⟨b, tru_of hR1 vx hb, ?_⟩
      cases b with
      | false => exact ⟨m1, S1, ρ, hR1, eR.ext e1, P1⟩
      | true => exact Post.ok P1 hR1 vx
    · exact (Post.none_ P1).elim
theorem PW.weak {e : Expr} {t t' : TT} (h : PW X e t) (k : ∀ σ H Q, t' σ H Q → t σ H Q) : PW X e t' := ⟨fun wh pins s σ H Q I q => h.run wh pins s σ H Q I (k σ H Q q)⟩
theorem so_t_one {k : Bool} {c : CE} {e : Expr} {pos : Pos} (h : PT X e (tT X.K XR Wx (runT G O c))) : PW X (.BoolOp (opK k) [e] pos) (tT X.K XR Wx (runBT G O k (.cons c .nil))) := by
  have key : ∀ σ H Q, tT X.K XR Wx (runBT G O k (.cons c .nil)) σ H Q → tT X.K XR Wx (runT G O c) σ H Q := by
    rintro σ H Q ⟨m, S, ρ, hR, eR, P⟩
    unfold runBT at P
    exact ⟨m, S, ρ, hR, eR, P⟩
  cases k with
  | true => exact PW.weak (pw_and1 h) key
  | false => exact PW.weak (pw_or1 h) key
theorem so_t_cons {k : Bool} {c d : CE} {r : CEs} {e e' : Expr} {es : List Expr} {pos : Pos} (h : PT X e (tT X.K XR Wx (runT G O c))) (hr : PW X (.BoolOp (opK k) (e' :: es) pos) (tT X.K XR Wx (runBT G O k (.cons d r)))) :
    PW X (.BoolOp (opK k) (e :: e' :: es) pos) (tT X.K XR Wx (runBT G O k (.cons c (.cons d r)))) := by
  cases k with
  | true =>
    refine PW.weak (pw_and h hr) ?_
    rintro σ H Q ⟨m, S, ρ, hR, eR, P⟩
    unfold runBT at P
    refine ⟨m, S, ρ, hR, eR, Post.bind P fun m1 H1 S1 x x' e1 hR1 vx P1 => ?_⟩
    have vx' : x = x' := vx
    subst vx'
    cases x with
    | true => exact ⟨m1, S1, ρ, hR1, eR.ext e1, P1⟩
    | false => exact Post.ok P1 hR1 rfl
  | false =>
    refine PW.weak (pw_or h hr) ?_
    rintro σ H Q ⟨m, S, ρ, hR, eR, P⟩
    unfold runBT at P
    refine ⟨m, S, ρ, hR, eR, Post.bind P fun m1 H1 S1 x x' e1 hR1 vx P1 => ?_⟩
    have vx' : x = x' := vx
    subst vx'
    cases x with
    | false => exact ⟨m1, S1, ρ, hR1, eR.ext e1, P1⟩
    | true => exact Post.ok P1 hR1 rfl
theorem so_notT {a : CE} {ea : Expr} {pos : Pos} (ha : PT X ea (tT X.K XR Wx (runT G O a))) : PT X (.UnaryOp .Not ea pos) (tT X.K XR Wx (runT G O (.not_ a))) := by
  refine PT.weak (pt_not ha) ?_
  rintro σ H Q ⟨m, S, ρ, hR, eR, P⟩
  unfold runT at P
  refine ⟨m, S, ρ, hR, eR, Post.bind P fun m1 H1 S1 x x' e1 hR1 vx P1 => ?_⟩
  have vx' : x = x' := vx
  subst vx'
  exact Post.ok P1 hR1 rfl
theorem so_ifeT {c a b : CE} {ec ea eb : Expr} {pos : Pos} (hc : PT X ec (tT X.K XR Wx (runT G O c))) (ha : PT X ea (tT X.K XR Wx (runT G O a))) (hb : PT X eb (tT X.K XR Wx (runT G O b))) :
    PT X (.IfExp ec ea eb pos) (tT X.K XR Wx (runT G O (.ife c a b))) := by
  refine ⟨fun pins s σ H Q I h => ?_⟩
  obtain ⟨m, S, ρ, hR, eR, P⟩ := h
  unfold runT at P
  show wpAny _ _ (do if ← isTrue ec X.env (eval ec X.env) then isTrue ea X.env (eval ea X.env) else isTrue eb X.env (eval eb X.env)) _ _ s
  refine wpAny_bind (thn (hc.run pins s σ H (fun k H1 => ∃ m1 S1, HR X.K m1 H1 S1 ∧ ER X.K m1 H1 σ ρ ∧ Post X.K XR Wx m1 H1 σ rBl (if k = true then runT G O a ρ S1 else runT G O b ρ S1) Q) I
    ⟨m, S, ρ, hR, eR, Post.bind P fun m1 H1 S1 x x' e1 hR1 vx P1 => ?_⟩) fun k s1 ⟨H1, I1, m1, S1, hR1, eR1, P1⟩ => ?_)
  · have vx' : x = x' := vx
    subst vx'
    exact ⟨m1, S1, hR1, eR.ext e1, P1⟩
  · cases k with
    | true => exact ha.run pins s1 σ H1 Q I1 ⟨m1, S1, ρ, hR1, eR1, P1⟩
    | false => exact hb.run pins s1 σ H1 Q I1 ⟨m1, S1, ρ, hR1, eR1, P1⟩

theorem runEs_nil {ρ : En} {S : Sto} : runEs G O .nil ρ S = some (.ok [] S) := by unfold runEs; rfl
/-! ### calls -/
theorem filterMap_VRs {K : PySem.W.Frag} {m : List Addr} {H : Hp} {vs : List V} {ws : List W} (r : VRs K m H vs ws) : ∀ perm : List Nat, VRs K m H (perm.filterMap (vs[·]?)) (perm.filterMap (ws[·]?))
  | [] => .nil
  | i :: perm => by
    have ih := filterMap_VRs r perm
    rw [List.filterMap_cons, List.filterMap_cons]
    cases e : ws[i]? with
    | some w =>
      obtain ⟨v, h1, h2⟩ := r.get e
      rw [h1]
      exact .cons h2 ih
    | none =>
      have : vs[i]? = none := by
        rw [List.getElem?_eq_none_iff] at e ⊢
        rw [r.length]
        exact e
      rw [this]
      exact ih
theorem filterMap_Vals {vs : List V} {us : List Value} (r : Vals vs us) : ∀ perm : List Nat, Vals (perm.filterMap (vs[·]?)) (perm.filterMap (us[·]?))
  | [] => .nil
  | i :: perm => by
    have ih := filterMap_Vals r perm
    rw [List.filterMap_cons, List.filterMap_cons]
    cases e : vs[i]? with
    | some w =>
      obtain ⟨v, h1, h2⟩ := r.get e
      rw [h1]
      exact .cons h2 ih
    | none =>
      rw [r.none_of e]
      exact ih
/-- the call of the def f, its arguments there -/
theorem call_core (g : Good P G O XR Wx N sc X) {pins : List (Addr × Obj)} {σ : L2.St} {H : Hp} {s : Shared} {Q : VK} {f : Nat} {ps : List Str} {fa : Addr} {fd : FuncData} {k : Nat} {args : List Value} {kw : List (Str × Value)} {us : List Value} {vs : List V} {m : List Addr} {S : Sto} {ws : List W}
    (hr : RoomG k X.A) (F : FnG X.prog X.w X.K X.mg X.base (CX X.prog X.w) k fa fd ps (spO X.K XR O ps.length f)) (bd : BindsTo s fd ⟨args, kw⟩ (ps.zip us)) (I : Inv X pins σ H s) (r : Vals vs us) (hl : vs.length = ps.length)
    (hR : HR X.K m H S) (hv : VRs X.K m H vs ws) (P : Post X.K XR Wx m H σ (VR X.K) (O f ws S) Q) : wpAny (model X.prog X.w) X.A (PySem.call (.ref fa) args kw) (EP X pins σ Q) X.xe s := by
  refine FnG.call F hr (E := fun cls d H' => Wx cls d σ H') bd I (fun e s' q => g.tk _ _ (XE.of_call I (fun _ _ _ h => h) q)) r ⟨hl, m, S, ws, hR, hv, ?_⟩
  cases e : O f ws S with
  | none => rw [e] at P; exact (Post.none_ P).elim
  | some z =>
    rw [e] at P
    cases z with
    | ok a S' => exact P
    | ex c fs S' => exact P
def CEs.len : CEs → Nat
  | .nil => 0
  | .cons _ r => r.len + 1
theorem runEs_len : ∀ {es : CEs} {ρ : En} {S S' : Sto} {ws : List W}, runEs G O es ρ S = some (.ok ws S') → ws.length = es.len
  | .nil, ρ, S, S', ws, h => by
    unfold runEs at h
    cases h
    rfl
  | .cons e es, ρ, S, S', ws, h => by
    unfold runEs at h
    cases h1 : runE G O e ρ S with
    | none => rw [h1] at h; cases h
    | some r =>
      rw [h1] at h
      cases r with
      | ex c fs S1 => cases h
      | ok x S1 =>
        rw [Rs.bind_ok] at h
        cases h2 : runEs G O es ρ S1 with
        | none => rw [h2] at h; cases h
        | some r =>
          rw [h2] at h
          cases r with
          | ex c fs S2 => cases h
          | ok xs S2 =>
            rw [Rs.bind_ok] at h
            cases h
            rw [List.length_cons, runEs_len h2]
            rfl
theorem Post.bindE {K : PySem.W.Frag} {m : List Addr} {H : Hp} {σ : L2.St} {α β γ δ : Type} {rel : List Addr → Hp → β → α → Prop} {rel' : List Addr → Hp → δ → γ → Prop} {r : Rs α} {g : α → Sto → Rs γ} {Q : δ → Hp → Prop} {Q' : β → Hp → Prop} (h : Post K XR Wx m H σ rel' (r.bind g) Q)
    (k : ∀ m1 H1 S1 b a, r = some (.ok a S1) → Ext K m H m1 H1 → HR K m1 H1 S1 → rel m1 H1 b a → Post K XR Wx m1 H1 σ rel' (g a S1) Q → Q' b H1) : Post K XR Wx m H σ rel r Q' := by
  cases r with
  | none => exact h
  | some r =>
    cases r with
    | ok a S => exact fun m1 H1 b e hr hb => k m1 H1 S b a rfl e hr hb (Post.ext h e)
    | ex c fs S => exact h
/-- the def's call without names -/
theorem so_call (g : Good P G O XR Wx N sc X) {f : Nat} {es : CEs} {x : Str} {args : List Expr} {p pos : Pos} (h1 : ((P.fns[f]?).map (·.1) == some x) = true) (h2 : glB sc x = true) (h3 : nameOk x = true) (hst : args.all notStar = true)
    (hn : ((P.fns[f]?).map (·.2.length) == some args.length) = true) (hes : es.len = args.length) (ha : PA X args (tEs X.K XR Wx (runEs G O es))) :
    PE X (.Call (.Name x p) args [] pos) (tE X.K XR Wx (runE G O (.call f es .nil []))) := by
  obtain ⟨n1, n2, n3⟩ := nameOk_of h3
  obtain ⟨k, hr, fns⟩ := g.fns
  have h1' := eq_of_beq h1
  have hn' := eq_of_beq hn
  cases hf : P.fns[f]? with
  | none => rw [hf] at h1'; cases h1'
  | some q =>
    obtain ⟨y, ps⟩ := q
    rw [hf] at h1' hn'
    have ey : y = x := Option.some.inj h1'
    subst ey
    have hn2 : ps.length = args.length := Option.some.inj hn'
    obtain ⟨fa, fd, hm, hk, hb, F, _⟩ := fns f y ps hf
    refine ⟨fun pins s σ H Q I h => ?_⟩
    obtain ⟨m, S, ρ, hR, eR, P1⟩ := h
    unfold runE at P1
    have fin : ∀ (s1 : Shared) (H1 : Hp) (us : List Value) (vs : List V), Inv X pins σ H1 s1 → Vals vs us → (∃ m1 S1 ws, ws.length = args.length ∧ HR X.K m1 H1 S1 ∧ VRs X.K m1 H1 vs ws ∧ Post X.K XR Wx m1 H1 σ (VR X.K) (O f ws S1) Q) →
        wpAny (model X.prog X.w) X.A (PySem.call (.ref fa) us) (EP X pins σ Q) X.xe s1 := by
      rintro s1 H1 us vs I1 r ⟨m1, S1, ws, hl, hR1, hv, P2⟩
      have hul : us.length = ps.length := by rw [← r.length, hv.length, hl, hn2]
      have bd := hb s1 us I1.kIn (by rw [List.append_nil]; exact hul)
      rw [List.append_nil] at bd
      exact call_core g hr F bd I1 r (by rw [r.length]; exact hul) hR1 hv P2
    refine wpAny_Call_Name_kw (ld_glob I (g.gl h2) hm ?_ n1)
    have pst : tEs X.K XR Wx (runEs G O es) σ H (fun vs H1 => ∃ m1 S1 ws, ws.length = args.length ∧ HR X.K m1 H1 S1 ∧ VRs X.K m1 H1 vs ws ∧ Post X.K XR Wx m1 H1 σ (VR X.K) (O f ws S1) Q) := by
      refine ⟨m, S, ρ, hR, eR, Post.bindE P1 fun m1 H1 S1 xs xs' er e1 hR1 vxs P2 => ⟨m1, S1, xs', (runEs_len er).trans hes, hR1, vxs, ?_⟩⟩
      unfold runEs at P2
      simpa using P2
    cases args with
    | nil =>
      cases es with
      | cons _ _ => cases hes
      | nil =>
        obtain ⟨m1, S1, rho, hR1, eR1, P2⟩ := pst
        unfold runEs at P2
        exact PySem.W.callWith_K0 I.kIn hk (fin s H [] [] I .nil (Post.ok P2 hR1 .nil))
    | cons e rest =>
      simp only [List.all_cons, Bool.and_eq_true] at hst
      exact PySem.W.callWith_K (h₀ := X.base) I.ok.mod.kin hk (thn (ha.run pos pins s σ H _ I pst) fun us s1 ⟨vs, H1, I1, r, q⟩ => ⟨I1.kIn, fin s1 H1 us vs I1 r q⟩) (star_of hst.1) (stars_any hst.2)
/-! ### calls by names -/
theorem kw_all {env : Env} {pos : Pos} : ∀ {kws : List Keyword}, kws.all (·.arg.isSome) = true → (backToKw pos (keywordEach kws env)).all (·.1.isSome) = true ∧ (backToKw pos (keywordEach kws env)).filterMap (·.1) = kwNames kws ∧ (backToKw pos (keywordEach kws env)).any (·.1.isNone) = false
  | [], _ => ⟨rfl, rfl, rfl⟩
  | ⟨none, e, p⟩ :: kws, h => by simp at h
  | ⟨some a, e, p⟩ :: kws, h => by
    simp only [List.all_cons, Bool.and_eq_true] at h
    obtain ⟨i1, i2, i3⟩ := kw_all (env := env) (pos := pos) h.2
    have e1 : backToKw pos (keywordEach (⟨some a, e, p⟩ :: kws) env) = (some a, (do let v ← eval e env; standAt pos; pure v)) :: backToKw pos (keywordEach kws env) := rfl
    rw [e1]
    refine ⟨?_, ?_, ?_⟩
    · rw [List.all_cons, i1]
      rfl
    · rw [List.filterMap_cons, i2]
      rfl
    · rw [List.any_cons, i3]
      rfl
theorem so_callK (g : Good P G O XR Wx N sc X) {f : Nat} {es ks : CEs} {perm : List Nat} {x : Str} {args : List Expr} {kws : List Keyword} {p pos : Pos} (h1 : ((P.fns[f]?).map (·.1) == some x) = true) (h2 : glB sc x = true) (h3 : nameOk x = true) (hst : args.all notStar = true)
    (hkw : kws.all (·.arg.isSome) = true) (hn : (f, args.length, kwNames kws, perm) ∈ P.kws) (hes : es.len = args.length) (hks : ks.len = kws.length) (ha : PA X args (tEs X.K XR Wx (runEs G O es))) (hk' : PK X kws (tEs X.K XR Wx (runEs G O ks)))
    (hpl : ∀ ps, P.fns[f]? = some (x, ps) → ps.length = args.length + perm.length ∧ ∀ i ∈ perm, i < kws.length) :
    PE X (.Call (.Name x p) args kws pos) (tE X.K XR Wx (runE G O (.call f es ks perm))) := by
  obtain ⟨n1, n2, n3⟩ := nameOk_of h3
  obtain ⟨k, hr, fns⟩ := g.fns
  have h1' := eq_of_beq h1
  cases hf : P.fns[f]? with
  | none => rw [hf] at h1'; cases h1'
  | some q =>
    obtain ⟨y, ps⟩ := q
    rw [hf] at h1'
    have ey : y = x := Option.some.inj h1'
    subst ey
    obtain ⟨fa, fd, hm, hk, _, F, hb⟩ := fns f y ps hf
    obtain ⟨hp1, hp2⟩ := hpl ps hf
    have len_perm : ∀ {α : Type} {l : List α}, l.length = kws.length → (perm.filterMap (l[·]?)).length = perm.length := by
      intro α l hl
      clear hn hpl hp1
      induction perm with
      | nil => rfl
      | cons i perm ih =>
        have hi : i < l.length := by rw [hl]; exact hp2 i (List.mem_cons_self ..)
        rw [List.filterMap_cons, List.getElem?_eq_getElem hi]
        simp only [List.length_cons]
        rw [ih fun j hj => hp2 j (List.mem_cons_of_mem _ hj)]
    obtain ⟨k1, k2, k3⟩ := kw_all (env := X.env) (pos := pos) hkw
    have klen : (kwNames kws).length = kws.length := by
      clear hn hpl hp2 hks hk' k1 k2 k3 len_perm
      induction kws with
      | nil => rfl
      | cons a r ih =>
        simp only [List.all_cons, Bool.and_eq_true] at hkw
        obtain ⟨nm, e, pp⟩ := a
        cases nm with
        | none => simp at hkw
        | some nm =>
          have := ih hkw.2
          unfold kwNames at this ⊢
          rw [List.filterMap_cons]
          simp only [List.length_cons]
          rw [this]
    refine ⟨fun pins s σ H Q I h => ?_⟩
    obtain ⟨m, S, ρ, hR, eR, P1⟩ := h
    unfold runE at P1
    -- behind the positional arguments
    have mid : ∀ (s1 : Shared) (H1 : Hp) (us : List Value) (vs : List V), Inv X pins σ H1 s1 → Vals vs us → (∃ m1 S1 ws, ws.length = args.length ∧ HR X.K m1 H1 S1 ∧ ER X.K m1 H1 σ ρ ∧ VRs X.K m1 H1 vs ws ∧ Post X.K XR Wx m1 H1 σ (VR X.K) ((runEs G O ks ρ S1).bind fun ys S2 => O f (ws ++ perm.filterMap (ys[·]?)) S2) Q) →
        wpAny (model X.prog X.w) X.A (evalAll ((backToKw pos (keywordEach kws X.env)).map (·.2))) (fun ws s2 => X.K.In s2.heap ∧ wpAny (model X.prog X.w) X.A (PySem.call (.ref fa) us (((backToKw pos (keywordEach kws X.env)).filterMap (·.1)).zip ws)) (EP X pins σ Q) X.xe s2) X.xe s1 := by
      rintro s1 H1 us vs I1 r ⟨m1, S1, ws, hl, hR1, eR1, hv, P2⟩
      refine thn (hk'.run pos pins s1 σ H1 (fun zs H2 => ∃ m2 S2 ws ys, ws.length = args.length ∧ ys.length = kws.length ∧ HR X.K m2 H2 S2 ∧ VRs X.K m2 H2 vs ws ∧ VRs X.K m2 H2 zs ys ∧ Post X.K XR Wx m2 H2 σ (VR X.K) (O f (ws ++ perm.filterMap (ys[·]?)) S2) Q) I1
        ⟨m1, S1, ρ, hR1, eR1, Post.bindE P2 fun m2 H2 S2 ys ys' er e2 hR2 vys P3 => ⟨m2, S2, ws, ys', hl, (runEs_len er).trans hks, hR2, hv.ext e2, vys, P3⟩⟩) fun us2 s2 ⟨zs, H2, I2, r2, m2, S2, ws', ys, hl', hy, hR2, hv2, hz, P3⟩ => ⟨I2.kIn, ?_⟩
      rw [k2]
      have hul : us.length = args.length := by rw [← r.length, hv2.length, hl']
      have hzl : us2.length = kws.length := by rw [← r2.length, hz.length, hy]
      have bd := hb args.length (kwNames kws) perm hn s2 us us2 I2.kIn hul (hzl.trans klen.symm)
      refine call_core g hr F bd I2 (r.append (filterMap_Vals r2 perm)) ?_ hR2 (hv2.append (filterMap_VRs hz perm)) P3
      rw [List.length_append, len_perm (by rw [r2.length]; exact hzl), r.length, hul, hp1]
    refine wpAny_Call_Name_kw (ld_glob I (g.gl h2) hm ?_ n1)
    have pst : tEs X.K XR Wx (runEs G O es) σ H (fun vs H1 => ∃ m1 S1 ws, ws.length = args.length ∧ HR X.K m1 H1 S1 ∧ ER X.K m1 H1 σ ρ ∧ VRs X.K m1 H1 vs ws ∧ Post X.K XR Wx m1 H1 σ (VR X.K) ((runEs G O ks ρ S1).bind fun ys S2 => O f (ws ++ perm.filterMap (ys[·]?)) S2) Q) :=
      ⟨m, S, ρ, hR, eR, Post.bindE P1 fun m1 H1 S1 xs xs' er e1 hR1 vxs P2 => ⟨m1, S1, xs', (runEs_len er).trans hes, hR1, eR.ext e1, vxs, P2⟩⟩
    cases args with
    | nil =>
      cases es with
      | cons _ _ => cases hes
      | nil =>
        exact PySem.W.callWith_KW0 (h₀ := X.base) I.ok.mod.kin hk k1 (mid s H [] [] I .nil ⟨m, S, [], rfl, hR, eR, .nil, by rw [runEs_nil, Rs.bind_ok] at P1; exact P1⟩) (by rw [k3]; rfl)
    | cons e rest =>
      simp only [List.all_cons, Bool.and_eq_true] at hst
      refine PySem.W.callWith_KW (h₀ := X.base) I.ok.mod.kin hk k1 (thn (ha.run pos pins s σ H _ I pst) fun us s1 ⟨vs, H1, I1, r, q⟩ => mid s1 H1 us vs I1 r q) ?_ (star_of hst.1)
      rw [k3, Bool.or_false]
      exact stars_any (by simp only [List.all_cons, Bool.and_eq_true]; exact hst)
end
end Co
namespace Co
open PySem PySem.Spec PyProof.Rows L2

theorem Rs.bind_bind {α β γ : Type} (r : Rs α) (f : α → Sto → Rs β) (g : β → Sto → Rs γ) : (r.bind f).bind g = r.bind fun a S => (f a S).bind g := by
  cases r with
  | none => rfl
  | some r => cases r <;> rfl
section
variable {P : Sta} {G : List W} {O : Orc} {XR : XRel} {Wx : WX} {N : List Str} {sc : Scope} {X : Cx}
theorem Good.hu (g : Good P G O XR Wx N sc X) : X.A.units + 64 < cLine := by
  obtain ⟨k, hr, _⟩ := g.fns
  have := hr.room.un
  omega
theorem Good.gd (g : Good P G O XR Wx N sc X) : X.A.guards = some [] := by
  obtain ⟨k, hr, _⟩ := g.fns
  exact hr.gd
/-! ### built-ins -/
theorem so_bltB (g : Good P G O XR Wx N sc X) {f : Blt} {es : CEs} {x : Str} {e : Expr} {args : List Expr} {id : String} {p pos : Pos} (hc : CallR X (.builtin id) (rB X.K XR Wx f)) (hx : x ∈ bltNames) (hv : bootBuiltins x = some (.builtin id)) (hn : x ≠ "__name__") (hd : (x == ("__debug__" : Str)) = false)
    (h2 : glB sc x = true) (hst : (e :: args).all notStar = true) (ha : PA X (e :: args) (tEs X.K XR Wx (runEs G O es))) : PE X (.Call (.Name x p) (e :: args) [] pos) (tE X.K XR Wx (runE G O (.blt f es))) := by
  simp only [List.all_cons, Bool.and_eq_true] at hst
  refine PE.weak (pe_callB hc (g.gl h2) (g.blt x hx) hv ha hn hd (star_of hst.1) (stars_any hst.2)) ?_
  rintro σ H Q ⟨m, S, ρ, hR, eR, P⟩
  unfold runE at P
  exact ⟨m, S, ρ, hR, eR, Post.bind P fun m1 H1 S1 xs xs' e1 hR1 vxs P1 => ⟨m1, S1, σ, xs', hR1, vxs, P1⟩⟩
theorem so_bltT (g : Good P G O XR Wx N sc X) {f : Blt} {es : CEs} {x : Str} {e : Expr} {args : List Expr} {id : String} {p pos : Pos} (hc : CallR X (.type id) (rB X.K XR Wx f)) (hx : x ∈ bltNames) (hv : bootBuiltins x = some (.type id)) (hn : x ≠ "__name__") (hd : (x == ("__debug__" : Str)) = false)
    (h2 : glB sc x = true) (hst : (e :: args).all notStar = true) (ha : PA X (e :: args) (tEs X.K XR Wx (runEs G O es))) : PE X (.Call (.Name x p) (e :: args) [] pos) (tE X.K XR Wx (runE G O (.blt f es))) := by
  simp only [List.all_cons, Bool.and_eq_true] at hst
  refine PE.weak (pe_callTy hc (g.gl h2) (g.blt x hx) hv ha hn hd (star_of hst.1) (stars_any hst.2)) ?_
  rintro σ H Q ⟨m, S, ρ, hR, eR, P⟩
  unfold runE at P
  exact ⟨m, S, ρ, hR, eR, Post.bind P fun m1 H1 S1 xs xs' e1 hR1 vxs P1 => ⟨m1, S1, σ, xs', hR1, vxs, P1⟩⟩
theorem so_blt (g : Good P G O XR Wx N sc X) {f : Blt} {es : CEs} {x : Str} {e : Expr} {args : List Expr} {p pos : Pos} (h1 : bltB f x = true) (h2 : glB sc x = true) (hst : (e :: args).all notStar = true) (ha : PA X (e :: args) (tEs X.K XR Wx (runEs G O es))) :
    PE X (.Call (.Name x p) (e :: args) [] pos) (tE X.K XR Wx (runE G O (.blt f es))) := by
  cases f with
  | len => cases (eq_of_beq (show (x == ("len" : Str)) = true from h1)); exact so_bltB g b_len (by decide +kernel) (by decide +kernel) (by decide +kernel) (by decide +kernel) h2 hst ha
  | int => cases (eq_of_beq (show (x == ("int" : Str)) = true from h1)); exact so_bltT g b_int (by decide +kernel) (by decide +kernel) (by decide +kernel) (by decide +kernel) h2 hst ha
  | tuple => cases (eq_of_beq (show (x == ("tuple" : Str)) = true from h1)); exact so_bltT g b_tuple (by decide +kernel) (by decide +kernel) (by decide +kernel) (by decide +kernel) h2 hst ha
  | list => cases (eq_of_beq (show (x == ("list" : Str)) = true from h1)); exact so_bltT g b_list (by decide +kernel) (by decide +kernel) (by decide +kernel) (by decide +kernel) h2 hst ha
  | repr => cases (eq_of_beq (show (x == ("repr" : Str)) = true from h1)); exact so_bltB g (b_repr g.gd g.hu) (by decide +kernel) (by decide +kernel) (by decide +kernel) (by decide +kernel) h2 hst ha
  | abs => cases (eq_of_beq (show (x == ("abs" : Str)) = true from h1)); exact so_bltB g b_abs (by decide +kernel) (by decide +kernel) (by decide +kernel) (by decide +kernel) h2 hst ha
  | max2 => cases (eq_of_beq (show (x == ("max" : Str)) = true from h1)); exact so_bltB g (b_max2 g.calm) (by decide +kernel) (by decide +kernel) (by decide +kernel) (by decide +kernel) h2 hst ha
  | min2 => cases (eq_of_beq (show (x == ("min" : Str)) = true from h1)); exact so_bltB g (b_min2 g.calm) (by decide +kernel) (by decide +kernel) (by decide +kernel) (by decide +kernel) h2 hst ha
  | str => cases (eq_of_beq (show (x == ("str" : Str)) = true from h1)); exact so_bltT g b_str (by decide +kernel) (by decide +kernel) (by decide +kernel) (by decide +kernel) h2 hst ha
  | sum => cases (eq_of_beq (show (x == ("sum" : Str)) = true from h1)); exact so_bltB g (b_sum g.calm) (by decide +kernel) (by decide +kernel) (by decide +kernel) (by decide +kernel) h2 hst ha
  | isi t => cases h1
  | sorted => cases (eq_of_beq (show (x == ("sorted" : Str)) = true from h1)); exact so_bltB g b_sorted (by decide +kernel) (by decide +kernel) (by decide +kernel) (by decide +kernel) h2 hst ha
  | lrng => cases h1
  | rev => cases h1
  | join => cases h1
  | split => cases h1
theorem so_isi (g : Good P G O XR Wx N sc X) {t : Ty} {a : CE} {x y : Str} {e : Expr} {p q pos : Pos} (h1 : (x == ("isinstance" : Str)) = true) (h0 : (y == Str.ofString (tyN t)) = true) (h2 : glB sc x = true) (h3 : glB sc y = true) (hst : notStar e = true) (ha : PE X e (tE X.K XR Wx (runE G O a))) :
    PE X (.Call (.Name x p) [e, .Name y q] [] pos) (tE X.K XR Wx (runE G O (.isi t a))) := by
  cases (eq_of_beq h1)
  cases (eq_of_beq h0)
  have hb : bootBuiltins (Str.ofString (tyN t)) = some (.type (tyN t)) := by cases t <;> decide +kernel
  have hm : Str.ofString (tyN t) ∈ bltNames := by cases t <;> decide +kernel
  have n1 : Str.ofString (tyN t) ≠ "__name__" := by cases t <;> decide +kernel
  have n2 : (Str.ofString (tyN t) == ("__debug__" : Str)) = false := by cases t <;> decide +kernel
  have pa2 : PA X [.Name (Str.ofString (tyN t)) q] (tCons (tC (.ty (tyN t))) tNil) := pa_cons (pe_bltn (v := .ty (tyN t)) (g.gl h3) (g.blt _ hm) hb rfl n1 n2) pa_nil rfl
  refine PE.weak (pe_callB (b_isi (XR := XR) (Wx := Wx) t) (g.gl h2) (g.blt _ (by decide +kernel)) (by decide +kernel) (pa_cons ha pa2 (star_of hst)) (by decide +kernel) (by decide +kernel) (star_of hst) rfl) ?_
  rintro σ H Q ⟨m, S, ρ, hR, eR, P⟩
  unfold runE at P
  refine ⟨m, S, ρ, hR, eR, Post.bind P fun m1 H1 S1 x x' e1 hR1 vx P1 => ?_⟩
  exact ⟨x, rfl, m1, S1, σ, [x'], hR1, .cons vx .nil, P1⟩
/-! ### methods -/
theorem recv_list {m : Mt} {S : Sto} {w : W} (h : recv S m w = true) (hm : m ≠ .get1) : ∃ n rw ws, w = .ref n ∧ S[n]? = some (.lst rw ws) := by
  cases w with
  | ref n =>
    have h' : (match S[n]? with | some (.lst _ _) => true | _ => false) = true := by
      cases m <;> first | exact h | exact absurd rfl hm
    split at h'
    · exact ⟨n, _, _, rfl, by assumption⟩
    · cases h'
  | _ => cases m <;> cases h
theorem so_mth1 (g : Good P G O XR Wx N sc X) {m : Mt} {o : CE} {es : CEs} {eo e : Expr} {args : List Expr} {name : Str} {id : String} {apos cpos : Pos} (hm : m ≠ .get1) (sl : Slot "list" name id) (ty : typeOf (.builtin id) = pure (.type "method_descriptor")) (hr : MtR X id (rMt X.K XR Wx m))
    (hbase : noSuper eo = true) (hline : (apos.endLine == cpos.line) = true) (ho : PE X eo (tE X.K XR Wx (runE G O o))) (hst : (e :: args).all notStar = true) (hlen : (e :: args).length < 30) (ha : PA X (e :: args) (tEs X.K XR Wx (runEs G O es))) :
    PE X (.Call (.Attribute eo name apos) (e :: args) [] cpos) (tE X.K XR Wx (runE G O (.mth m o es))) := by
  have hst' := hst
  simp only [List.all_cons, Bool.and_eq_true] at hst'
  refine PE.weak (pe_bm F.plainAttrs_list sl ty hr ho ha (base_of hbase _) ?_ hline (star_of hst'.1) (stars_any hst'.2)) ?_
  · rw [stars_all hst]
    simp only [Bool.true_and]
    show (true && decide ((e :: args).length + 0 + 0 < 30)) = true
    simp only [Bool.true_and, decide_eq_true_eq]
    omega
  · rintro σ H Q ⟨m0, S, ρ, hR, eR, P⟩
    unfold runE at P
    refine ⟨m0, S, ρ, hR, eR, Post.bind P fun m1 H1 S1 x x' e1 hR1 vx P1 => ?_⟩
    split at P1
    · rename_i hrc
      obtain ⟨n, rw, ws, rfl, hw⟩ := recv_list hrc hm
      exact ⟨m_tyV hR1 vx hw, m1, S1, ρ, hR1, eR.ext e1, Post.bind P1 fun m2 H2 S2 xs xs' e2 hR2 vxs P2 => ⟨m2, S2, σ, _, xs', hR2, vx.ext e2, vxs, P2⟩⟩
    · exact (Post.none_ P1).elim
theorem so_mth0 (g : Good P G O XR Wx N sc X) {m : Mt} {o : CE} {eo : Expr} {name : Str} {id : String} {apos cpos : Pos} (hm : m ≠ .get1) (sl : Slot "list" name id) (ty : typeOf (.builtin id) = pure (.type "method_descriptor")) (hr : MtR X id (rMt X.K XR Wx m))
    (hbase : noSuper eo = true) (hline : (apos.endLine == cpos.line) = true) (ho : PE X eo (tE X.K XR Wx (runE G O o))) : PE X (.Call (.Attribute eo name apos) [] [] cpos) (tE X.K XR Wx (runE G O (.mth m o .nil))) := by
  refine PE.weak (pe_bm0 F.plainAttrs_list sl ty hr ho (base_of hbase _) hline) ?_
  rintro σ H Q ⟨m0, S, ρ, hR, eR, P⟩
  unfold runE at P
  refine ⟨m0, S, ρ, hR, eR, Post.bind P fun m1 H1 S1 x x' e1 hR1 vx P1 => ?_⟩
  split at P1
  · rename_i hrc
    obtain ⟨n, rw, ws, rfl, hw⟩ := recv_list hrc hm
    rw [runEs_nil] at P1
    exact ⟨m_tyV hR1 vx hw, m1, S1, σ, _, [], hR1, vx, .nil, P1⟩
  · exact (Post.none_ P1).elim
theorem so_mth (g : Good P G O XR Wx N sc X) {m : Mt} {o : CE} {es : CEs} {eo : Expr} {args : List Expr} {name : Str} {apos cpos : Pos} (h1 : mtB m name args.length = true) (hbase : noSuper eo = true) (hline : (apos.endLine == cpos.line) = true) (ho : PE X eo (tE X.K XR Wx (runE G O o)))
    (hst : args.all notStar = true) (hes : es.len = args.length) (ha : PA X args (tEs X.K XR Wx (runEs G O es))) : PE X (.Call (.Attribute eo name apos) args [] cpos) (tE X.K XR Wx (runE G O (.mth m o es))) := by
  cases m with
  | get1 => cases h1
  | append =>
    simp only [mtB, Bool.and_eq_true, beq_iff_eq] at h1
    obtain ⟨rfl, hl⟩ := h1
    match args, hl, hst, ha with
    | [e], _, hst, ha => exact so_mth1 g (by decide) F.slot_list_append F.type_list_append m_append hbase hline ho hst (show 1 < 30 by omega) ha
  | extend =>
    simp only [mtB, Bool.and_eq_true, beq_iff_eq] at h1
    obtain ⟨rfl, hl⟩ := h1
    match args, hl, hst, ha with
    | [e], _, hst, ha => exact so_mth1 g (by decide) F.slot_list_extend F.type_list_extend m_extend hbase hline ho hst (show 1 < 30 by omega) ha
  | popAt =>
    simp only [mtB, Bool.and_eq_true, beq_iff_eq] at h1
    obtain ⟨rfl, hl⟩ := h1
    match args, hl, hst, ha with
    | [e], _, hst, ha => exact so_mth1 g (by decide) F.slot_list_pop F.type_list_pop m_popAt hbase hline ho hst (show 1 < 30 by omega) ha
  | pop =>
    simp only [mtB, Bool.and_eq_true, beq_iff_eq] at h1
    obtain ⟨rfl, hl⟩ := h1
    match args, hl, es, hes with
    | [], _, .nil, _ => exact so_mth0 g (by decide) F.slot_list_pop F.type_list_pop m_pop hbase hline ho
/-! ### displays of dicts -/
theorem so_dct0 {pos : Pos} : PE X (.Dict [] [] pos) (tE X.K XR Wx (runE G O (.dct .nil))) := by
  refine PE.weak pe_dnewK ?_
  rintro σ H Q ⟨m, S, ρ, hR, eR, P⟩ p hp
  unfold runE at P
  unfold runKs at P
  have hl : (S ++ [MO.dic true []])[S.length]? = some (.dic true []) := by simp
  simp only [okW_eq, Rs.bind_ok, hl, List.length_nil, Nat.zero_le, if_true] at P
  have hs : (S ++ [MO.dic true []]).set S.length (.dic true (mergeD [] [])) = S ++ [MO.dic true []] := by
    rw [List.set_append_right _ _ (Nat.le_refl _), Nat.sub_self]
    rfl
  rw [hs] at P
  refine Post.ok' P ((Ext.new hp).snoc p) (hR.laid hp ⟨[], upd_same, .nil⟩) (.ref ?_)
  rw [← hR.len]
  simp
/-- the pairs -/
def rKV (K : PySem.W.Frag) : List Addr → Hp → List (V × V) → List (Key × W) → Prop := fun m H ps kws => ∃ kvs : List (Key × V), ps = kvs.map (fun kv => (kV kv.1, kv.2)) ∧ KR K m H kvs kws
structure PKV (X : Cx) (pos : Pos) (ks : List (Option Expr)) (vs : List Expr) (K : PySem.W.Frag) (XR : XRel) (Wx : WX) (f : En → Sto → Rs (List (Key × W))) : Prop where
  ex : ∃ trs, PPs X pos ks vs trs ∧ ∀ σ H Q, tR K XR Wx (rKV K) f σ H Q → tPairs trs σ H Q
theorem so_kv_nil {pos : Pos} : PKV X pos [] [] X.K XR Wx (runKs G O .nil) := by
  refine ⟨[], pps_nil, ?_⟩
  rintro σ H Q ⟨m, S, ρ, hR, eR, P⟩
  unfold runKs at P
  exact Post.ok P hR ⟨[], rfl, .nil⟩
theorem so_kv_cons {pos : Pos} {k v : CE} {r : CKs} {ek ev : Expr} {ks : List (Option Expr)} {vs : List Expr} (hk : PE X ek (tE X.K XR Wx (runE G O k))) (hv : PE X ev (tE X.K XR Wx (runE G O v))) (hr : PKV X pos ks vs X.K XR Wx (runKs G O r)) :
    PKV X pos (some ek :: ks) (ev :: vs) X.K XR Wx (runKs G O (.cons k v r)) := by
  obtain ⟨trs, h1, h2⟩ := hr
  refine ⟨_, pps_cons hk hv h1, ?_⟩
  rintro σ H Q ⟨m, S, ρ, hR, eR, P⟩
  unfold runKs at P
  refine ⟨m, S, ρ, hR, eR, Post.bind P fun m1 H1 S1 x x' e1 hR1 vx P1 => ⟨m1, S1, ρ, hR1, eR.ext e1, Post.bind P1 fun m2 H2 S2 y y' e2 hR2 vy P2 => h2 _ _ _ ⟨m2, S2, ρ, hR2, (eR.ext e1).ext e2, Post.bind P2 fun m3 H3 S3 z z' e3 hR3 vz P3 => ?_⟩⟩⟩
  split at P3
  · rename_i kk hkk
    obtain ⟨kvs, rfl, q⟩ := vz
    have ex := key_VR vx hkk
    subst ex
    exact Post.ok P3 hR3 ⟨(kk, y) :: kvs, rfl, .cons ⟨rfl, vy.ext e3⟩ q⟩
  · exact (Post.none_ P3).elim
theorem put_KR {K : PySem.W.Frag} {m : List Addr} {H : Hp} {kvs : List (Key × V)} {kws : List (Key × W)} {v : V} {w : W} (r : KR K m H kvs kws) (k : Key) (rv : VR K m H v w) : KR K m H (putK kvs k v) (putD kws k w) := putD_KR r k rv
theorem merge_KR {K : PySem.W.Frag} {m : List Addr} {H : Hp} {more : List (Key × V)} {wore : List (Key × W)} (r : KR K m H more wore) : ∀ {kvs : List (Key × V)} {kws : List (Key × W)}, KR K m H kvs kws → KR K m H (mergeK kvs more) (mergeD kws wore) := by
  unfold KR at r
  induction r with
  | nil => intro kvs kws q; exact q
  | @cons p q ps qs h t ih =>
    intro kvs kws r0
    refine ih (kvs := putK kvs p.1 p.2) (kws := putD kws q.1 q.2) ?_
    rw [← h.1]
    exact put_KR r0 p.1 h.2
theorem so_dct {kvs : CKs} {ks : List (Option Expr)} {vs : List Expr} {pos : Pos} (hall : ks.all (·.isSome) = true) (hl : ks.length = vs.length) (h0 : ks ≠ []) (h15 : ks.length ≤ 15) (h : PKV X pos ks vs X.K XR Wx (runKs G O kvs)) : PE X (.Dict ks vs pos) (tE X.K XR Wx (runE G O (.dct kvs))) := by
  obtain ⟨trs, h1, h2⟩ := h
  refine PE.weak (pe_disp h1 hall hl h0 h15) ?_
  rintro σ H Q ⟨m, S, ρ, hR, eR, P⟩ p hp
  unfold runE at P
  have hR0 := hR.laid (o := .dK []) (x := .dic true []) hp ⟨[], upd_same, .nil⟩
  have e0 : Ext X.K m H (m ++ [p]) (upd H p (.dK [])) := (Ext.new hp).snoc p
  refine h2 _ _ _ ⟨_, _, ρ, hR0, eR.ext e0, Post.bind (Post.ext P e0) fun m1 H1 S1 ps ps' e1 hR1 vps P1 => ?_⟩
  have hp1 : m1[S.length]? = some p := e1.get (by rw [← hR.len]; simp)
  split at P1
  · rename_i hd
    split at P1
    · rename_i hz
      obtain ⟨kvs', hk1, hk2⟩ := vps
      obtain ⟨kvs0, q1, q2⟩ := hR1.at_ _ p _ hp1 hd
      cases q2
      refine ⟨q1, kvs', hk1, by rw [KR.length hk2]; exact hz, ?_⟩
      have ex := Ext.wrD (K := X.K) (m := m1) (o := .dK (mergeK [] kvs')) q1
      exact Post.ok' P1 ex (hR1.wr hp1 hd (fun _ z => by cases z) (fun _ z => by cases z) ex ⟨_, upd_same, (merge_KR hk2 .nil).ext ex⟩) (.ref hp1)
    · exact (Post.none_ P1).elim
  · exact (Post.none_ P1).elim
/-! ### keywords -/
theorem PK.weak {kws : List Keyword} {t t' : TA} (h : PK X kws t) (k : ∀ σ H Q, t' σ H Q → t σ H Q) : PK X kws t' := ⟨fun pos pins s σ H Q I q => h.run pos pins s σ H Q I (k σ H Q q)⟩
theorem so_kw_nil : PK X [] (tEs X.K XR Wx (runEs G O .nil)) := by
  refine PK.weak pk_nil ?_
  rintro σ H Q ⟨m, S, ρ, hR, eR, P⟩
  rw [runEs_nil] at P
  exact Post.ok P hR .nil
theorem so_kw_cons {c : CE} {cs : CEs} {nm : Option Str} {e : Expr} {kp : Pos} {kws : List Keyword} (h : PE X e (tE X.K XR Wx (runE G O c))) (hr : PK X kws (tEs X.K XR Wx (runEs G O cs))) : PK X (⟨nm, e, kp⟩ :: kws) (tEs X.K XR Wx (runEs G O (.cons c cs))) := by
  refine PK.weak (pk_cons h hr) ?_
  rintro σ H Q ⟨m, S, ρ, hR, eR, P⟩
  unfold runEs at P
  exact ⟨m, S, ρ, hR, eR, Post.bind P fun m1 H1 S1 x x' e1 hR1 vx P1 => ⟨m1, S1, ρ, hR1, eR.ext e1, Post.bind P1 fun m2 H2 S2 xs xs' e2 hR2 vxs P2 => Post.ok P2 hR2 (.cons (vx.ext e2) vxs)⟩⟩
end
end Co
/-! Co: a tuple turned about, t[::-1]. -/
namespace Co
open PySem L2
theorem rev_adjust (n : Nat) : Builtin.Slice.sliceAdjust none none (-1) (n : Int) = ((n : Int) - 1, -1) := by
  unfold Builtin.Slice.sliceAdjust
  simp
theorem rev_places (n : Nat) : Builtin.Slice.slicePlaces ((n : Int) - 1) (-1) (-1) = n := by
  unfold Builtin.Slice.slicePlaces
  rw [if_neg (by decide)]
  split
  · have : ((n : Int) - 1 - -1 - 1) / - -1 + 1 = n := by
      have e : (- -1 : Int) = 1 := by decide
      rw [e, Int.ediv_one]
      omega
    rw [this]
    rfl
  · omega
theorem rev_pick (xs : Array Value) : (List.filterMap (fun k : Nat => xs[(((xs.size : Int) - 1) + (k : Int) * (-1)).toNat]?) (List.range xs.size)).toArray = xs.toList.reverse.toArray := by
  congr 1
  have key : ∀ (n : Nat) (ys : List Value), n ≤ ys.length → (List.range n).filterMap (fun k : Nat => ys[(((ys.length : Int) - 1) + (k : Int) * (-1)).toNat]?) = ys.reverse.take n := by
    intro n
    induction n with
    | zero => intro ys _; rfl
    | succ n ih =>
      intro ys h
      rw [List.range_succ, List.filterMap_append, ih ys (by omega), List.take_succ]
      congr 1
      have e : (((ys.length : Int) - 1) + (n : Int) * (-1)).toNat = ys.length - 1 - n := by omega
      have q : ys.reverse[n]? = ys[ys.length - 1 - n]? := by rw [List.getElem?_reverse (by omega)]
      rw [q]
      simp only [List.filterMap_cons, List.filterMap_nil, e]
      cases ys[ys.length - 1 - n]? <;> rfl
  have := key xs.size xs.toList (by simp)
  simp only [Array.length_toList, Array.getElem?_toList] at this
  rw [this, List.take_of_length_le (by simp)]
theorem rev_applied {prog : Program} {w : World} {A : Around} {E : Value → Shared → Prop} {s : Shared} {sl : Addr} {vl vu vs : Value} {n : Nat} {Q : Int × Int × Nat → Shared → Prop} (hs : s.heap.IsSliceOf sl vl vu vs) (pl : IsPart vl none) (pu : IsPart vu none) (ps : IsPart vs (some (-1))) (h : Q ((n : Int) - 1, -1, n) s) :
    wpAny (model prog w) A (Builtin.Slice.sliceApplied (.ref sl) (pure (n : Int))) Q E s := by
  obtain ⟨os, hos, hcs, hds⟩ := id hs
  unfold Builtin.Slice.sliceApplied Builtin.Slice.sliceFields
  refine wpAny_bind (wpAny_bind (wpAny_field hos hds rfl (wpAny_bind (wpAny_field hos hds rfl (wpAny_bind (wpAny_field hos hds rfl (wpAny_pure ?_)))))))
  refine wpAny_bind (HT.slicePart_ ps ?_)
  simp only [Option.getD_some]
  rw [if_neg (by decide)]
  refine wpAny_bind (HT.slicePart_ pl (wpAny_bind (HT.slicePart_ pu (wpAny_bind (wpAny_pure ?_)))))
  simp only [rev_adjust, rev_places]
  exact wpAny_pure h
theorem getItem_tuple_rev {prog : Program} {w : World} {A : Around} {E : Value → Shared → Prop} {s : Shared} {t sl : Addr} {items : Array Value} {vl vu vs : Value} {Q : Value → Shared → Prop} (ht : PyProof.Rows.IsTup s.heap t items) (hs : s.heap.IsSliceOf sl vl vu vs) (pl : IsPart vl none) (pu : IsPart vu none) (ps : IsPart vs (some (-1)))
    (h : Q (.ref s.heap.objs.size) { s with heap := s.heap.push { cls := .type "tuple", data := .seq items.toList.reverse.toArray } }) (hz : items.size ≤ sizeLine) : wpAny (model prog w) A (getItem (.ref t) (.ref sl)) Q E s := by
  obtain ⟨os, hos, hcs, hds⟩ := id hs
  have hTs : s.TypeIs (.ref sl) "slice" := ⟨os, hos, hcs⟩
  unfold getItem
  refine wpAny_holding (wpAny_bind (wpAny_sequenceKey ht.typeIs (by decide) (wpAny_bind ?_)))
  refine wpAny_callSpecial?_slot ht.typeIs PyProof.Rows.slot_tuple_getitem (wpAny_call_entry PyProof.Rows.slot_tuple_getitem ht.typeIs PyProof.Rows.entry_tuple_getitem ?_ (PyProof.Rows.args_tuple_getitem (.ref t) (.ref sl)))
  refine wpAny_bind (show wpAny _ _ (pure (Value.ref t, [Value.ref sl])) _ _ _ from wpAny_pure ?_)
  simp only
  refine wpAny_bind (PyProof.Rows.tupleItemsOf_ ht (wpAny_bind (wpAny_typeOf hTs ?_)))
  rw [if_pos (by decide)]
  refine wpAny_bind (rev_applied hs pl pu ps ?_)
  simp only
  rw [if_neg (by simp)]
  rw [rev_pick]
  refine wpAny_bind (wpAny_newObj_type (wpAny_pure ⟨_, rfl, wpAny_pure h⟩) ?_)
  show (items.toList.reverse.toArray).size ≤ sizeLine
  simpa using hz
def tRev (K : PySem.W.Frag) (te : TE) : TE := fun σ H Q => te σ H fun x H1 => ∃ a xs, x = .ref a ∧ ((SqL K H1 a xs ∧ ∀ p, H1 p = none → Q (.ref p) (upd H1 p (.lst xs.reverse))) ∨ (SqT K H1 a xs ∧ ∀ p, H1 p = none → Q (.ref p) (upd H1 p (.tup xs.reverse))))
theorem pe_rev {X : Cx} {e : Expr} {te : TE} {k : Nat} {p1 p2 p3 pos : Pos} (he : PE X e te) : PE X (.Subscript e (.Slice none none (some (.UnaryOp .USub (.Constant (.int 1) k p1) p2)) p3) pos) (tRev X.K te) := by
  refine ⟨fun pins s σ H Q I h => PyProof.Rows.Subscript_ (thn (he.run pins s σ H _ I h) fun v s1 x => ?_)⟩
  obtain ⟨x, H1, I1, r1, a, xs, rfl, q⟩ := x
  cases r1
  have hst := po_some (X := X) (pe_un (X := X) (pos := p2) un_neg (pe_int (X := X) (i := 1) (j := k) (pos := p1)))
  refine wpAny_Slice (thn (po_none.run pins s1 σ H1 (fun o H2 => o = none ∧ H2 = H1) I1 ⟨rfl, rfl⟩) fun vl s2 x => ?_)
  obtain ⟨l, H2, I2, pl, rfl, rfl⟩ := x
  refine thn (po_none.run pins s2 σ H2 (fun o H3 => o = none ∧ H3 = H2) I2 ⟨rfl, rfl⟩) fun vu s3 x => ?_
  obtain ⟨u, H3, I3, pu, rfl, rfl⟩ := x
  refine thn (hst.run pins s3 σ H3 (fun o H4 => o = some (-1) ∧ H4 = H3) I3 ⟨1, rfl, -1, rfl, rfl, rfl⟩) fun vs s4 x => ?_
  obtain ⟨o, H4, I4, ps, rfl, rfl⟩ := x
  have I5 : L2.Inv X pins σ H4 { s4 with heap := s4.heap.push { cls := Value.type "slice", data := Data.fields #[vl, vu, vs] } } := Inv.kept I4 fun b ob q => Heap.get?_push_of_some { cls := Value.type "slice", data := Data.fields #[vl, vu, vs] } q
  rcases q with ⟨hx, q⟩ | ⟨hx, q⟩
  · obtain ⟨its, r, ht, hz⟩ := Inv.list I5 hx
    have hlen := Vals.length r
    refine PyProof.Rows.tail_any (Heap.IsList.typeIs (PlainL.isList ht)) slot_list_getitem.lookup (wpAny_getItem_list_slice (PlainL.isList ht) (Heap.IsSliceOf.new s4.heap vl vu vs) pl pu ps (by decide) ?_ ?_) rfl
    · rw [W.krv_pick]
      exact ⟨V.ref _, upd H4 _ (HO.lst xs.reverse), Inv.laid I5 (fun b ob q => Heap.get?_push_of_some _ q) (Nat.le_refl _) ⟨by rw [List.length_reverse]; exact hz, its.reverse, 0, Vals.reverse r, Heap.get?_push_size _ rfl⟩, rfl, q _ (HOk.fresh I5.hok (Nat.le_refl _))⟩
    · simp only [List.size_toArray]
      omega
  · obtain ⟨its, r, ht, hz⟩ := Inv.tuple I5 hx
    have hlen := Vals.length r
    refine PyProof.Rows.tail_any (PyProof.Rows.IsTup.typeIs ht) PyProof.Rows.slot_tuple_getitem.lookup (getItem_tuple_rev ht (Heap.IsSliceOf.new s4.heap vl vu vs) pl pu ps ?_ ?_) rfl
    · exact ⟨V.ref _, upd H4 _ (HO.tup xs.reverse), Inv.laid I5 (fun b ob q => Heap.get?_push_of_some _ q) (Nat.le_refl _) ⟨by rw [List.length_reverse]; exact hz, its.reverse, Vals.reverse r, PyProof.Rows.IsTup.new _ _⟩, rfl, q _ (HOk.fresh I5.hok (Nat.le_refl _))⟩
    · simp only [List.size_toArray]
      omega
section
variable {K : PySem.W.Frag} {m : List Addr} {H : Hp}
theorem VRs.reverse : ∀ {vs : List V} {ws : List W}, VRs K m H vs ws → VRs K m H vs.reverse ws.reverse
  | _, _, .nil => .nil
  | _, _, .cons h r => by
    rw [List.reverse_cons, List.reverse_cons]
    exact r.reverse.append (.cons h .nil)
theorem strs_of : ∀ {vs : List V} {ws : List W} {ys : List Str}, VRs K m H vs ws → strsW ws = some ys → vs = ys.map V.str
  | _, _, _, .nil, e => by cases e; rfl
  | _, _, _, .cons (w := w) h r, e => by
    cases w with
    | str x =>
      simp only [strsW, Option.map_eq_some_iff] at e
      obtain ⟨zs, h1, rfl⟩ := e
      cases h
      rw [strs_of r h1]
      rfl
    | _ => cases e
theorem strs_VRs : ∀ (ys : List Str), VRs K m H (ys.map V.str) (ys.map W.str)
  | [] => .nil
  | y :: ys => .cons (.str y) (strs_VRs ys)
end
section
variable {P : Sta} {G : List W} {O : Orc} {XR : XRel} {Wx : WX} {N : List Str} {sc : Scope} {X : Cx}
theorem blt_one {f : Blt} {a : CE} {ρ : En} {S : Sto} : runE G O (.blt f (.cons a .nil)) ρ S = (runE G O a ρ S).bind fun x S1 => bltW S1 f [x] := by
  conv => lhs; unfold runE
  conv => lhs; unfold runEs
  cases runE G O a ρ S with
  | none => rfl
  | some r => cases r <;> simp [Rs.bind, runEs_nil]
theorem blt_two {f : Blt} {a b : CE} {ρ : En} {S : Sto} : runE G O (.blt f (.cons a (.cons b .nil))) ρ S = (runE G O a ρ S).bind fun x S1 => (runE G O b ρ S1).bind fun y S2 => bltW S2 f [x, y] := by
  conv => lhs; unfold runE
  conv => lhs; unfold runEs
  cases runE G O a ρ S with
  | none => rfl
  | some r =>
    cases r with
    | ex => rfl
    | ok x S1 =>
      simp only [Rs.bind_ok]
      conv => lhs; unfold runEs
      cases runE G O b ρ S1 with
      | none => rfl
      | some r => cases r <;> simp [Rs.bind, runEs_nil]
theorem so_rev {a : CE} {ea : Expr} {k : Nat} {p1 p2 p3 pos : Pos} (ha : PE X ea (tE X.K XR Wx (runE G O a))) : PE X (.Subscript ea (.Slice none none (some (.UnaryOp .USub (.Constant (.int 1) k p1) p2)) p3) pos) (tE X.K XR Wx (runE G O (.blt .rev (.cons a .nil)))) := by
  refine PE.weak (pe_rev ha) ?_
  rintro σ H Q ⟨m, S, ρ, hR, eR, P⟩
  rw [blt_one] at P
  refine ⟨m, S, ρ, hR, eR, Post.bind P fun m1 H1 S1 x x' e1 hR1 vx P1 => ?_⟩
  cases vx with
  | @tup a vs ws h1 h2 =>
    simp only [bltW] at P1
    exact ⟨a, vs, rfl, .inr ⟨h1, fun p hp => Post.ok' P1 (Ext.new hp) (hR1.fresh hp) (.tup (.inl (.inl upd_same)) (h2.reverse.ext (Ext.new hp)))⟩⟩
  | @ref n a hn =>
    obtain ⟨o, ho⟩ := hR1.old hn
    have ma := hR1.at_ n a o hn ho
    simp only [bltW, ho] at P1
    cases o with
    | lst rw ws =>
      obtain ⟨vs, h1, h2⟩ := ma.lst_
      exact ⟨a, vs, rfl, .inl ⟨h1, Post.newL P1 hR1 h2.reverse⟩⟩
    | dic rw kws => exact (Post.none_ P1).elim
  | _ => exact (Post.none_ P1).elim
theorem rng_VRs {K : PySem.W.Frag} {m : List Addr} {H : Hp} (a : Int) : ∀ l : List Nat, VRs K m H (l.map fun (i : Nat) => V.int (a + (i : Int))) (l.map fun (k : Nat) => W.int (a + (k : Int)))
  | [] => .nil
  | i :: l => .cons (.int _) (rng_VRs a l)
theorem so_lrng (g : Good P G O XR Wx N sc X) {a : CE} {x y : Str} {e : Expr} {p q pos pos2 : Pos} (h1 : (x == ("list" : Str)) = true) (h2 : (y == ("range" : Str)) = true) (h3 : glB sc x = true) (h4 : glB sc y = true) (hst : notStar e = true) (ha : PE X e (tE X.K XR Wx (runE G O a))) :
    PE X (.Call (.Name x p) [.Call (.Name y q) [e] [] pos2] [] pos) (tE X.K XR Wx (runE G O (.blt .lrng (.cons a .nil)))) := by
  cases (eq_of_beq h1)
  cases (eq_of_beq h2)
  refine PE.weak (pe_listRg g.calm (g.gl h3) (g.blt _ (by decide +kernel)) (prg_1 (g.gl h4) (g.blt _ (by decide +kernel)) ha (by rw [star_of hst])) rfl) ?_
  rintro σ H Q ⟨m, S, ρ, hR, eR, P⟩
  rw [blt_one] at P
  refine ⟨m, S, ρ, hR, eR, Post.bind P fun m1 H1 S1 x x' e1 hR1 vx P1 => ?_⟩
  cases vx with
  | int j =>
    simp only [bltW] at P1
    split at P1
    · rename_i hz
      refine ⟨j, rfl, ⟨by decide, by decide, hz.1, hz.2.1, by rw [Int.sub_zero]; exact hz.2.2⟩, Post.newL P1 hR1 (rng_VRs 0 _)⟩
    · exact (Post.none_ P1).elim
  | _ => exact (Post.none_ P1).elim
theorem blt_cst {f : Blt} {z : Str} {b : CE} {ρ : En} {S : Sto} : runE G O (.blt f (.cons (.cst (.str z)) (.cons b .nil))) ρ S = (runE G O (.cst (.str z)) ρ S).bind fun x S1 => match x with
    | .str z => (runE G O b ρ S1).bind fun y S2 => bltW S2 f [.str z, y]
    | _ => none := by
  rw [blt_two]
  have e : runE G O (.cst (.str z)) ρ S = some (.ok (.str z) S) := by unfold runE; rfl
  rw [e]
  rfl
theorem so_join {z : Str} {b : CE} {eo eb : Expr} {apos pos : Pos} (hbase : noSuper eo = true) (hline : (apos.endLine == pos.line) = true) (hst : notStar eb = true) (ha : PE X eo (tE X.K XR Wx (runE G O (.cst (.str z))))) (hb : PE X eb (tE X.K XR Wx (runE G O b))) :
    PE X (.Call (.Attribute eo (Str.ofString "join") apos) [eb] [] pos) (tE X.K XR Wx (runE G O (.blt .join (.cons (.cst (.str z)) (.cons b .nil))))) := by
  refine PE.weak (pe_join ha hb (by rw [star_of hst]; rfl) (base_of hbase _) hline) ?_
  rintro σ H Q ⟨m, S, ρ, hR, eR, P⟩
  rw [blt_cst] at P
  refine ⟨m, S, ρ, hR, eR, Post.bind P fun m1 H1 S1 x x' e1 hR1 vx P1 => ?_⟩
  cases vx with
  | str z =>
    refine ⟨⟨z, rfl⟩, m1, S1, ρ, hR1, eR.ext e1, Post.bind P1 fun m2 H2 S2 y y' e2 hR2 vy P2 => ?_⟩
    simp only [bltW] at P2
    cases vy with
    | @tup a vs ws h1 h2 =>
      simp only [itemsW, Option.bind_some] at P2
      cases hs : strsW ws with
      | none => rw [hs] at P2; exact (Post.none_ P2).elim
      | some ys =>
        rw [hs] at P2
        simp only at P2
        split at P2
        · rename_i hz
          have := strs_of h2 hs
          subst this
          exact ⟨z, a, ys, rfl, rfl, .inr h1, hz, Post.ok P2 hR2 (.str _)⟩
        · exact (Post.none_ P2).elim
    | @ref n a hn =>
      obtain ⟨o, ho⟩ := hR2.old hn
      have ma := hR2.at_ n a o hn ho
      cases o with
      | lst rw ws =>
        obtain ⟨vs, h1, h2⟩ := ma.lst_
        simp only [itemsW, ho, Option.bind_some] at P2
        cases hs : strsW ws with
        | none => rw [hs] at P2; exact (Post.none_ P2).elim
        | some ys =>
          rw [hs] at P2
          simp only at P2
          split at P2
          · rename_i hz
            have := strs_of h2 hs
            subst this
            exact ⟨z, a, ys, rfl, rfl, .inl h1, hz, Post.ok P2 hR2 (.str _)⟩
          · exact (Post.none_ P2).elim
      | dic rw kws => simp only [itemsW, ho, Option.bind_none] at P2; exact (Post.none_ P2).elim
    | _ => exact (Post.none_ P2).elim
  | _ => exact (Post.none_ P1).elim
theorem so_split {z : Str} {b : CE} {eo eb : Expr} {apos pos : Pos} (hbase : noSuper eo = true) (hline : (apos.endLine == pos.line) = true) (hst : notStar eb = true) (ha : PE X eo (tE X.K XR Wx (runE G O (.cst (.str z))))) (hb : PE X eb (tE X.K XR Wx (runE G O b))) :
    PE X (.Call (.Attribute eo (Str.ofString "split") apos) [eb] [] pos) (tE X.K XR Wx (runE G O (.blt .split (.cons (.cst (.str z)) (.cons b .nil))))) := by
  refine PE.weak (pe_split ha hb (by rw [star_of hst]; rfl) (base_of hbase _) hline) ?_
  rintro σ H Q ⟨m, S, ρ, hR, eR, P⟩
  rw [blt_cst] at P
  refine ⟨m, S, ρ, hR, eR, Post.bind P fun m1 H1 S1 x x' e1 hR1 vx P1 => ?_⟩
  cases vx with
  | str z =>
    refine ⟨⟨z, rfl⟩, m1, S1, ρ, hR1, eR.ext e1, Post.bind P1 fun m2 H2 S2 y y' e2 hR2 vy P2 => ?_⟩
    cases vy with
    | str u =>
      simp only [bltW] at P2
      split at P2
      · rename_i hz
        exact ⟨z, u, rfl, rfl, hz.1, hz.2, Post.newL P2 hR2 (strs_VRs _)⟩
      · exact (Post.none_ P2).elim
    | _ => exact (Post.none_ P2).elim
  | _ => exact (Post.none_ P1).elim
/-- a text's method with a written text ahead -/
theorem so_txt {f : Blt} {es : CEs} {x : Str} {eo eb : Expr} {apos pos : Pos} (h : txtB f es x = true) (hbase : noSuper eo = true) (hline : (apos.endLine == pos.line) = true) (hst : notStar eb = true)
    (hk : ∀ z b, es = .cons (.cst (.str z)) (.cons b .nil) → PE X eo (tE X.K XR Wx (runE G O (.cst (.str z)))) ∧ PE X eb (tE X.K XR Wx (runE G O b))) :
    PE X (.Call (.Attribute eo x apos) [eb] [] pos) (tE X.K XR Wx (runE G O (.blt f es))) := by
  unfold txtB at h
  split at h
  · cases eq_of_beq h
    obtain ⟨a, b⟩ := hk _ _ rfl
    exact so_join hbase hline hst a b
  · cases eq_of_beq h
    obtain ⟨a, b⟩ := hk _ _ rfl
    exact so_split hbase hline hst a b
  · cases h
end
end Co
namespace Co
open PySem PySem.Spec PyProof.Rows L2

section
variable {P : Sta} {G : List W} {O : Orc} {XR : XRel} {Wx : WX} {N : List Str} {sc : Scope} {X : Cx}
/-! ### targets -/
theorem wipe_in {σ : L2.St} : ∀ {vs : List Nat} {i : Nat} {x : Option V}, i ∈ vs → wipe (σ.set i x) vs = wipe σ vs
  | v :: vs, i, x, h => by
    show (wipe (σ.set i x) vs).set v none = (wipe σ vs).set v none
    by_cases hi : i ∈ vs
    · rw [wipe_in hi]
    · have e : i = v := by
        rcases List.mem_cons.mp h with h | h
        · exact h
        · exact absurd h hi
      subst e
      have key : ∀ (us : List Nat), i ∉ us → wipe (σ.set i x) us = (wipe σ us).set i x := by
        intro us
        induction us with
        | nil => intro _; rfl
        | cons u us ih =>
          intro hu
          simp only [List.mem_cons, not_or] at hu
          show (wipe (σ.set i x) us).set u none = ((wipe σ us).set u none).set i x
          rw [ih hu.2, List.set_comm _ _ hu.1]
      rw [key vs hi, List.set_set]
theorem wipe_idem {σ : L2.St} : ∀ (us vs : List Nat), (∀ i ∈ us, i ∈ vs) → wipe (wipe σ us) vs = wipe σ vs
  | [], _, _ => rfl
  | u :: us, vs, h => by
    show wipe ((wipe σ us).set u none) vs = _
    rw [wipe_in (h u (List.mem_cons_self ..)), wipe_idem us vs fun i hi => h i (List.mem_cons_of_mem _ hi)]
def gR (K : PySem.W.Frag) (tg : Tg) : TG := fun v σ H Q => ∃ m S w ρ ρ1, HR K m H S ∧ ER K m H σ ρ ∧ VR K m H v w ∧ putT tg w ρ = some ρ1 ∧ ∀ σ1, ER K m H σ1 ρ1 → (∀ vs, (∀ i ∈ tgSlots tg, i ∈ vs) → wipe σ1 vs = wipe σ vs) → Q σ1 H
def gRs (K : PySem.W.Frag) (ts : List Tg) : TGs := fun xs σ H Q => ∃ m S ws ρ ρ1, HR K m H S ∧ ER K m H σ ρ ∧ VRs K m H xs ws ∧ putTs ts ws ρ = some ρ1 ∧ ∀ σ1, ER K m H σ1 ρ1 → (∀ vs, (∀ i ∈ tgsSlots ts, i ∈ vs) → wipe σ1 vs = wipe σ vs) → Q σ1 H
theorem PG.weak {e : Expr} {t t' : TG} (h : PG X e t) (k : ∀ v σ H Q, t' v σ H Q → t v σ H Q) : PG X e t' := ⟨fun pins s σ H v u Q I r q => h.run pins s σ H v u Q I r (k v σ H Q q)⟩
theorem PGs.weak {es : List Expr} {t t' : TGs} (h : PGs X es t) (k : ∀ v σ H Q, t' v σ H Q → t v σ H Q) : PGs X es t' := ⟨fun pins s σ H v u Q I r q => h.run pins s σ H v u Q I r (k v σ H Q q)⟩
theorem so_g_name (g : Good P G O XR Wx N sc X) {i : Nat} {x : Str} {pos : Pos} (h1 : (N[i]? == some x) = true) (h2 : locB sc x = true) : PG X (.Name x pos) (gR X.K (.name i)) := by
  have hf : X.fn x = true ∨ X.env.scope.names.lookup x = some .local := by
    unfold locB at h2
    split at h2
    · rename_i q; exact .inr ((g.sc x _ q).1 (by decide))
    · rename_i q; exact .inl (g.fnc x q)
    · cases h2
  refine PG.weak (pg_name (i := i) (by rw [g.nm]; exact g.nd) (by rw [g.nm]; exact eq_of_beq h1) (g.loc h2) hf) ?_
  rintro v σ H Q ⟨m, S, w, ρ, ρ1, hR, eR, vw, hp, k⟩
  unfold putT at hp
  split at hp
  · rename_i hi
    cases hp
    exact k _ (eR.set vw hi) fun vs hv => wipe_in (hv i (by unfold tgSlots; exact List.mem_cons_self ..))
  · cases hp
theorem notStar_assign {e : Expr} {es : List Expr} {env : Env} (h : notStar e = true) : assignEach (e :: es) env = (false, assign e env) :: assignEach es env := by cases e <;> first | rfl | (cases h)
theorem assign_stars {env : Env} : ∀ {es : List Expr}, es.all notStar = true → (assignEach es env).length = es.length ∧ (assignEach es env).findIdx? (·.1) = none
  | [], _ => ⟨rfl, rfl⟩
  | e :: es, h => by
    simp only [List.all_cons, Bool.and_eq_true] at h
    obtain ⟨h1, h2⟩ := assign_stars (env := env) h.2
    rw [notStar_assign h.1]
    refine ⟨by rw [List.length_cons, h1, List.length_cons], ?_⟩
    rw [List.findIdx?_cons]
    simp [h2]
theorem okTgs_star : ∀ {ts : List Tg} {es : List Expr}, okTgs N sc ts es = true → es.all notStar = true ∧ ts.length = es.length
  | [], [], _ => ⟨rfl, rfl⟩
  | [], _ :: _, h => by unfold okTgs at h; cases h
  | _ :: _, [], h => by unfold okTgs at h; cases h
  | t :: ts, e :: es, h => by
    unfold okTgs at h
    simp only [Bool.and_eq_true] at h
    obtain ⟨h1, h2⟩ := okTgs_star h.2
    exact ⟨by rw [List.all_cons, h1, h.1.1]; rfl, by rw [List.length_cons, h2, List.length_cons]⟩
theorem putTs_len : ∀ {ts : List Tg} {ws : List W} {ρ ρ1 : En}, putTs ts ws ρ = some ρ1 → ts.length = ws.length
  | [], [], _, _, _ => rfl
  | [], _ :: _, _, _, h => by unfold putTs at h; cases h
  | _ :: _, [], _, _, h => by unfold putTs at h; cases h
  | t :: ts, w :: ws, ρ, ρ1, h => by
    unfold putTs at h
    cases e : putT t w ρ with
    | none => rw [e] at h; cases h
    | some ρ2 =>
      rw [e] at h
      rw [List.length_cons, putTs_len h, List.length_cons]
mutual
theorem so_g (g : Good P G O XR Wx N sc X) : ∀ (t : Tg) (e : Expr), okTg N sc t e = true → PG X e (gR X.K t)
  | .name i, e, h => by
    cases e <;> first
      | (unfold okTg at h; cases h; done)
      | (unfold okTg at h; simp only [Bool.and_eq_true] at h; exact so_g_name g h.1 h.2)
  | .tup ts, e, h => by
    cases e <;> first
      | (unfold okTg at h; cases h; done)
      | (unfold okTg at h
         obtain ⟨h1, h2⟩ := okTgs_star h
         obtain ⟨a1, a2⟩ := assign_stars (env := X.env) h1
         refine PG.weak (pg_tup g.calm (so_gs g ts _ h) a1 a2) ?_
         rintro v σ H Q ⟨m, S, w, ρ, ρ1, hR, eR, vw, hp, k⟩
         cases vw <;> unfold putT at hp <;> first
           | (cases hp; done)
           | (rename_i a vs ws hq hv
              exact ⟨a, vs, rfl, hq, by rw [hv.length, ← putTs_len hp, h2], m, S, ws, ρ, ρ1, hR, eR, hv, hp, fun σ1 h3 h4 => k σ1 h3 fun vs hvs => h4 vs fun i hi => hvs i (by unfold tgSlots; exact hi)⟩))
theorem so_gs (g : Good P G O XR Wx N sc X) : ∀ (ts : List Tg) (es : List Expr), okTgs N sc ts es = true → PGs X es (gRs X.K ts)
  | [], [], _ => by
    refine PGs.weak pgs_nil ?_
    rintro xs σ H Q ⟨m, S, ws, ρ, ρ1, hR, eR, vw, hp, k⟩
    cases vw with
    | nil =>
      unfold putTs at hp
      cases hp
      exact ⟨rfl, k σ eR fun _ _ => rfl⟩
    | cons _ _ => unfold putTs at hp; cases hp
  | [], _ :: _, h => by unfold okTgs at h; cases h
  | _ :: _, [], h => by unfold okTgs at h; cases h
  | t :: ts, e :: es, h => by
    unfold okTgs at h
    simp only [Bool.and_eq_true] at h
    refine PGs.weak (pgs_cons (so_g g t e h.1.2) (so_gs g ts es h.2) (by rw [notStar_assign h.1.1]; rfl)) ?_
    rintro xs σ H Q ⟨m, S, ws, ρ, ρ1, hR, eR, vw, hp, k⟩
    cases vw with
    | nil => unfold putTs at hp; cases hp
    | cons hv hvs =>
      unfold putTs at hp
      simp only [Option.bind_eq_some_iff] at hp
      obtain ⟨ρ2, p1, p2⟩ := hp
      refine ⟨_, _, rfl, m, S, _, ρ, ρ2, hR, eR, hv, p1, fun σ1 h3 h4 => ⟨m, S, _, ρ2, ρ1, hR, h3, hvs, p2, fun σ2 h5 h6 => k σ2 h5 fun vs hs => ?_⟩⟩
      rw [h6 vs fun i hi => hs i (by unfold tgsSlots; exact List.mem_append_right _ hi), h4 vs fun i hi => hs i (by unfold tgsSlots; exact List.mem_append_left _ hi)]
end
/-! ### what is walked -/
def IR (K : PySem.W.Frag) (m : List Addr) (H : Hp) (J : It) (j : Itr) : Prop := ∃ Gd Y, Walk J j.items.length Gd Y ∧ ∀ m1 H1 S1, Ext K m H m1 H1 → HR K m1 H1 S1 → j.stays S1 → Gd H1 ∧ ∀ i v H2, i < j.items.length → Y i H1 v H2 → ∃ w, j.items[i]? = some w ∧ Ext K m1 H1 m1 H2 ∧ HR K m1 H2 S1 ∧ VR K m1 H2 v w
theorem IR.ext {K : PySem.W.Frag} {m m' : List Addr} {H H' : Hp} {J : It} {j : Itr} (h : IR K m H J j) (e : Ext K m H m' H') : IR K m' H' J j := by
  obtain ⟨Gd, Y, w, k⟩ := h
  exact ⟨Gd, Y, w, fun m1 H1 S1 e1 => k m1 H1 S1 (e.trans e1)⟩
/-- the reading of what is walked -/
abbrev iR (K : PySem.W.Frag) (XR : XRel) (Wx : WX) (f : En → Sto → Rs Itr) : TI := fun σ H R => tR K XR Wx (IR K) f σ H R
theorem PI.weak {tg e : Expr} {t t' : TI} (h : PI X tg e t) (k : ∀ σ H R, t' σ H R → t σ H R) : PI X tg e t' := ⟨fun pins s σ H R I q => h.run pins s σ H R I (k σ H R q)⟩
theorem ir_list {K : PySem.W.Frag} {m : List Addr} {H : Hp} {n : Nat} {a : Addr} {ws : List W} (hn : m[n]? = some a) : IR K m H (Itl K a) ⟨ws, [(n, ws)]⟩ := by
  refine ⟨fun H => ∃ xs, SqL K H a xs ∧ xs.length = ws.length, fun i H x H' => H' = H ∧ ∀ xs, SqL K H a xs → xs[i]? = some x, ⟨?_, ?_, ?_⟩, fun m1 H1 S1 e hR st => ?_⟩
  · rintro i H' hi ⟨xs, h1, h2⟩
    have hi' : i < xs.length := by rw [h2]; exact hi
    exact ⟨xs, xs[i], h1, by simp [hi']⟩
  · rintro H' ⟨xs, h1, h2⟩
    exact ⟨xs, h1, Nat.le_of_eq h2⟩
  · intro i H' x H'' hi hq y
    exact y
  · obtain ⟨rw, ho⟩ := st n ws (List.mem_singleton_self _)
    obtain ⟨vs, h1, h2⟩ := (hR.at_ _ a _ (e.get hn) ho).lst_
    refine ⟨⟨vs, h1, h2.length⟩, ?_⟩
    rintro i v H2 hi ⟨rfl, hy⟩
    obtain ⟨w, q1, q2⟩ := h2.getR (hy vs h1)
    exact ⟨w, q1, .refl, hR, q2⟩
theorem ir_tup {K : PySem.W.Frag} {m : List Addr} {H : Hp} {a : Addr} {vs : List V} {ws : List W} (hq : SqT K H a vs) (hv : VRs K m H vs ws) : IR K m H (Itt K a) ⟨ws, []⟩ := by
  refine ⟨_, _, (by rw [← hv.length]; exact walk_tup (K := K) (a := a) (xs := vs)), fun m1 H1 S1 e hR st => ⟨e.tup _ _ hq, ?_⟩⟩
  rintro i v H2 hi ⟨rfl, hy⟩
  obtain ⟨w, q1, q2⟩ := (hv.ext e).getR hy
  exact ⟨w, q1, .refl, hR, q2⟩
theorem ir_str {K : PySem.W.Frag} {m : List Addr} {H : Hp} {z : Str} : IR K m H (Its z) ⟨z.cps.toList.map fun c => .str ⟨#[c]⟩, []⟩ := by
  refine ⟨_, _, (by simpa using walk_str (z := z)), fun m1 H1 S1 e hR st => ⟨trivial, ?_⟩⟩
  rintro i v H2 hi ⟨rfl, c, hc, rfl⟩
  exact ⟨.str ⟨#[c]⟩, by simp [hc], .refl, hR, .str _⟩
theorem ir_range {K : PySem.W.Frag} {m : List Addr} {H : Hp} {lo hi : Int} : IR K m H (L2.Itr lo (hi - lo).toNat) ⟨rangeW lo hi, []⟩ := by
  refine ⟨_, _, (by simpa [rangeW] using walk_range (lo := lo) (n := (hi - lo).toNat)), fun m1 H1 S1 e hR st => ⟨trivial, ?_⟩⟩
  rintro i v H2 hi' ⟨rfl, rfl⟩
  refine ⟨.int (lo + i), ?_, .refl, hR, .int _⟩
  have hl : i < (hi - lo).toNat := by simpa [rangeW] using hi'
  simp [rangeW, hl]
theorem pairsW_len {ws : List W} : (pairsW ws).length = ws.length := by simp [pairsW]
theorem pairsW_get {ws : List W} {i : Nat} {w : W} (h : ws[i]? = some w) : (pairsW ws)[i]? = some (.tup [.int (i : Nat), w]) := by simp [pairsW, h]
theorem ir_enum {K : PySem.W.Frag} {m : List Addr} {H : Hp} {n : Nat} {a : Addr} {ws : List W} (hn : m[n]? = some a) : IR K m H (Ite K a) ⟨pairsW ws, [(n, ws)]⟩ := by
  refine ⟨fun H => ∃ xs, SqL K H a xs ∧ xs.length = ws.length, fun i H v H' => ∃ T x, v = .ref T ∧ H T = none ∧ H' = upd H T (.tup [.int (i : Nat), x]) ∧ ∀ xs, SqL K H a xs → xs[i]? = some x, ⟨?_, ?_, ?_⟩, fun m1 H1 S1 e hR st => ?_⟩
  · rintro i H' hi ⟨xs, h1, h2⟩
    have hi' : i < xs.length := by rw [h2]; simpa [pairsW_len] using hi
    exact ⟨xs, xs[i], h1, by simp [hi']⟩
  · rintro H' ⟨xs, h1, h2⟩
    exact ⟨xs, h1, by rw [h2]; simp [pairsW_len]⟩
  · intro i H' x H'' hi hq y
    exact y
  · obtain ⟨rw, ho⟩ := st n ws (List.mem_singleton_self _)
    obtain ⟨vs, h1, h2⟩ := (hR.at_ _ a _ (e.get hn) ho).lst_
    refine ⟨⟨vs, h1, h2.length⟩, ?_⟩
    rintro i v H2 hi ⟨T, x, rfl, hT, rfl, hy⟩
    obtain ⟨w, q1, q2⟩ := h2.getR (hy vs h1)
    exact ⟨_, pairsW_get q1, Ext.new hT, hR.fresh hT, .tup (.inl (.inl upd_same)) (.cons (.int _) (.cons (q2.ext (Ext.new hT)) .nil))⟩
theorem zipW_get {ws us : List W} {i : Nat} {w u : W} (h : ws[i]? = some w) (h' : us[i]? = some u) : (List.zipWith (fun x y => W.tup [x, y]) ws us)[i]? = some (.tup [w, u]) := by
  rw [List.getElem?_zipWith, h, h']
theorem ir_zip {K : PySem.W.Frag} {m : List Addr} {H : Hp} {n k : Nat} {a b : Addr} {ws us : List W} (hn : m[n]? = some a) (hk : m[k]? = some b) : IR K m H (Itz K a b) ⟨List.zipWith (fun x y => .tup [x, y]) ws us, [(n, ws), (k, us)]⟩ := by
  have hlen : (List.zipWith (fun x y => W.tup [x, y]) ws us).length = min ws.length us.length := by simp
  refine ⟨fun H => ∃ xs ys, SqL K H a xs ∧ SqL K H b ys ∧ xs.length = ws.length ∧ ys.length = us.length, fun i H v H' => ∃ T x y, v = .ref T ∧ H T = none ∧ H' = upd H T (.tup [x, y]) ∧ (∀ xs, SqL K H a xs → xs[i]? = some x) ∧ ∀ ys, SqL K H b ys → ys[i]? = some y, ⟨?_, ?_, ?_⟩, fun m1 H1 S1 e hR st => ?_⟩
  · rintro i H' hi ⟨xs, ys, h1, h2, h3, h4⟩
    have hi' : i < min ws.length us.length := by rw [← hlen]; exact hi
    have hx : i < xs.length := by omega
    have hy : i < ys.length := by omega
    exact ⟨xs, ys, xs[i], ys[i], h1, h2, by simp [hx], by simp [hy]⟩
  · rintro H' ⟨xs, ys, h1, h2, h3, h4⟩
    refine ⟨xs, ys, h1, h2, ?_⟩
    show xs.length ≤ (List.zipWith (fun x y => W.tup [x, y]) ws us).length ∨ ys.length ≤ (List.zipWith (fun x y => W.tup [x, y]) ws us).length
    rw [hlen]
    omega
  · intro i H' x H'' hi hq y
    exact y
  · obtain ⟨rw1, ho⟩ := st n ws (List.mem_cons_self ..)
    obtain ⟨rw2, ho2⟩ := st k us (List.mem_cons_of_mem _ (List.mem_singleton_self _))
    obtain ⟨vs, h1, h2⟩ := (hR.at_ _ a _ (e.get hn) ho).lst_
    obtain ⟨vs2, h3, h4⟩ := (hR.at_ _ b _ (e.get hk) ho2).lst_
    refine ⟨⟨vs, vs2, h1, h3, h2.length, h4.length⟩, ?_⟩
    rintro i v H2 hi ⟨T, x, y, rfl, hT, rfl, hx, hy⟩
    obtain ⟨w, q1, q2⟩ := h2.getR (hx vs h1)
    obtain ⟨u, q3, q4⟩ := h4.getR (hy vs2 h3)
    exact ⟨_, zipW_get q1 q3, Ext.new hT, hR.fresh hT, .tup (.inl (.inl upd_same)) (.cons (q2.ext (Ext.new hT)) (.cons (q4.ext (Ext.new hT)) .nil))⟩
theorem ir_enumT {K : PySem.W.Frag} {m : List Addr} {H : Hp} {a : Addr} {vs : List V} {ws : List W} (hq : SqT K H a vs) (hv : VRs K m H vs ws) : IR K m H (IteT K a) ⟨pairsW ws, []⟩ := by
  refine ⟨_, _, (by rw [pairsW_len, ← hv.length]; exact walk_enumT (K := K) (a := a) (xs := vs)), fun m1 H1 S1 e hR st => ⟨e.tup _ _ hq, ?_⟩⟩
  rintro i v H2 hi ⟨T, x, y, rfl, hT, rfl, hx, hy⟩
  cases hx
  obtain ⟨w, q1, q2⟩ := (hv.ext e).getR hy
  exact ⟨_, pairsW_get q1, Ext.new hT, hR.fresh hT, .tup (.inl (.inl upd_same)) (.cons (.int _) (.cons (q2.ext (Ext.new hT)) .nil))⟩
end
end Co
namespace Co
open PySem PySem.Spec PyProof.Rows L2

section
variable {P : Sta} {G : List W} {O : Orc} {XR : XRel} {Wx : WX} {N : List Str} {sc : Scope} {X : Cx}
/-! ### what is walked, by the core -/
theorem so_seq {c : CE} {tg e : Expr} (hc : PE X e (tE X.K XR Wx (runE G O c))) : PI X tg e (iR X.K XR Wx (runI G O (.seq c))) := by
  refine ⟨fun pins s σ H R I h => ?_⟩
  obtain ⟨m, S, ρ, hR, eR, P⟩ := h
  unfold runI at P
  cases er : runE G O c ρ S with
  | none => rw [er] at P; exact (Post.none_ P).elim
  | some r =>
    cases r with
    | ex cc fs S1 =>
      refine (pi_tup hc).run pins s σ H R I ⟨m, S, ρ, hR, eR, ?_⟩
      rw [er] at P ⊢
      exact P
    | ok x S1 =>
      rw [er, Rs.bind_ok] at P
      cases x with
      | tup ws =>
        refine (pi_tup hc).run pins s σ H R I ⟨m, S, ρ, hR, eR, ?_⟩
        rw [er]
        intro m1 H1 b e1 hR1 vb
        cases vb with
        | tup hq hv => exact ⟨_, rfl, ⟨_, hq⟩, P m1 H1 _ e1 hR1 (ir_tup hq hv)⟩
      | str z =>
        refine (pi_str hc).run pins s σ H R I ⟨m, S, ρ, hR, eR, ?_⟩
        rw [er]
        intro m1 H1 b e1 hR1 vb
        cases vb with
        | str _ => exact ⟨z, rfl, P m1 H1 _ e1 hR1 ir_str⟩
      | ref n =>
        simp only at P
        split at P
        · rename_i rw ws ho
          refine (pi_list hc).run pins s σ H R I ⟨m, S, ρ, hR, eR, ?_⟩
          rw [er]
          intro m1 H1 b e1 hR1 vb
          cases vb with
          | ref hn =>
            obtain ⟨vs, h1, h2⟩ := (hR1.at_ _ _ _ hn ho).lst_
            exact ⟨_, rfl, ⟨_, h1⟩, P m1 H1 _ e1 hR1 (ir_list hn)⟩
        · exact (Post.none_ P).elim
      | _ => exact (Post.none_ P).elim
theorem so_rng1 (g : Good P G O XR Wx N sc X) {c : CE} {tg e : Expr} {x : Str} {p pos : Pos} (h1 : (x == ("range" : Str)) = true) (h2 : glB sc x = true) (hs : notStar e = true) (hc : PE X e (tE X.K XR Wx (runE G O c))) : PI X tg (.Call (.Name x p) [e] [] pos) (iR X.K XR Wx (runI G O (.rng1 c))) := by
  cases (eq_of_beq h1)
  refine PI.weak (pi_range1 (g.gl h2) (g.blt _ (by decide +kernel)) (pa_cons hc pa_nil (star_of hs)) (star_of hs)) ?_
  rintro σ H R ⟨m, S, ρ, hR, eR, P⟩
  unfold runI at P
  refine ⟨m, S, ρ, hR, eR, Post.bind P fun m1 H1 S1 x x' e1 hR1 vx P1 => ?_⟩
  cases vx with
  | int j =>
    simp only at P1
    split at P1
    · rename_i hj
      refine ⟨j, rfl, hj.1, hj.2, Post.ok P1 hR1 ?_⟩
      have := ir_range (K := X.K) (m := m1) (H := H1) (lo := 0) (hi := j)
      rw [Int.sub_zero] at this
      exact this
    · exact (Post.none_ P1).elim
  | _ => exact (Post.none_ P1).elim
theorem so_rng2 (g : Good P G O XR Wx N sc X) {a b : CE} {tg ea eb : Expr} {x : Str} {p pos : Pos} (h1 : (x == ("range" : Str)) = true) (h2 : glB sc x = true) (hs : notStar ea = true) (hs2 : notStar eb = true) (ha : PE X ea (tE X.K XR Wx (runE G O a))) (hb : PE X eb (tE X.K XR Wx (runE G O b))) :
    PI X tg (.Call (.Name x p) [ea, eb] [] pos) (iR X.K XR Wx (runI G O (.rng2 a b))) := by
  cases (eq_of_beq h1)
  refine PI.weak (pi_range2 (g.gl h2) (g.blt _ (by decide +kernel)) (pa_cons ha (pa_cons hb pa_nil (star_of hs2)) (star_of hs)) (by rw [star_of hs, star_of hs2]; rfl) (star_of hs2)) ?_
  rintro σ H R ⟨m, S, ρ, hR, eR, P⟩
  unfold runI at P
  refine ⟨m, S, ρ, hR, eR, Post.bind P fun m1 H1 S1 x x' e1 hR1 vx P1 => ⟨m1, S1, ρ, hR1, eR.ext e1, Post.bind P1 fun m2 H2 S2 y y' e2 hR2 vy P2 => ?_⟩⟩
  cases vx with
  | int i =>
    cases vy with
    | int j =>
      simp only at P2
      split at P2
      · rename_i hj
        exact ⟨i, j, rfl, ⟨hj.1.1, hj.1.2, hj.2.1, hj.2.2⟩, Post.ok P2 hR2 ir_range⟩
      · exact (Post.none_ P2).elim
    | _ => exact (Post.none_ P2).elim
  | _ => exact (Post.none_ P2).elim
theorem so_zip (g : Good P G O XR Wx N sc X) {a b : CE} {tg ea eb : Expr} {x : Str} {p pos : Pos} (ht : isTup tg = true) (h1 : (x == ("zip" : Str)) = true) (h2 : glB sc x = true) (hs : notStar ea = true) (hs2 : notStar eb = true) (ha : PE X ea (tE X.K XR Wx (runE G O a))) (hb : PE X eb (tE X.K XR Wx (runE G O b))) :
    PI X tg (.Call (.Name x p) [ea, eb] [] pos) (iR X.K XR Wx (runI G O (.zip a b))) := by
  cases (eq_of_beq h1)
  cases tg <;> try (cases ht; done)
  refine PI.weak (pi_zip (g.gl h2) (g.blt _ (by decide +kernel)) (pa_cons ha (pa_cons hb pa_nil (star_of hs2)) (star_of hs)) (star_of hs) (by rw [star_of hs2]; rfl)) ?_
  rintro σ H R ⟨m, S, ρ, hR, eR, P⟩
  unfold runI at P
  refine ⟨m, S, ρ, hR, eR, Post.bind P fun m1 H1 S1 x x' e1 hR1 vx P1 => ⟨m1, S1, ρ, hR1, eR.ext e1, Post.bind P1 fun m2 H2 S2 y y' e2 hR2 vy P2 => ?_⟩⟩
  cases vx with
  | @ref n a hn =>
    cases vy with
    | @ref k b hk =>
      simp only at P2
      split at P2
      · rename_i rw1 ws rw2 us ho ho2
        obtain ⟨vs, q1, q2⟩ := (hR2.at_ _ _ _ (e2.get hn) ho).lst_
        obtain ⟨vs2, q3, q4⟩ := (hR2.at_ _ _ _ hk ho2).lst_
        exact ⟨a, b, vs, vs2, rfl, q1, q3, Post.ok P2 hR2 (ir_zip (e2.get hn) hk)⟩
      · exact (Post.none_ P2).elim
    | _ => exact (Post.none_ P2).elim
  | _ => cases vy <;> exact (Post.none_ P2).elim
theorem so_enm (g : Good P G O XR Wx N sc X) {c : CE} {tg e : Expr} {x : Str} {p pos : Pos} (ht : isTup tg = true) (h1 : (x == ("enumerate" : Str)) = true) (h2 : glB sc x = true) (hs : notStar e = true) (hc : PE X e (tE X.K XR Wx (runE G O c))) :
    PI X tg (.Call (.Name x p) [e] [] pos) (iR X.K XR Wx (runI G O (.enm c))) := by
  cases (eq_of_beq h1)
  cases tg <;> try (cases ht; done)
  rename_i elts kk tpos
  refine ⟨fun pins s σ H R I h => ?_⟩
  obtain ⟨m, S, ρ, hR, eR, P⟩ := h
  have pa := pa_cons hc pa_nil (star_of (env := X.env) hs)
  have PL := pi_enum (X := X) (p := p) (pos := pos) (tpos := tpos) (elts := elts) (kk := kk) (g.gl h2) (g.blt _ (by decide +kernel)) pa (star_of hs)
  have PT := pi_enumT (X := X) (p := p) (pos := pos) (tpos := tpos) (elts := elts) (kk := kk) (g.gl h2) (g.blt _ (by decide +kernel)) pa (star_of hs)
  unfold runI at P
  cases er : runE G O c ρ S with
  | none => rw [er] at P; exact (Post.none_ P).elim
  | some r =>
    cases r with
    | ex cc fs S1 =>
      refine PT.run pins s σ H R I ⟨m, S, ρ, hR, eR, ?_⟩
      rw [er] at P ⊢
      exact P
    | ok x S1 =>
      rw [er, Rs.bind_ok] at P
      cases x with
      | tup ws =>
        refine PT.run pins s σ H R I ⟨m, S, ρ, hR, eR, ?_⟩
        rw [er]
        intro m1 H1 b e1 hR1 vb
        cases vb with
        | tup hq hv => exact ⟨_, _, rfl, hq, P m1 H1 _ e1 hR1 (ir_enumT hq hv)⟩
      | ref n =>
        simp only at P
        split at P
        · rename_i rw ws ho
          refine PL.run pins s σ H R I ⟨m, S, ρ, hR, eR, ?_⟩
          rw [er]
          intro m1 H1 b e1 hR1 vb
          cases vb with
          | ref hn =>
            obtain ⟨vs, h1, h2⟩ := (hR1.at_ _ _ _ hn ho).lst_
            exact ⟨_, _, rfl, h1, P m1 H1 _ e1 hR1 (ir_enum hn)⟩
        · exact (Post.none_ P).elim
      | _ => exact (Post.none_ P).elim
/-! ### comprehensions -/
abbrev WxF : WX := fun _ _ _ _ => False
theorem relS_free {sc : Scope} : ∀ {names : List (Str × NameKind)} {x : Str}, names.lookup x = some .free →
    (names.map fun (n, k) => if (k == NameKind.free && sc.kind == .function && sc.names.lookup n == some .cell) then (n, NameKind.cell) else (n, k)).lookup x = some .free ∨
    (names.map fun (n, k) => if (k == NameKind.free && sc.kind == .function && sc.names.lookup n == some .cell) then (n, NameKind.cell) else (n, k)).lookup x = some .cell
  | [], _, h => by simp at h
  | (n, k₀) :: r, x, h => by
    have ih := @relS_free sc r x
    show List.lookup x ((if (k₀ == NameKind.free && sc.kind == .function && sc.names.lookup n == some .cell) = true then (n, NameKind.cell) else (n, k₀)) :: (r.map _)) = _ ∨ List.lookup x ((if (k₀ == NameKind.free && sc.kind == .function && sc.names.lookup n == some .cell) = true then (n, NameKind.cell) else (n, k₀)) :: (r.map _)) = _
    cases hx : x == n with
    | true =>
      simp only [List.lookup_cons, hx] at h
      cases h
      split <;> simp [List.lookup_cons, hx]
    | false =>
      simp only [List.lookup_cons, hx] at h
      split <;> simp only [List.lookup_cons, hx] <;> exact ih h
theorem goodBlk (g : Good P G O XR Wx N sc X) {scope : Scope} (s : Shared) (H : Hp) (C : Addr) (cl : List (Str × Addr)) (fp : List Addr) : Good P G O XR WxF N scope (X.blk s H scope (compEnvC scope cl C X.env) fp) where
  fnc := fun x h => by
    show (scope.names.lookup x == some .cell) = true
    rw [h]
    rfl
  nm := g.nm
  nd := g.nd
  sc := fun x k h => by
    refine ⟨fun hk => lookup_relS_keep (sc := X.env.scope) hk h, fun hk => ?_⟩
    subst hk
    exact relS_free (sc := X.env.scope) h
  calm := g.calm
  blt := g.blt
  glo := g.glo
  fns := g.fns
  tk := fun _ _ ⟨_, _, _, _, _, _, _, _, _, _, _, _, _, _, _, _, w⟩ => w.elim
theorem Post.noX {K : PySem.W.Frag} {m : List Addr} {H : Hp} {σ σ' : L2.St} {Wx' : WX} {α β γ δ : Type} {rel : List Addr → Hp → β → α → Prop} {rel' : List Addr → Hp → δ → γ → Prop} {r : Rs α} {f : α → Sto → Rs γ} {Q : δ → Hp → Prop} {Q' : β → Hp → Prop} (h : Post K XR Wx m H σ rel' ((noX r).bind f) Q)
    (k : ∀ m1 H1 S1 b a, Ext K m H m1 H1 → HR K m1 H1 S1 → rel m1 H1 b a → Post K XR Wx m1 H1 σ rel' (f a S1) Q → Q' b H1) : Post K XR Wx' m H σ' rel r Q' := by
  cases r with
  | none => exact h
  | some r =>
    cases r with
    | ok a S => exact fun m1 H1 b e hr hb => k m1 H1 S b a e hr hb (Post.ext h e)
    | ex c fs S => exact (Post.none_ h).elim
theorem compL_stays {put : W → En → Option En} {cond : En → Sto → Rs Bool} {elt : En → Sto → Rs W} {ρ : En} {st : Sto → Prop} {D : Nat} {ws : List W} {S : Sto} (h : compL put cond elt ρ st D ws S ≠ none) : st S := by
  cases ws with
  | nil =>
    unfold compL at h
    split at h
    · assumption
    · exact absurd rfl h
  | cons w ws =>
    unfold compL at h
    split at h
    · assumption
    · exact absurd rfl h
theorem post_some {K : PySem.W.Frag} {m : List Addr} {H : Hp} {σ : L2.St} {α β : Type} {rel : List Addr → Hp → β → α → Prop} {r : Rs α} {Q : β → Hp → Prop} (h : Post K XR Wx m H σ rel r Q) : r ≠ none := fun e => by
  rw [e] at h
  exact h
theorem so_comp (g : Good P G O XR Wx N sc X) {e : CE} {tg : Tg} {it : CI} {c : CO} {own : List Nat} {elt te ie : Expr} {ifs : List Expr} {scope : Scope} {pos : Pos} (hb : blkC N sc scope (ownN N own) = true) (hown : ((ownN N own).map (·.2) == own) = true) (hst : notStar ie = true) (hsl : (tgSlots tg).all (own.contains ·) = true)
    (htg : okTg N scope tg te = true) (hi : PI X te ie (iR X.K XR Wx (runI G O it))) (hc : ∀ X' : Cx, Good P G O XR WxF N scope X' → PTs X' ifs (tT X'.K XR WxF (runOT G O c))) (he : ∀ X' : Cx, Good P G O XR WxF N scope X' → PE X' elt (tE X'.K XR WxF (runE G O e))) :
    PE X (.ListComp elt [⟨te, ie, ifs, 0⟩] scope pos) (tE X.K XR Wx (runE G O (.comp e tg it c own))) ∧
    ∀ σ H Q, tE X.K XR Wx (runE G O (.comp e tg it c own)) σ H Q → tLc (iR X.K XR Wx (runI G O it)) (gR X.K tg) (tT X.K XR WxF (runOT G O c)) (tE X.K XR WxF (runE G O e)) ((ownN N own).map (·.2)) σ H Q := by
  have bk := blkOk_by hb
  have ok : BlkOk X.N X.env.scope scope (ownN N own) := by
    rw [g.nm]
    refine ⟨bk.kind, bk.uniq, bk.ix, fun y hy hf => ?_, bk.own⟩
    rcases bk.free y hy hf with q | q
    · exact .inl ((g.sc _ _ q).1 (by decide))
    · exact ((g.sc _ _ q).2 rfl).symm
  have key : ∀ σ H Q, tE X.K XR Wx (runE G O (.comp e tg it c own)) σ H Q → tLc (iR X.K XR Wx (runI G O it)) (gR X.K tg) (tT X.K XR WxF (runOT G O c)) (tE X.K XR WxF (runE G O e)) ((ownN N own).map (·.2)) σ H Q := by
    rintro σ H Q ⟨m, S, ρ, hR, eR, P⟩
    rw [eq_of_beq hown]
    unfold runE at P
    refine ⟨m, S, ρ, hR, eR, Post.bind P fun m1 H1 S1 J j e1 hR1 hJ P1 => ?_⟩
    intro D hD
    obtain ⟨Gd, Y, w, k⟩ := hJ
    have eD : Ext X.K m1 H1 (m1 ++ [D]) (upd H1 D (.lst [])) := (Ext.new hD).snoc D
    refine lc_it (Qd := fun H => Q (.ref D) H) w (fun i H' => ∃ m' S', Ext X.K m1 H1 m' H' ∧ HR X.K m' H' S' ∧ m'[S1.length]? = some D ∧
      Post X.K XR Wx m' H' σ (VR X.K) (compL (putT tg) (fun ρ' S' => noX (runOT G O c ρ' S')) (fun ρ' S' => noX (runE G O e ρ' S')) (wipeE ρ own) j.stays S1.length (j.items.drop i) S') Q) ?_ ?_ ?_ ?_
    · exact ⟨_, S1 ++ [.lst true []], eD, hR1.laid (x := .lst true []) hD ⟨[], upd_same, .nil⟩, by rw [← hR1.len]; simp, Post.ext P1 eD⟩
    · rintro i H' hi' ⟨m', S', ex, hR', hm, P2⟩
      exact (k m' H' S' ex hR' (compL_stays (post_some P2))).1
    · rintro i x H2 H3 hi' ⟨m', S', ex, hR', hm, P2⟩ hy
      obtain ⟨w', hw, ex2, hR2, vx⟩ := (k m' H2 S' ex hR' (compL_stays (post_some P2))).2 i x H3 hi' hy
      have hd : j.items.drop i = w' :: j.items.drop (i + 1) := by
        rw [List.drop_eq_getElem_cons hi']
        rw [List.getElem?_eq_getElem hi'] at hw
        rw [Option.some.inj hw]
      rw [hd] at P2
      unfold compL at P2
      split at P2
      · split at P2
        · rename_i hst' ρ1 hput
          have P2 := Post.ext P2 ex2
          have eX : Ext X.K m H m' H3 := e1.trans (ex.trans ex2)
          refine ⟨m', S', w', _, ρ1, hR2, (eR.ext eX).wipe own, vx, hput, fun σ1 eR1 hw1 => ⟨?_, ?_⟩⟩
          · rw [hw1 own (fun i hi => by
              have := List.all_eq_true.mp hsl i hi
              simpa using this), wipe_idem own own fun _ h => h]
          · refine ⟨m', S', ρ1, hR2, eR1, Post.noX P2 fun m3 H4 S3 b b' e3 hR3 vb P3 => ?_⟩
            have vb' : b = b' := vb
            subst vb'
            cases b with
            | false => exact ⟨m3, S3, ex.trans (ex2.trans e3), hR3, e3.get hm, P3⟩
            | true =>
              refine ⟨m3, S3, ρ1, hR3, eR1.ext e3, Post.noX P3 fun m4 H5 S4 y y' e4 hR4 vy P4 => ?_⟩
              split at P4
              · rename_i acc ho
                split at P4
                · rename_i hz
                  have hm4 : m4[S1.length]? = some D := e4.get (e3.get hm)
                  obtain ⟨vs, h1, h2⟩ := hR4.at_ _ _ _ hm4 ho
                  have eW := Ext.wrL (K := X.K) (m := m4) (o := .lst (vs ++ [y])) h1
                  refine ⟨vs, h1, by rw [h2.length]; exact hz, m4, _, ex.trans (ex2.trans (e3.trans (e4.trans eW))), hR4.wr (x := .lst true (acc ++ [y'])) hm4 ho (fun _ z => by cases z) (fun _ z => by cases z) eW ⟨_, upd_same, (h2.append (.cons vy .nil)).ext eW⟩, hm4, Post.ext P4 eW⟩
                · exact (Post.none_ P4).elim
              · exact (Post.none_ P4).elim
        · exact (Post.none_ P2).elim
      · exact (Post.none_ P2).elim
    · rintro H' ⟨m', S', ex, hR', hm, P2⟩
      rw [List.drop_length] at P2
      unfold compL at P2
      split at P2
      · exact Post.ok P2 hR' (.ref hm)
      · exact (Post.none_ P2).elim
  exact ⟨PE.weak (pe_lc g.calm (by rw [g.nm]; exact g.nd) hi ok (fun s H C cl fp => so_g (goodBlk g s H C cl fp) tg te htg) (fun s H C cl fp => hc _ (goodBlk g s H C cl fp)) (fun s H C cl fp => he _ (goodBlk g s H C cl fp)) (fun x => fold_of hst x)) key, key⟩
end
end Co
namespace Co
open PySem PySem.Spec PyProof.Rows L2

section
variable {P : Sta} {G : List W} {O : Orc} {XR : XRel} {N : List Str}
theorem okEs_star {P : Sta} {N : List Str} {sc : Scope} : ∀ {cs : CEs} {es : List Expr}, okEs P N sc cs es = true → es.all notStar = true ∧ cs.len = es.length
  | .nil, [], _ => ⟨rfl, rfl⟩
  | .nil, _ :: _, h => by unfold okEs at h; cases h
  | .cons _ _, [], h => by unfold okEs at h; cases h
  | .cons c cs, e :: es, h => by
    unfold okEs at h
    simp only [Bool.and_eq_true] at h
    obtain ⟨h1, h2⟩ := okEs_star h.2
    exact ⟨by rw [List.all_cons, h1, h.1.1]; rfl, by rw [CEs.len, h2, List.length_cons]⟩
theorem okKw_some {P : Sta} {N : List Str} {sc : Scope} : ∀ {cs : CEs} {ks : List Keyword}, okKw P N sc cs ks = true → ks.all (·.arg.isSome) = true ∧ cs.len = ks.length
  | .nil, [], _ => ⟨rfl, rfl⟩
  | .nil, _ :: _, h => by unfold okKw at h; cases h
  | .cons _ _, [], h => by unfold okKw at h; cases h
  | .cons c cs, ⟨none, e, p⟩ :: es, h => by unfold okKw at h; cases h
  | .cons c cs, ⟨some a, e, p⟩ :: es, h => by
    unfold okKw at h
    simp only [Bool.and_eq_true] at h
    obtain ⟨h1, h2⟩ := okKw_some h.2
    exact ⟨by rw [List.all_cons, h1]; rfl, by rw [CEs.len, h2, List.length_cons]⟩
theorem okK_some {P : Sta} {N : List Str} {sc : Scope} : ∀ {cs : CKs} {ks : List (Option Expr)} {vs : List Expr}, okK P N sc cs ks vs = true → ks.all (·.isSome) = true ∧ ks.length = vs.length
  | .nil, [], [], _ => ⟨rfl, rfl⟩
  | .nil, [], _ :: _, h => by unfold okK at h; cases h
  | .nil, _ :: _, _, h => by unfold okK at h; cases h
  | .cons _ _ _, [], _, h => by unfold okK at h; cases h
  | .cons _ _ _, none :: _, _, h => by unfold okK at h; cases h
  | .cons _ _ _, some _ :: _, [], h => by unfold okK at h; cases h
  | .cons k v r, some e :: ks, ev :: vs, h => by
    unfold okK at h
    simp only [Bool.and_eq_true] at h
    obtain ⟨h1, h2⟩ := okK_some h.2
    exact ⟨by rw [List.all_cons, h1]; rfl, by rw [List.length_cons, h2, List.length_cons]⟩
/-- what is to be known of the program's table of calls by names -/
def StaOk (P : Sta) : Prop := ∀ f n ks perm x ps, (f, n, ks, perm) ∈ P.kws → P.fns[f]? = some (x, ps) → ps.length = n + perm.length ∧ ∀ i ∈ perm, i < ks.length
theorem kwNames_len {kws : List Keyword} (h : kws.all (·.arg.isSome) = true) : (kwNames kws).length = kws.length := by
  induction kws with
  | nil => rfl
  | cons a r ih =>
    simp only [List.all_cons, Bool.and_eq_true] at h
    obtain ⟨nm, e, pp⟩ := a
    cases nm with
    | none => simp at h
    | some nm =>
      have := ih h.2
      unfold kwNames at this ⊢
      rw [List.filterMap_cons]
      simp only [List.length_cons]
      rw [this]
theorem so_clause {Wx : WX} {X : Cx} : ∀ {c : CO} {ifs : List Expr} {sc : Scope}, okIf P N sc c ifs = true → (∀ d e, c = .some d → okE P N sc d e = true → PT X e (tT X.K XR Wx (runT G O d))) → PTs X ifs (tT X.K XR Wx (runOT G O c))
  | .none, [], sc, h, _ => ⟨fun pins s σ H Q I ⟨m, S, ρ, hR, eR, P⟩ => pts_nil.run pins s σ H Q I (by unfold runOT at P; exact Post.ok P hR rfl)⟩
  | .none, _ :: _, sc, h, _ => by unfold okIf at h; cases h
  | .some _, [], sc, h, _ => by unfold okIf at h; cases h
  | .some _, _ :: _ :: _, sc, h, _ => by unfold okIf at h; cases h
  | .some d, [e], sc, h, k => ⟨fun pins s σ H Q I ⟨m, S, ρ, hR, eR, P⟩ => (pts_one (k d e rfl (by unfold okIf at h; exact h))).run pins s σ H Q I ⟨m, S, ρ, hR, eR, by unfold runOT at P; exact P⟩⟩
theorem PT.eq {X : Cx} {e : Expr} {K : PySem.W.Frag} {Wx : WX} {f f' : En → Sto → Rs Bool} (h : PT X e (tT K XR Wx f)) (k : ∀ ρ S, f' ρ S = f ρ S) : PT X e (tT K XR Wx f') := by
  have : f' = f := funext fun ρ => funext fun S => k ρ S
  rw [this]
  exact h
/-- an expression by its core: as a value and as a test -/
def SE (P : Sta) (G : List W) (O : Orc) (XR : XRel) (N : List Str) (c : CE) : Prop := ∀ (Wx : WX) (sc : Scope) (X : Cx) (e : Expr), Good P G O XR Wx N sc X → okE P N sc c e = true → PE X e (tE X.K XR Wx (runE G O c)) ∧ PT X e (tT X.K XR Wx (runT G O c))
def SEs (P : Sta) (G : List W) (O : Orc) (XR : XRel) (N : List Str) (cs : CEs) : Prop := ∀ (Wx : WX) (sc : Scope) (X : Cx) (es : List Expr), Good P G O XR Wx N sc X → okEs P N sc cs es = true →
  PA X es (tEs X.K XR Wx (runEs G O cs)) ∧ ∀ k pos, PE X (.BoolOp (opK k) es pos) (tE X.K XR Wx (runB G O k cs)) ∧ PW X (.BoolOp (opK k) es pos) (tT X.K XR Wx (runBT G O k cs))
def SKw (P : Sta) (G : List W) (O : Orc) (XR : XRel) (N : List Str) (cs : CEs) : Prop := ∀ (Wx : WX) (sc : Scope) (X : Cx) (ks : List Keyword), Good P G O XR Wx N sc X → okKw P N sc cs ks = true → PK X ks (tEs X.K XR Wx (runEs G O cs))
def SO (P : Sta) (G : List W) (O : Orc) (XR : XRel) (N : List Str) (c : CO) : Prop := ∀ (Wx : WX) (sc : Scope) (X : Cx), Good P G O XR Wx N sc X → (∀ o, okO P N sc c o = true → PO X o (tR X.K XR Wx rOp (runO G O c))) ∧ (∀ ifs, okIf P N sc c ifs = true → PTs X ifs (tT X.K XR Wx (runOT G O c)))
def SK (P : Sta) (G : List W) (O : Orc) (XR : XRel) (N : List Str) (c : CKs) : Prop := ∀ (Wx : WX) (sc : Scope) (X : Cx) (pos : Pos) (ks : List (Option Expr)) (vs : List Expr), Good P G O XR Wx N sc X → okK P N sc c ks vs = true → PKV X pos ks vs X.K XR Wx (runKs G O c)
def SI (P : Sta) (G : List W) (O : Orc) (XR : XRel) (N : List Str) (c : CI) : Prop := ∀ (Wx : WX) (sc : Scope) (X : Cx) (tg e : Expr), Good P G O XR Wx N sc X → okI P N sc c tg e = true → PI X tg e (iR X.K XR Wx (runI G O c))
theorem pt_none {X : Cx} {e : Expr} {K : PySem.W.Frag} {Wx : WX} {f : En → Sto → Rs Bool} (k : ∀ ρ S, f ρ S = none) : PT X e (tT K XR Wx f) := PT.never fun σ H Q ⟨m, S, ρ, hR, eR, P⟩ => by rw [k] at P; exact (Post.none_ P).elim
mutual
theorem sE (hP : StaOk P) : ∀ c : CE, SE P G O XR N c
  | .var i => fun Wx sc X e g h => by
    cases e <;> first
      | (unfold okE at h; cases h; done)
      | (unfold okE at h
         simp only [Bool.and_eq_true] at h
         have p := so_var g (i := i) (pos := by assumption) h.1.1 h.1.2 h.2
         refine ⟨p, PT.eq (so_tru rfl p) fun ρ S => ?_⟩
         unfold runT runE
         split <;> rfl)
  | .cst w => fun Wx sc X e g h => by
    cases e <;> first
      | (unfold okE at h; cases h; done)
      | (unfold okE at h
         have p := so_cst (G := G) (O := O) (XR := XR) (Wx := Wx) (X := X) (j := by assumption) (pos := by assumption) h
         exact ⟨p, PT.eq (so_tru rfl p) fun ρ S => rfl⟩)
  | .glo i => fun Wx sc X e g h => by
    cases e <;> first
      | (unfold okE at h; cases h; done)
      | (unfold okE at h
         simp only [Bool.and_eq_true] at h
         have p := so_glo g (i := i) (pos := by assumption) h.1.1 h.1.2 h.2
         exact ⟨p, PT.eq (so_tru rfl p) fun ρ S => rfl⟩)
  | .bin o a b => fun Wx sc X e g h => by
    cases e <;> first
      | (unfold okE at h; cases h; done)
      | (unfold okE at h
         simp only [Bool.and_eq_true] at h
         have p := so_bin (pos := by assumption) h.1.1 (sE hP a Wx sc X _ g h.1.2).1 (sE hP b Wx sc X _ g h.2).1
         exact ⟨p, PT.eq (so_tru rfl p) fun ρ S => rfl⟩)
  | .neg a => fun Wx sc X e g h => by
    cases e with
    | UnaryOp op ea pos =>
      cases op <;> first
        | (unfold okE at h; cases h; done)
        | (unfold okE at h
           have p := so_neg (pos := by assumption) (sE hP a Wx sc X _ g h).1
           exact ⟨p, PT.eq (so_truN p) fun ρ S => rfl⟩)
    | _ => unfold okE at h; cases h
  | .not_ a => fun Wx sc X e g h => by
    cases e with
    | UnaryOp op ea pos =>
      cases op <;> first
        | (unfold okE at h; cases h; done)
        | (unfold okE at h
           exact ⟨so_not (sE hP a Wx sc X _ g h).1, so_notT (sE hP a Wx sc X _ g h).2⟩)
    | _ => unfold okE at h; cases h
  | .bool k es => fun Wx sc X e g h => by
    cases e with
    | BoolOp op vs pos =>
      cases op with
      | And =>
        unfold okE at h
        simp only [Bool.and_eq_true] at h
        obtain ⟨rfl, h⟩ := h
        obtain ⟨_, p⟩ := sEs hP es Wx sc X vs g h
        have p1 := (p true pos).1
        have p2 := (p true pos).2.pt
        refine ⟨PE.weak p1 fun σ H Q q => ?_, PT.weak p2 fun σ H Q q => ?_⟩
        · obtain ⟨m, S, ρ, hR, eR, P⟩ := q
          unfold runE at P
          exact ⟨m, S, ρ, hR, eR, P⟩
        · obtain ⟨m, S, ρ, hR, eR, P⟩ := q
          unfold runT at P
          exact ⟨m, S, ρ, hR, eR, P⟩
      | Or =>
        unfold okE at h
        simp only [Bool.and_eq_true, Bool.not_eq_true'] at h
        obtain ⟨rfl, h⟩ := h
        obtain ⟨_, p⟩ := sEs hP es Wx sc X vs g h
        have p1 := (p false pos).1
        have p2 := (p false pos).2.pt
        refine ⟨PE.weak p1 fun σ H Q q => ?_, PT.weak p2 fun σ H Q q => ?_⟩
        · obtain ⟨m, S, ρ, hR, eR, P⟩ := q
          unfold runE at P
          exact ⟨m, S, ρ, hR, eR, P⟩
        · obtain ⟨m, S, ρ, hR, eR, P⟩ := q
          unfold runT at P
          exact ⟨m, S, ρ, hR, eR, P⟩
    | _ => unfold okE at h; cases h
  | .cmp c a b => fun Wx sc X e g h => by
    cases e with
    | Compare ea ops ebs pos =>
      match ops, ebs, h with
      | [op], [eb], h =>
        unfold okE at h
        simp only [Bool.and_eq_true] at h
        exact ⟨so_cmp g.hu h.1.1.1 h.1.1.2 (sE hP a Wx sc X _ g h.1.2).1 (sE hP b Wx sc X _ g h.2).1, so_cmpT g.hu h.1.1.1 h.1.1.2 (sE hP a Wx sc X _ g h.1.2).1 (sE hP b Wx sc X _ g h.2).1⟩
      | [], _, h => unfold okE at h; cases h
      | [_], [], h => unfold okE at h; cases h
      | [_], _ :: _ :: _, h => unfold okE at h; cases h
      | _ :: _ :: _, _, h => unfold okE at h; cases h
    | _ => unfold okE at h; cases h
  | .chain c d a b e' => fun Wx sc X e g h => by
    cases e with
    | Compare ea ops ebs pos =>
      match ops, ebs, h with
      | [op, op'], [eb, ee], h =>
        unfold okE at h
        simp only [Bool.and_eq_true] at h
        have qa := (sE hP a Wx sc X _ g h.1.1.2).1
        have qb := (sE hP b Wx sc X _ g h.1.2).1
        have qe := (sE hP e' Wx sc X _ g h.2).1
        exact ⟨so_chain g.hu h.1.1.1.1.1 h.1.1.1.1.2 h.1.1.1.2 qa qb qe, so_chainT g.hu h.1.1.1.1.1 h.1.1.1.1.2 h.1.1.1.2 qa qb qe⟩
      | [], _, h => unfold okE at h; cases h
      | [_], _, h => unfold okE at h; cases h
      | [_, _], [], h => unfold okE at h; cases h
      | [_, _], [_], h => unfold okE at h; cases h
      | [_, _], _ :: _ :: _ :: _, h => unfold okE at h; cases h
      | _ :: _ :: _ :: _, _, h => unfold okE at h; cases h
    | _ => unfold okE at h; cases h
  | .ife c a b => fun Wx sc X e g h => by
    cases e <;> first
      | (unfold okE at h; cases h; done)
      | (unfold okE at h
         simp only [Bool.and_eq_true] at h
         have qc := (sE hP c Wx sc X _ g h.1.1).2
         have qa := sE hP a Wx sc X _ g h.1.2
         have qb := sE hP b Wx sc X _ g h.2
         exact ⟨so_ife qc qa.1 qb.1, so_ifeT qc qa.2 qb.2⟩)
  | .tup es => fun Wx sc X e g h => by
    cases e <;> first
      | (unfold okE at h; cases h; done)
      | (unfold okE at h
         have p := so_tup (j := by assumption) (pos := by assumption) (sEs hP es Wx sc X _ g h).1
         exact ⟨p, PT.eq (so_tru rfl p) fun ρ S => rfl⟩)
  | .lst es => fun Wx sc X e g h => by
    cases e <;> first
      | (unfold okE at h; cases h; done)
      | (unfold okE at h
         have p := so_lst (pos := by assumption) (sEs hP es Wx sc X _ g h).1
         exact ⟨p, PT.eq (so_tru rfl p) fun ρ S => rfl⟩)
  | .dct kvs => fun Wx sc X e g h => by
    cases e with
    | Dict ks vs pos =>
      unfold okE at h
      simp only [Bool.and_eq_true, decide_eq_true_eq] at h
      have p : PE X (.Dict ks vs pos) (tE X.K XR Wx (runE G O (.dct kvs))) := by
       obtain ⟨h1, h2⟩ := okK_some h.1
       match ks, vs, kvs, h1, h2, h with
       | [], [], .nil, h1, h2, h => exact so_dct0
       | [], [], .cons _ _ _, _, _, h => have := h.1; unfold okK at this; cases this
       | k :: ks, vs, kvs, h1, h2, h => exact so_dct h1 h2 (by intro z; cases z) h.2 (sK hP kvs Wx sc X pos _ vs g h.1)
      exact ⟨p, PT.eq (so_tru rfl p) fun ρ S => rfl⟩
    | _ => unfold okE at h; cases h
  | .idx a b => fun Wx sc X e g h => by
    cases e <;> first
      | (unfold okE at h; cases h; done)
      | (unfold okE at h
         simp only [Bool.and_eq_true] at h
         have p := so_idx (pos := by assumption) g.hu h.1.1 (sE hP a Wx sc X _ g h.1.2).1 (sE hP b Wx sc X _ g h.2).1
         exact ⟨p, PT.eq (so_tru rfl p) fun ρ S => rfl⟩)
  | .slc a lo hi => fun Wx sc X e g h => by
    cases e with
    | Subscript ea eb pos =>
      cases eb with
      | Slice l hh st p =>
        cases st with
        | none =>
          unfold okE at h
          simp only [Bool.and_eq_true] at h
          have q := so_slc (p := p) (pos := pos) (sE hP a Wx sc X _ g h.1.1).1 ((sO hP lo Wx sc X g).1 _ h.1.2) ((sO hP hi Wx sc X g).1 _ h.2)
          exact ⟨q, PT.eq (so_tru rfl q) fun ρ S => rfl⟩
        | some _ => unfold okE at h; cases h
      | _ => unfold okE at h; cases h
    | _ => unfold okE at h; cases h
  | .call f es ks perm => fun Wx sc X e g h => by
    cases e with
    | Call fe args kws pos =>
      cases fe with
      | Name x p =>
        unfold okE at h
        simp only [Bool.and_eq_true] at h
        obtain ⟨⟨⟨⟨⟨h1, h2⟩, h3⟩, h4⟩, h5⟩, h6⟩ := h
        obtain ⟨a1, a2⟩ := okEs_star h4
        have qe := (sEs hP es Wx sc X _ g h4).1
        have fin : PE X (.Call (.Name x p) args kws pos) (tE X.K XR Wx (runE G O (.call f es ks perm))) := by
          cases kws with
          | nil =>
            simp only [List.isEmpty_nil, if_true, Bool.and_eq_true, List.isEmpty_iff] at h6
            obtain ⟨rfl, h6⟩ := h6
            have hk : ks = .nil := by
              cases ks with
              | nil => rfl
              | cons _ _ => unfold okKw at h5; cases h5
            subst hk
            exact so_call g h1 h2 h3 a1 h6 a2 qe
          | cons kw kws =>
            simp only [List.isEmpty_cons, Bool.false_eq_true, if_false, List.contains_iff_mem] at h6
            obtain ⟨b1, b2⟩ := okKw_some h5
            refine so_callK g h1 h2 h3 a1 b1 h6 a2 b2 qe (sKw hP ks Wx sc X _ g h5) fun ps hps => ?_
            obtain ⟨c1, c2⟩ := hP _ _ _ _ _ _ h6 hps
            exact ⟨c1, fun i hi => by rw [← kwNames_len b1]; exact c2 i hi⟩
        exact ⟨fin, PT.eq (so_tru rfl fin) fun ρ S => rfl⟩
      | _ => unfold okE at h; cases h
    | _ => unfold okE at h; cases h
  | .blt f es => fun Wx sc X e g h => by
    cases e with
    | Call fe args kws pos =>
      cases fe with
      | Name x p =>
        cases kws with
        | nil =>
          unfold okE at h
          split at h
          · rename_i hf
            subst hf
            split at h
            · rename_i y e hr
              simp only [Bool.and_eq_true] at h
              obtain ⟨⟨⟨⟨h1, h2⟩, h3⟩, h4⟩, h5⟩ := h
              unfold rngArg at hr
              split at hr
              · cases hr
                cases es with
                | nil => unfold okEs at h5; cases h5
                | cons a r =>
                  cases r with
                  | cons _ _ => unfold okEs okEs at h5; simp at h5
                  | nil =>
                    unfold okEs okEs at h5
                    simp only [Bool.and_eq_true] at h5
                    have pa := (sE hP a Wx sc X _ g h5.1.2).1
                    exact ⟨so_lrng g h1 h2 h3 h4 h5.1.1 pa, PT.eq (so_tru rfl (so_lrng g h1 h2 h3 h4 h5.1.1 pa)) fun ρ S => rfl⟩
              · cases hr
            · cases h
          simp only [Bool.and_eq_true, Bool.not_eq_true'] at h
          obtain ⟨⟨⟨h1, h2⟩, h3⟩, h4⟩ := h
          cases args with
          | nil => cases h4
          | cons a args =>
            have fin := so_blt (p := p) (pos := pos) g h1 h2 (okEs_star h3).1 (sEs hP es Wx sc X _ g h3).1
            exact ⟨fin, PT.eq (so_tru rfl fin) fun ρ S => rfl⟩
        | cons _ _ => unfold okE at h; cases h
      | Attribute eo x apos =>
        match args, kws, h with
        | [], _, h => unfold okE at h; cases h
        | [_], _ :: _, h => unfold okE at h; cases h
        | _ :: _ :: _, _, h => unfold okE at h; cases h
        | [eb], [], h =>
          unfold okE at h
          simp only [Bool.and_eq_true] at h
          obtain ⟨⟨⟨h1, h2⟩, h3⟩, h4⟩ := h
          have fin : PE X (.Call (.Attribute eo x apos) [eb] [] pos) (tE X.K XR Wx (runE G O (.blt f es))) := by
            refine so_txt h1 h2 h3 ?_ ?_
            · have := (okEs_star h4).1
              simp only [List.all_cons, Bool.and_eq_true] at this
              exact this.2.1
            · intro z b he
              cases es with
              | nil => cases he
              | cons a r =>
                cases r with
                | nil => cases he
                | cons b' r =>
                  unfold okEs okEs okEs at h4
                  simp only [Bool.and_eq_true] at h4
                  cases he
                  exact ⟨(sE hP (.cst (.str z)) Wx sc X _ g h4.1.2).1, (sE hP b Wx sc X _ g h4.2.1.2).1⟩
          exact ⟨fin, PT.eq (so_tru rfl fin) fun ρ S => rfl⟩
      | _ => unfold okE at h; cases h
    | Subscript ea sl pos =>
      cases sl with
      | Slice l hh st p =>
        match l, hh, st, h with
        | some _, _, _, h => unfold okE at h; cases h
        | none, some _, _, h => unfold okE at h; cases h
        | none, none, none, h => unfold okE at h; cases h
        | none, none, some u, h =>
          unfold okE at h
          simp only [Bool.and_eq_true] at h
          obtain ⟨⟨h1, h2⟩, h3⟩ := h
          have hf : f = .rev := eq_of_beq h1
          cases es with
          | nil => unfold okEs at h3; cases h3
          | cons a r =>
            cases r with
            | cons _ _ => unfold okEs okEs at h3; simp at h3
            | nil =>
              unfold okEs okEs at h3
              simp only [Bool.and_eq_true] at h3
              have pa := (sE hP a Wx sc X _ g h3.1.2).1
              unfold isM1 at h2
              split at h2
              · have := of_decide_eq_true h2
                subst this hf
                refine ⟨so_rev pa, PT.eq (so_tru rfl (so_rev pa)) fun ρ S => rfl⟩
              · cases h2
      | _ => unfold okE at h; cases h
    | _ => unfold okE at h; cases h
  | .isi t a => fun Wx sc X e g h => by
    cases e with
    | Call fe args kws pos =>
      cases fe with
      | Name x p =>
        match args, kws, h with
        | [], _, h => unfold okE at h; cases h
        | [_], _, h => unfold okE at h; cases h
        | [_, b], _ :: _, h => unfold okE at h; cases b <;> cases h
        | _ :: b :: _ :: _, _, h => unfold okE at h; cases b <;> cases h
        | [ea, b], [], h =>
          cases b with
          | Name y q =>
            unfold okE at h
            simp only [Bool.and_eq_true] at h
            obtain ⟨⟨⟨⟨⟨h1, h2⟩, h3⟩, h4⟩, h5⟩, h6⟩ := h
            have fin := so_isi (p := p) (q := q) (pos := pos) g h1 h2 h3 h4 h5 (sE hP a Wx sc X _ g h6).1
            exact ⟨fin, PT.eq (so_tru rfl fin) fun ρ S => rfl⟩
          | _ => unfold okE at h; cases h
      | _ => unfold okE at h; cases h
    | _ => unfold okE at h; cases h
  | .mth m o es => fun Wx sc X e g h => by
    cases e with
    | Call fe args kws pos =>
      cases fe with
      | Attribute eo name apos =>
        cases kws with
        | nil =>
          unfold okE at h
          simp only [Bool.and_eq_true] at h
          obtain ⟨⟨⟨⟨h1, h2⟩, h3⟩, h4⟩, h5⟩ := h
          obtain ⟨a1, a2⟩ := okEs_star h5
          have fin := so_mth g h1 h2 h3 (sE hP o Wx sc X _ g h4).1 a1 a2 (sEs hP es Wx sc X _ g h5).1
          exact ⟨fin, PT.eq (so_tru rfl fin) fun ρ S => rfl⟩
        | cons _ _ => unfold okE at h; cases h
      | _ => unfold okE at h; cases h
    | _ => unfold okE at h; cases h
  | .comp e' tg it c own => fun Wx sc X e g h => by
    cases e with
    | ListComp elt gens scope pos =>
      have p : PE X (.ListComp elt gens scope pos) (tE X.K XR Wx (runE G O (.comp e' tg it c own))) := by
       match gens, h with
       | [], h => unfold okE at h; cases h
       | ⟨_, _, _, _⟩ :: _ :: _, h => unfold okE at h; cases h
       | [⟨te, ie, ifs, ia⟩], h =>
         unfold okE at h
         simp only [Bool.and_eq_true] at h
         obtain ⟨⟨⟨⟨⟨⟨⟨⟨h1, h2⟩, h3⟩, h4⟩, h5⟩, h6⟩, h7⟩, h8⟩, h9⟩ := h
         cases (eq_of_beq h1)
         exact (so_comp g h2 h3 h4 h5 h6 (sI hP it Wx sc X te ie g h7) (fun X' g' => (sO hP c WxF scope X' g').2 ifs h8) (fun X' g' => (sE hP e' WxF scope X' elt g' h9).1)).1
      exact ⟨p, PT.eq (so_tru rfl p) fun ρ S => rfl⟩
    | _ => unfold okE at h; cases h
theorem sEs (hP : StaOk P) : ∀ cs : CEs, SEs P G O XR N cs
  | .nil => fun Wx sc X es g h => by
    cases es with
    | nil =>
      refine ⟨so_es_nil, fun k pos => ⟨PE.never fun σ H Q q => ?_, ⟨fun wh pins s σ H Q I q => ?_⟩⟩⟩
      · obtain ⟨m, S, ρ, hR, eR, P⟩ := q
        unfold runB at P
        exact Post.none_ P
      · obtain ⟨m, S, ρ, hR, eR, P⟩ := q
        unfold runBT at P
        exact (Post.none_ P).elim
    | cons _ _ => unfold okEs at h; cases h
  | .cons c cs => fun Wx sc X es g h => by
    cases es with
    | nil => unfold okEs at h; cases h
    | cons e es =>
      unfold okEs at h
      simp only [Bool.and_eq_true] at h
      have q := sE hP c Wx sc X e g h.1.2
      have qs := sEs hP cs Wx sc X es g h.2
      refine ⟨so_es_cons h.1.1 q.1 qs.1, fun k pos => ?_⟩
      cases cs with
      | nil =>
        cases es with
        | nil => exact ⟨so_b_one q.1, so_t_one q.2⟩
        | cons _ _ => have := h.2; unfold okEs at this; cases this
      | cons d r =>
        cases es with
        | nil => have := h.2; unfold okEs at this; cases this
        | cons e' es => exact ⟨so_b_cons q.1 (qs.2 k pos).1, so_t_cons q.2 (qs.2 k pos).2⟩
theorem sKw (hP : StaOk P) : ∀ cs : CEs, SKw P G O XR N cs
  | .nil => fun Wx sc X ks g h => by
    cases ks with
    | nil => exact so_kw_nil
    | cons _ _ => unfold okKw at h; cases h
  | .cons c cs => fun Wx sc X ks g h => by
    cases ks with
    | nil => unfold okKw at h; cases h
    | cons kw ks =>
      obtain ⟨nm, e, kp⟩ := kw
      cases nm with
      | none => unfold okKw at h; cases h
      | some nm =>
        unfold okKw at h
        simp only [Bool.and_eq_true] at h
        exact so_kw_cons (sE hP c Wx sc X e g h.1).1 (sKw hP cs Wx sc X ks g h.2)
theorem sO (hP : StaOk P) : ∀ c : CO, SO P G O XR N c
  | .none => fun Wx sc X g => by
    refine ⟨fun o h => ?_, fun ifs h => so_clause h fun d e z => by cases z⟩
    cases o with
    | none => exact so_o_none
    | some _ => unfold okO at h; cases h
  | .some c => fun Wx sc X g => by
    refine ⟨fun o h => ?_, fun ifs h => so_clause h fun d e z hd => ?_⟩
    · cases o with
      | none => unfold okO at h; cases h
      | some e =>
        unfold okO at h
        exact so_o_some (sE hP c Wx sc X e g h).1
    · cases z
      exact (sE hP c Wx sc X e g hd).2
theorem sK (hP : StaOk P) : ∀ c : CKs, SK P G O XR N c
  | .nil => fun Wx sc X pos ks vs g h => by
    cases ks with
    | nil =>
      cases vs with
      | nil => exact so_kv_nil
      | cons _ _ => unfold okK at h; cases h
    | cons _ _ => unfold okK at h; cases h
  | .cons k v r => fun Wx sc X pos ks vs g h => by
    match ks, vs, h with
    | [], _, h => unfold okK at h; cases h
    | none :: _, _, h => unfold okK at h; cases h
    | some _ :: _, [], h => unfold okK at h; cases h
    | some ek :: ks, ev :: vs, h =>
      unfold okK at h
      simp only [Bool.and_eq_true] at h
      exact so_kv_cons (sE hP k Wx sc X ek g h.1.1).1 (sE hP v Wx sc X ev g h.1.2).1 (sK hP r Wx sc X pos ks vs g h.2)
theorem sI (hP : StaOk P) : ∀ c : CI, SI P G O XR N c
  | .seq c => fun Wx sc X tg e g h => by
    unfold okI at h
    exact so_seq (sE hP c Wx sc X e g h).1
  | .rng1 c => fun Wx sc X tg e g h => by
    cases e with
    | Call fe args kws pos =>
      cases fe with
      | Name x p =>
        match args, kws, h with
        | [e], [], h =>
          unfold okI at h
          simp only [Bool.and_eq_true] at h
          exact so_rng1 g h.1.1.1 h.1.1.2 h.1.2 (sE hP c Wx sc X _ g h.2).1
        | [], _, h => unfold okI at h; cases h
        | [_], _ :: _, h => unfold okI at h; cases h
        | _ :: _ :: _, _, h => unfold okI at h; cases h
      | _ => unfold okI at h; cases h
    | _ => unfold okI at h; cases h
  | .rng2 a b => fun Wx sc X tg e g h => by
    cases e with
    | Call fe args kws pos =>
      cases fe with
      | Name x p =>
        match args, kws, h with
        | [e, e'], [], h =>
          unfold okI at h
          simp only [Bool.and_eq_true] at h
          exact so_rng2 g h.1.1.1.1.1 h.1.1.1.1.2 h.1.1.1.2 h.1.1.2 (sE hP a Wx sc X _ g h.1.2).1 (sE hP b Wx sc X _ g h.2).1
        | [], _, h => unfold okI at h; cases h
        | [_], _, h => unfold okI at h; cases h
        | [_, _], _ :: _, h => unfold okI at h; cases h
        | _ :: _ :: _ :: _, _, h => unfold okI at h; cases h
      | _ => unfold okI at h; cases h
    | _ => unfold okI at h; cases h
  | .zip a b => fun Wx sc X tg e g h => by
    cases e with
    | Call fe args kws pos =>
      cases fe with
      | Name x p =>
        match args, kws, h with
        | [e, e'], [], h =>
          unfold okI at h
          simp only [Bool.and_eq_true] at h
          exact so_zip g h.1.1.1.1.1.1 h.1.1.1.1.1.2 h.1.1.1.1.2 h.1.1.1.2 h.1.1.2 (sE hP a Wx sc X _ g h.1.2).1 (sE hP b Wx sc X _ g h.2).1
        | [], _, h => unfold okI at h; cases h
        | [_], _, h => unfold okI at h; cases h
        | [_, _], _ :: _, h => unfold okI at h; cases h
        | _ :: _ :: _ :: _, _, h => unfold okI at h; cases h
      | _ => unfold okI at h; cases h
    | _ => unfold okI at h; cases h
  | .enm c => fun Wx sc X tg e g h => by
    cases e with
    | Call fe args kws pos =>
      cases fe with
      | Name x p =>
        match args, kws, h with
        | [e], [], h =>
          unfold okI at h
          simp only [Bool.and_eq_true] at h
          exact so_enm g h.1.1.1.1 h.1.1.1.2 h.1.1.2 h.1.2 (sE hP c Wx sc X _ g h.2).1
        | [], _, h => unfold okI at h; cases h
        | [_], _ :: _, h => unfold okI at h; cases h
        | _ :: _ :: _, _, h => unfold okI at h; cases h
      | _ => unfold okI at h; cases h
    | _ => unfold okI at h; cases h
end
end
end Co
namespace Co
open PySem PySem.Spec PyProof.Rows L2

/-! ### statements -/
def noTup : Expr → Bool
  | .Tuple _ _ _ => false
  | _ => true
def isLC : Expr → Bool
  | .ListComp _ [_] _ _ => true
  | _ => false
def isName : Expr → Bool
  | .Name _ _ => true
  | _ => false
def idOf : Expr → Str
  | .Name x _ => x
  | _ => ""
/-- the names that are stored from the right -/
def swNames (sc : Scope) (ts : List Expr) : List Str :=
  ts.filterMap fun
    | .Name id pos => if sc.names.lookup id == some .local && pos.line == ((ts.head?.map (·.pos.line)).getD 0) then some id else none
    | _ => none
def swNone (sc : Scope) (ts vs : List Expr) : Bool :=
  !(ts.length == 2 || ts.length == 3) || vs.length != ts.length || (swNames sc ts).length != ts.length
def swSome (sc : Scope) (ts vs : List Expr) : Bool :=
  (ts.length == 2 || ts.length == 3) && vs.length == ts.length && vs.all notStar && (swNames sc ts).length == ts.length && (swNames sc ts).eraseDups.length == ts.length && !(vs.all (foldedForSure 8)) && decide (ts.map idOf).Nodup && !(vs.all (constantsAlone 8)) && ts.all isName && ((swNames sc ts) == ts.map idOf)
def asgB (sc : Scope) : Expr → Expr → Bool
  | .Name _ _, ev => noComp ev || isLC ev
  | .Tuple ts _ _, .Tuple vs _ _ => swNone sc ts vs || swSome sc ts vs
  | .Tuple _ _ _, _ => true
  | _, _ => false
mutual
def okS (P : Sta) (N : List Str) (sc : Scope) : CS → Stmt → Bool
  | .asg t e, .Assign [te] ev _ => okTg N sc t te && okE P N sc e ev && asgB sc te ev
  | .setIx o i e, .Assign [.Subscript eo ei _] ev _ => notStar ei && okE P N sc o eo && okE P N sc i ei && okE P N sc e ev
  | .expr e, .Expr ev _ => noComp ev && okE P N sc e ev
  | .doc, .Expr (.Constant (.str _) _ _) _ => true
  | .ret e, .Return (some ev) _ => okE P N sc e ev
  | .retN, .Return none _ => true
  | .ife c a b, .If ec sa sb _ => okE P N sc c ec && okSs P N sc a sa && okSs P N sc b sb
  | .whil c a, .While ec sa [] _ => okE P N sc c ec && okSs P N sc a sa
  | .for_ t it a, .For te ie sa [] _ => notStar ie && okTg N sc t te && okI P N sc it te ie && okSs P N sc a sa
  | .pass, .Pass _ => true
  | .brk, .Break _ => true
  | .cont, .Continue _ => true
  | .stuck, _ => true
  | _, _ => false
def okSs (P : Sta) (N : List Str) (sc : Scope) : CSs → List Stmt → Bool
  | .nil, [] => true
  | .cons s r, st :: sts => okS P N sc s st && okSs P N sc r sts
  | _, _ => false
end
/-- what has to follow of a statement's end -/
def PostS (K : PySem.W.Frag) (XR : XRel) (Wx : WX) (m : List Addr) (H : Hp) (r : Option RT) (D : Ends) : Prop :=
  match r with
  | some (.next ρ S) => ∀ m' H' σ', Ext K m H m' H' → HR K m' H' S → ER K m' H' σ' ρ → D.nx σ' H'
  | some (.brk ρ S) => ∀ m' H' σ', Ext K m H m' H' → HR K m' H' S → ER K m' H' σ' ρ → D.bk σ' H'
  | some (.cont ρ S) => ∀ m' H' σ', Ext K m H m' H' → HR K m' H' S → ER K m' H' σ' ρ → D.ct σ' H'
  | some (.ret w S) => ∀ m' H' v, Ext K m H m' H' → HR K m' H' S → VR K m' H' v w → D.rt v H'
  | some (.ex c fs ρ S) => ∀ m' H' σ' cls d, Ext K m H m' H' → HR K m' H' S → ER K m' H' σ' ρ → XR m' H' c fs cls d → Wx cls d σ' H'
  | none => False
def tS (K : PySem.W.Frag) (XR : XRel) (Wx : WX) (f : En → Sto → Option RT) : TS := fun D σ H => ∃ m S ρ, HR K m H S ∧ ER K m H σ ρ ∧ PostS K XR Wx m H (f ρ S) D
section
variable {K : PySem.W.Frag} {XR : XRel} {Wx : WX} {m m' : List Addr} {H H' : Hp} {σ : L2.St} {α β : Type} {rel : List Addr → Hp → β → α → Prop}
theorem PostS.ext {r : Option RT} {D : Ends} (h : PostS K XR Wx m H r D) (e : Ext K m H m' H') : PostS K XR Wx m' H' r D := by
  cases r with
  | none => exact h
  | some t => cases t with
    | next ρ S => exact fun m1 H1 σ1 e1 => h m1 H1 σ1 (e.trans e1)
    | brk ρ S => exact fun m1 H1 σ1 e1 => h m1 H1 σ1 (e.trans e1)
    | cont ρ S => exact fun m1 H1 σ1 e1 => h m1 H1 σ1 (e.trans e1)
    | ret w S => exact fun m1 H1 v e1 => h m1 H1 v (e.trans e1)
    | ex c fs ρ S => exact fun m1 H1 σ1 cls d e1 => h m1 H1 σ1 cls d (e.trans e1)
theorem PostS.none_ {D : Ends} (h : PostS K XR Wx m H none D) : False := h
/-- an expression's end within a statement -/
theorem PostS.thenE {r : Rs α} {ρ : En} {f : α → Sto → Option RT} {D : Ends} {Q : β → Hp → Prop} (h : PostS K XR Wx m H (thenS r ρ f) D) (eR : ER K m H σ ρ)
    (k : ∀ m1 H1 S1 b a, Ext K m H m1 H1 → HR K m1 H1 S1 → ER K m1 H1 σ ρ → rel m1 H1 b a → PostS K XR Wx m1 H1 (f a S1) D → Q b H1) : Post K XR Wx m H σ rel r Q := by
  cases r with
  | none => exact h
  | some r =>
    cases r with
    | ok a S => exact fun m1 H1 b e hr hb => k m1 H1 S b a e hr (eR.ext e) hb (PostS.ext h e)
    | ex c fs S => exact fun m1 H1 cls d e hr hx => h m1 H1 σ cls d e hr (eR.ext e) hx
end
section
variable {P : Sta} {G : List W} {O : Orc} {XR : XRel} {Wx : WX} {N : List Str} {sc : Scope} {X : Cx}
structure GoodS (P : Sta) (G : List W) (O : Orc) (XR : XRel) (Wx : WX) (N : List Str) (sc : Scope) (X : Cx) : Prop where
  kd : sc.kind = .function
  sce : X.env.scope = sc
  own : PassesOwn (model X.prog X.w) X.A X.env X.xe
  g : Good P G O XR Wx N sc X
theorem PS.weak {st : Stmt} {t t' : TS} (h : PS X st t) (k : ∀ D σ H, t' D σ H → t D σ H) : PS X st t' := ⟨fun pins s σ H D I q => h.run pins s σ H D I (k D σ H q)⟩
theorem PSs.weak {st : List Stmt} {t t' : TS} (h : PSs X st t) (k : ∀ D σ H, t' D σ H → t D σ H) : PSs X st t' := ⟨fun pins s σ H D I q => h.run pins s σ H D I (k D σ H q)⟩
theorem asg_core {t : Tg} {e : CE} : ∀ D σ H, tS X.K XR Wx (runS G O (.asg t e)) D σ H → tAsg (tE X.K XR Wx (runE G O e)) (gR X.K t) D σ H := by
  rintro D σ H ⟨m, S, ρ, hR, eR, P⟩
  unfold runS at P
  refine ⟨m, S, ρ, hR, eR, PostS.thenE P eR fun m1 H1 S1 x x' e1 hR1 eR1 vx P1 => ?_⟩
  cases hp : putT t x' ρ with
  | none => rw [hp] at P1; exact (PostS.none_ P1).elim
  | some ρ1 =>
    rw [hp] at P1
    exact ⟨m1, S1, x', ρ, ρ1, hR1, eR1, vx, hp, fun σ1 h1 _ => P1 m1 H1 σ1 .refl hR1 h1⟩



theorem sw_eq {ts vs : List Expr} {k k2 : Nat} {p p2 : Pos} {env : Env} (hk : env.scope.kind = .function) : swappedStores [.Tuple ts k p] (.Tuple vs k2 p2) env =
    (if (!(ts.length == 2 || ts.length == 3) || vs.length != ts.length) = true then pure none else
     if (vs.any fun | .Starred .. => true | _ => false) = true then pure none else
     if ((swNames env.scope ts).length != ts.length || (swNames env.scope ts).eraseDups.length != (swNames env.scope ts).length) = true then pure none else
     if (vs.all (foldedForSure 8)) = true then pure none else
     if (vs.all (constantsAlone 8)) = true then unsupported "assign.tuple-of-constant-expressions:order-of-the-stores" else pure (some (swNames env.scope ts))) := by
  have hb : env.blockKind = .function := by unfold Env.blockKind; rw [hk]; rfl
  unfold swappedStores
  simp only [hb, bne_self_eq_false, Bool.or_false]
  rfl
theorem sw_none {ts vs : List Expr} {k k2 : Nat} {p p2 : Pos} {env : Env} {sc : Scope} (hk : sc.kind = .function) (he : env.scope = sc) (h : swNone sc ts vs = true) : swappedStores [.Tuple ts k p] (.Tuple vs k2 p2) env = pure none := by
  rw [sw_eq (by rw [he]; exact hk), he]
  unfold swNone at h
  split
  · rfl
  · rename_i h1
    split
    · rfl
    · split
      · rfl
      · rename_i h3
        exfalso
        simp only [Bool.or_eq_true, not_or] at h h1 h3
        rcases h with (h | h) | h
        · exact h1.1 h
        · exact h1.2 h
        · exact h3.1 h
theorem notStar_any {vs : List Expr} (h : vs.all notStar = true) : (vs.any fun | .Starred .. => true | _ => false) = false := by
  rw [List.any_eq_false]
  rw [List.all_eq_true] at h
  intro x hx
  have := h x hx
  cases x <;> first | (cases this; done) | simp
theorem sw_some {ts vs : List Expr} {k k2 : Nat} {p p2 : Pos} {env : Env} {sc : Scope} (hk : sc.kind = .function) (he : env.scope = sc) (h : swSome sc ts vs = true) : swappedStores [.Tuple ts k p] (.Tuple vs k2 p2) env = pure (some (ts.map idOf)) := by
  rw [sw_eq (by rw [he]; exact hk), he]
  unfold swSome at h
  simp only [Bool.and_eq_true, Bool.not_eq_true', beq_iff_eq] at h
  obtain ⟨⟨⟨⟨⟨⟨⟨⟨⟨h1, h2⟩, h3⟩, h4⟩, h5⟩, h6⟩, h10⟩, h7⟩, h8⟩, h9⟩ := h
  rw [if_neg (by rw [h1, h2]; simp), if_neg (by rw [notStar_any h3]; decide), if_neg (by rw [h4, h5]; simp), if_neg (by rw [h6]; decide), if_neg (by rw [h7]; decide), h9]
/-- stores one after another -/
def setAll : L2.St → List Nat → List V → L2.St
  | σ, i :: is, v :: vs => setAll (σ.set i (some v)) is vs
  | σ, _, _ => σ
def setAllE : En → List Nat → List W → En
  | ρ, i :: is, v :: vs => setAllE (ρ.set i (some v)) is vs
  | ρ, _, _ => ρ
theorem setAll_ER {K : PySem.W.Frag} {m : List Addr} {H : Hp} : ∀ {is : List Nat} {vs : List V} {ws : List W} {σ : L2.St} {ρ : En}, ER K m H σ ρ → VRs K m H vs ws → (∀ i ∈ is, i < ρ.length) → ER K m H (setAll σ is vs) (setAllE ρ is ws)
  | [], _, _, σ, ρ, e, r, _ => by cases r <;> exact e
  | i :: is, _, _, σ, ρ, e, .nil, _ => e
  | i :: is, _, _, σ, ρ, e, .cons r rs, h => by
    unfold setAll setAllE
    refine setAll_ER (e.set r (h i (List.mem_cons_self ..))) rs fun j hj => ?_
    have q := h j (List.mem_cons_of_mem _ hj)
    simpa using q
theorem bind_all {pins : List (Addr × Obj)} {H : Hp} (hN : X.N.Nodup) {Q : Unit → Shared → Prop} (xs : List Str) : ∀ (is : List Nat) (vs : List V) (us : List Value) (σ : L2.St) (s : Shared), Inv X pins σ H s → Vals vs us → Paired (fun x i => X.N[i]? = some x ∧ X.env.scope.names.lookup x = some .local) xs is → xs.length = us.length →
    (∀ s', Inv X pins (setAll σ is vs) H s' → Q () s') → wpAny (model X.prog X.w) X.A (assignInOrder (xs.map fun n v => bindName X.env n v) us) Q X.xe s := by
  induction xs with
  | nil =>
    intro is vs us σ s I r p hl q
    cases p
    cases us with
    | cons _ _ => cases hl
    | nil =>
      cases r
      exact assignInOrder_nil (q s I)
  | cons x xs ih =>
    intro is vs us σ s I r p hl q
    cases p with
    | cons p ps =>
      cases r with
      | nil => cases hl
      | cons r rs =>
        have hl' := Nat.succ.inj hl
        refine assignInOrder_cons (wpAny_bindName (store_ok I hN p.1 (.inl p.2) r (fun s2 I4 => ?_) (.inr p.2)))
        exact ih _ _ _ _ _ I4 rs ps hl' q
theorem thenS_bind {α β : Type} {r : Rs α} {f : α → Sto → Rs β} {ρ : En} {k : β → Sto → Option RT} : thenS (r.bind f) ρ k = thenS r ρ fun a S => thenS (f a S) ρ k := by
  cases r with
  | none => rfl
  | some r => cases r <;> rfl
theorem paired_app {α β : Type} {p : α → β → Prop} {xs xs' : List α} {ys ys' : List β} (h : Paired p xs ys) (h' : Paired p xs' ys') : Paired p (xs ++ xs') (ys ++ ys') := by
  induction h with
  | nil => exact h'
  | cons h t ih => exact .cons h ih
theorem paired_rev {α β : Type} {p : α → β → Prop} {xs : List α} {ys : List β} (h : Paired p xs ys) : Paired p xs.reverse ys.reverse := by
  induction h with
  | nil => exact .nil
  | cons h t ih =>
    rw [List.reverse_cons, List.reverse_cons]
    exact paired_app ih (.cons h .nil)
theorem vals_rev {xs : List V} {ys : List Value} (h : Vals xs ys) : Vals xs.reverse ys.reverse := by
  induction h with
  | nil => exact .nil
  | cons h t ih =>
    rw [List.reverse_cons, List.reverse_cons]
    exact ih.append (.cons h .nil)
theorem vrs_rev {K : PySem.W.Frag} {m : List Addr} {H : Hp} : ∀ {xs : List V} {ys : List W}, VRs K m H xs ys → VRs K m H xs.reverse ys.reverse
  | _, _, .nil => .nil
  | _, _, .cons h t => by
    rw [List.reverse_cons, List.reverse_cons]
    exact (vrs_rev t).append (.cons h .nil)
def slotOf : Tg → Nat
  | .name i => i
  | _ => 0
/-- the slots of a row of names -/
theorem slots_of (g : GoodS P G O XR Wx N sc X) : ∀ {ts : List Tg} {te : List Expr} {l : Nat}, okTgs N sc ts te = true → te.all isName = true → (te.filterMap fun
    | .Name id pos => if sc.names.lookup id == some .local && pos.line == l then some id else none
    | _ => none) = te.map idOf → ts = (ts.map slotOf).map Tg.name ∧ Paired (fun x i => X.N[i]? = some x ∧ X.env.scope.names.lookup x = some .local) (te.map idOf) (ts.map slotOf)
  | [], [], _, _, _, _ => ⟨rfl, .nil⟩
  | [], _ :: _, _, h, _, _ => by unfold okTgs at h; cases h
  | _ :: _, [], _, h, _, _ => by unfold okTgs at h; cases h
  | t :: ts, e :: te, l, h, hn, hw => by
    unfold okTgs at h
    simp only [Bool.and_eq_true, List.all_cons] at h hn
    have hn1 := hn.1
    cases e <;> first | (cases hn1; done) | skip
    rename_i x p
    rw [List.filterMap_cons] at hw
    simp only at hw
    split at hw
    · rename_i hx
      exfalso
      have h1 := congrArg List.length hw
      have h2 := List.length_filterMap_le (fun e : Expr => (match e with
        | .Name id pos => if (sc.names.lookup id == some .local && pos.line == l) = true then some id else none
        | _ => none)) te
      simp only [List.map_cons, List.length_cons, List.length_map] at h1
      omega
    · rename_i y hy
      split at hy
      · rename_i hc
        simp only [Bool.and_eq_true, beq_iff_eq] at hc
        rw [List.map_cons, List.cons.injEq] at hw
        obtain ⟨a, b⟩ := slots_of g h.2 hn.2 hw.2
        cases t with
        | name i =>
          have h1 := h.1.2
          unfold okTg at h1
          simp only [Bool.and_eq_true] at h1
          refine ⟨by rw [List.map_cons, List.map_cons, ← a]; rfl, ?_⟩
          rw [List.map_cons, List.map_cons]
          exact .cons ⟨by rw [g.g.nm]; exact eq_of_beq h1.1, by rw [g.sce]; exact hc.1⟩ b
        | tup _ => have h1 := h.1.2; unfold okTg at h1; cases h1
      · cases hy
end
end Co
namespace Co
open PySem PySem.Spec PyProof.Rows L2

section
variable {P : Sta} {G : List W} {O : Orc} {XR : XRel} {Wx : WX} {N : List Str} {sc : Scope} {X : Cx}
theorem setAllE_app : ∀ {is : List Nat} {ws : List W} {ρ : En} {i : Nat} {w : W}, is.length = ws.length → setAllE ρ (is ++ [i]) (ws ++ [w]) = (setAllE ρ is ws).set i (some w)
  | [], [], ρ, i, w, _ => rfl
  | [], _ :: _, _, _, _, h => by cases h
  | _ :: _, [], _, _, _, h => by cases h
  | j :: is, v :: ws, ρ, i, w, h => by
    show setAllE (ρ.set j (some v)) (is ++ [i]) (ws ++ [w]) = _
    rw [setAllE_app (Nat.succ.inj h)]
    rfl
theorem setAllE_out : ∀ {is : List Nat} {ws : List W} {ρ : En} {i : Nat} {x : Option W}, i ∉ is → setAllE (ρ.set i x) is ws = (setAllE ρ is ws).set i x
  | [], _, _, _, _, _ => by cases ‹List W› <;> rfl
  | j :: is, [], _, _, _, _ => rfl
  | j :: is, v :: ws, ρ, i, x, h => by
    simp only [List.mem_cons, not_or] at h
    show setAllE ((ρ.set i x).set j (some v)) is ws = (setAllE (ρ.set j (some v)) is ws).set i x
    rw [List.set_comm _ _ h.1, setAllE_out h.2]
theorem setAllE_rev : ∀ {is : List Nat} {ws : List W} {ρ : En}, is.length = ws.length → is.Nodup → setAllE ρ is.reverse ws.reverse = setAllE ρ is ws
  | [], [], _, _, _ => rfl
  | [], _ :: _, _, h, _ => by cases h
  | _ :: _, [], _, h, _ => by cases h
  | j :: is, v :: ws, ρ, h, n => by
    rw [List.nodup_cons] at n
    rw [List.reverse_cons, List.reverse_cons, setAllE_app (by simpa using h), setAllE_rev (Nat.succ.inj h) n.2]
    show _ = setAllE (ρ.set j (some v)) is ws
    rw [setAllE_out n.1]
theorem put_names : ∀ {is : List Nat} {ws : List W} {ρ ρ1 : En}, putTs (is.map Tg.name) ws ρ = some ρ1 → (∀ i ∈ is, i < ρ.length) ∧ ρ1 = setAllE ρ is ws ∧ is.length = ws.length
  | [], [], ρ, ρ1, h => by unfold List.map putTs at h; cases h; exact ⟨(fun j hj => nomatch hj), rfl, rfl⟩
  | [], _ :: _, _, _, h => by unfold List.map putTs at h; cases h
  | _ :: _, [], _, _, h => by rw [List.map_cons] at h; unfold putTs at h; cases h
  | i :: is, w :: ws, ρ, ρ1, h => by
    rw [List.map_cons] at h
    unfold putTs at h
    unfold putT at h
    split at h
    · rename_i hi
      rw [Option.bind_some] at h
      obtain ⟨a, b, c⟩ := put_names h
      refine ⟨fun j hj => ?_, b, by rw [List.length_cons, c, List.length_cons]⟩
      rcases List.mem_cons.mp hj with rfl | hj
      · exact hi
      · simpa using a j hj
    · cases h
theorem slots_nodup {N : List Str} {p : Str → Prop} : ∀ {xs : List Str} {is : List Nat}, Paired (fun x i => N[i]? = some x ∧ p x) xs is → xs.Nodup → is.Nodup := by
  intro xs is h
  induction h with
  | nil => intro _; exact List.nodup_nil
  | @cons x i xs is h t ih =>
    intro n
    rw [List.nodup_cons] at n ⊢
    refine ⟨fun hi => n.1 ?_, ih n.2⟩
    clear ih n
    induction t with
    | nil => cases hi
    | @cons y j ys js h' t' ih' =>
      rcases List.mem_cons.mp hi with e | hi
      · subst e
        have : some x = some y := h.1.symm.trans h'.1
        cases this
        exact List.mem_cons_self ..
      · exact List.mem_cons_of_mem _ (ih' hi)
theorem paired_len {α β : Type} {p : α → β → Prop} {xs : List α} {ys : List β} (h : Paired p xs ys) : xs.length = ys.length := by
  induction h with
  | nil => rfl
  | cons _ _ ih => rw [List.length_cons, ih, List.length_cons]
theorem so_swp (g : GoodS P G O XR Wx N sc X) {ts : List Tg} {te : List Expr} {es : CEs} {vs : List Expr} {k k2 : Nat} {p p2 pos : Pos} (h1 : okTgs N sc ts te = true) (h2 : swSome sc te vs = true) (ha : PA X vs (tEs X.K XR Wx (runEs G O es))) :
    PS X (.Assign [.Tuple te k p] (.Tuple vs k2 p2) pos) (tS X.K XR Wx (runS G O (.asg (.tup ts) (.tup es)))) := by
  have hw : swappedStores [.Tuple te k p] (.Tuple vs k2 p2) X.env = pure (some (te.map idOf)) := sw_some g.kd g.sce h2
  have hs : swapsWithSole [.Tuple te k p] (.Tuple vs k2 p2) pos.line X.env = pure false := rfl
  have h2' := h2
  unfold swSome at h2'
  simp only [Bool.and_eq_true, Bool.not_eq_true', beq_iff_eq, decide_eq_true_eq] at h2'
  obtain ⟨⟨⟨⟨⟨⟨⟨⟨⟨q1, q2⟩, q3⟩, q4⟩, q5⟩, q6⟩, q10⟩, q7⟩, q8⟩, q9⟩ := h2'
  obtain ⟨hts, hp⟩ := slots_of g h1 q8 q9
  have hnd := slots_nodup (p := fun x => X.env.scope.names.lookup x = some .local) hp q10
  have htl := (okTgs_star h1).2
  refine ⟨fun pins s σ H D I ⟨m, S, ρ, hR, eR, P⟩ => ?_⟩
  unfold runS at P
  unfold runE at P
  rw [thenS_bind] at P
  rw [exec_Assign_arm]
  refine wpAny_bind (wpAny_standAt ?_)
  rw [hs]
  refine wpAny_bind (wpAny_pure ?_)
  rw [if_neg (by decide)]
  refine wpAny_bind (Tuple_ (thn (ha.run _ pins s σ H (fun us' H1 => ∃ m1 S1 ws ρ1, HR X.K m1 H1 S1 ∧ ER X.K m1 H1 σ ρ ∧ VRs X.K m1 H1 us' ws ∧ ws.length ≤ sizeLine ∧ putTs ts ws ρ = some ρ1 ∧ PostS X.K XR Wx m1 H1 (some (.next ρ1 S1)) D) I
    ⟨m, S, ρ, hR, eR, PostS.thenE P eR fun m1 H1 S1 xs xs' e1 hR1 eR1 vx P1 => ?_⟩) fun us s1 ⟨vs1, H1, I1, r1, m1, S1, ws, ρ1, hR1, eR1, hv, hz, hput, P1⟩ => ?_))
  · split at P1
    · rename_i hz
      rw [okW_eq, thenS_ok] at P1
      cases hput : putT (.tup ts) (.tup xs') ρ with
      | none => rw [hput] at P1; exact (PostS.none_ P1).elim
      | some ρ1 =>
        rw [hput] at P1
        unfold putT at hput
        exact ⟨m1, S1, xs', ρ1, hR1, eR1, vx, hz, hput, P1⟩
    · exact (PostS.none_ P1).elim
  · rw [hts] at hput
    obtain ⟨a1, a2, a3⟩ := put_names hput
    have hul : us.length = (te.map idOf).length := by
      have z1 := r1.length
      have z2 := hv.length
      have z3 := paired_len hp
      omega
    refine wpAny_newObj_type ?_ (by show us.toArray.size ≤ sizeLine; rw [List.size_toArray, ← r1.length, hv.length]; exact hz)
    have I2 : Inv X pins σ H1 { s1 with heap := s1.heap.push { cls := .type "tuple", data := .seq us.toArray } } := I1.kept (t' := s1.toks) fun b o e => Heap.get?_push_of_some _ e
    rw [hw]
    refine wpAny_bind (wpAny_pure ?_)
    show wpAny (model X.prog X.w) X.A (do rule "assign.swapped-stores"; let items ← unpackItems (.ref s1.heap.objs.size) (te.map idOf).length none; assignInOrder ((te.map idOf).reverse.map fun n => bindName X.env n) items.reverse; pure Flow.next) _ _ _
    refine wpAny_bind (wpAny_rule (wpAny_bind ?_))
    have hsz : (te.map idOf).length = us.toArray.size := by rw [List.size_toArray, hul]
    rw [hsz]
    refine unpackItems_tuple (items := us.toArray) (I.ok.hd g.g.calm) (IsTup.new s1.heap _) fun h' hx' => ?_
    have I3 := I2.kept (h' := h') (t' := s1.toks) fun b o e => hx' b o (Nat.ne_of_lt (Heap.lt_size e)) e
    refine wpAny_bind (bind_all (by rw [g.g.nm]; exact g.g.nd) _ (ts.map slotOf).reverse vs1.reverse _ σ _ I3 (vals_rev r1) (paired_rev hp) (by rw [List.length_reverse, List.length_reverse]; exact hul.symm) fun s' I4 => wpAny_pure ⟨_, H1, I4, ?_⟩)
    refine P1 m1 H1 _ .refl hR1 ?_
    rw [a2, ← setAllE_rev a3 hnd]
    exact setAll_ER eR1 (vrs_rev hv) fun i hi => a1 i (by simpa using hi)
theorem sole_of {tg e : Expr} {l : Nat} {env : Env} : swapsWithSole [tg] e l env = swapsWith e (some tg) l env := rfl
theorem sw_name_noComp {x : Str} {p : Pos} {e : Expr} {l : Nat} {env : Env} (h : noComp e = true) : swapsWith e (some (.Name x p)) l env = pure false := swap_of h _ _
theorem sw_tup {ts : List Expr} {k : Nat} {p : Pos} {e : Expr} {l : Nat} {env : Env} : swapsWith e (some (.Tuple ts k p)) l env = pure false := by cases e <;> rfl
theorem sws_name {x : Str} {p : Pos} {e : Expr} {env : Env} : swappedStores [.Name x p] e env = pure none := rfl
theorem sws_tup {ts : List Expr} {k : Nat} {p : Pos} {e : Expr} {env : Env} (h : noTup e = true) : swappedStores [.Tuple ts k p] e env = pure none := by cases e <;> first | rfl | (cases h)
theorem assign_one {te : Expr} {env : Env} (h : notStar te = true) : (assignEach [te] env).map (·.2) = [assign te env] := by rw [notStar_assign h]; rfl
theorem so_asg_c (hP : StaOk P) (g : GoodS P G O XR Wx N sc X) {i : Nat} {e' : CE} {tg : Tg} {it : CI} {c : CO} {own : List Nat} {x : Str} {p pos spos : Pos} {elt : Expr} {gen : Comprehension} {scope : Scope} (h1 : okTg N sc (.name i) (.Name x p) = true)
    (h2 : okE P N sc (.comp e' tg it c own) (.ListComp elt [gen] scope pos) = true) : PS X (.Assign [.Name x p] (.ListComp elt [gen] scope pos) spos) (tS X.K XR Wx (runS G O (.asg (.name i) (.comp e' tg it c own)))) := by
  have pe := (sE hP (.comp e' tg it c own) Wx sc X _ g.g h2).1
  have pg := so_g g.g (.name i) (.Name x p) h1
  by_cases hc : ((p.line == pos.line) = true ∧ sc.names.lookup x = some .local) ∧ (scope.names.any fun (n, k) => n == x && (k == .local || k == .cell)) = false
  · have hk : X.env.scope.kind = .function := by rw [g.sce]; exact g.kd
    have hl : X.env.scope.names.lookup x = some .local := by rw [g.sce]; exact hc.1.2
    have hsw := sw_true (elt := elt) (gs := [gen]) (l := spos.line) hk hl hc.1.1 hc.2
    obtain ⟨te, ie, ifs, ia⟩ := gen
    unfold okTg at h1
    simp only [Bool.and_eq_true] at h1
    unfold okE at h2
    simp only [Bool.and_eq_true] at h2
    obtain ⟨⟨⟨⟨⟨⟨⟨⟨a1, a2⟩, a3⟩, a4⟩, a5⟩, a6⟩, a7⟩, a8⟩, a9⟩ := h2
    cases (eq_of_beq a1)
    have hi := sI hP it Wx sc X te ie g.g a7
    have hcc := fun X' g' => (sO (G := G) (O := O) (XR := XR) hP c WxF scope X' g').2 ifs a8
    have hee := fun X' g' => (sE (G := G) (O := O) (XR := XR) hP e' WxF scope X' elt g' a9).1
    have key := (so_comp (pos := pos) g.g a2 a3 a4 a5 a6 hi hcc hee).2
    have ok : BlkOk X.N X.env.scope scope (ownN N own) := by
      have bk := blkOk_by a2
      rw [g.g.nm, g.sce]
      exact bk
    refine PS.weak (ps_setLc (i := i) (wi := iR X.K XR Wx (runI G O it)) (g := gR X.K tg) (tt := tT X.K XR WxF (runOT G O c)) (te := tE X.K XR WxF (runE G O e')) g.g.calm (by rw [g.g.nm]; exact g.g.nd) (by rw [g.g.nm]; exact eq_of_beq h1.1) hl hsw hi ok (fun s H C cl fp => so_g (goodBlk g.g s H C cl fp) tg te a6) (fun s H C cl fp => hcc _ (goodBlk g.g s H C cl fp)) (fun s H C cl fp => hee _ (goodBlk g.g s H C cl fp)) (fun x => fold_of a4 x)) ?_
    intro D σ H q
    have q1 := asg_core D σ H q
    refine key _ _ _ ?_
    obtain ⟨m, S, ρ, hR, eR, P⟩ := q
    unfold runS at P
    refine ⟨m, S, ρ, hR, eR, PostS.thenE P eR fun m1 H1 S1 y y' e1 hR1 eR1 vy P1 => ?_⟩
    unfold putT at P1
    split at P1
    · rename_i hi'
      exact P1 m1 H1 _ .refl hR1 (eR1.set vy hi')
    · exact (PostS.none_ P1).elim
  · have hsw : swapsWith (.ListComp elt [gen] scope pos) (some (.Name x p)) spos.line X.env = pure false := by
      have hb : X.env.blockKind = .function := by unfold Env.blockKind; rw [g.sce, g.kd]; rfl
      have hky : X.env.kindOf x = sc.names.lookup x := by unfold Env.kindOf; rw [g.sce]
      unfold swapsWith
      simp only [hb, hky, Expr.pos]
      show pure _ = pure false
      congr 1
      rw [Bool.eq_false_iff]
      intro z
      apply hc
      simp only [Bool.and_eq_true, Bool.not_eq_true', beq_iff_eq] at z
      exact ⟨⟨by rw [z.1.2]; exact beq_self_eq_true _, z.1.1.2⟩, z.2⟩
    exact PS.weak (ps_asg pe pg hsw sws_name (assign_one rfl)) asg_core
theorem so_asg (hP : StaOk P) (g : GoodS P G O XR Wx N sc X) {t : Tg} {e : CE} {te ev : Expr} {pos : Pos} (h1 : okTg N sc t te = true) (h2 : okE P N sc e ev = true) (h3 : asgB sc te ev = true) : PS X (.Assign [te] ev pos) (tS X.K XR Wx (runS G O (.asg t e))) := by
  have pe := (sE hP e Wx sc X _ g.g h2).1
  have pg := so_g g.g t te h1
  cases te with
  | Name x p =>
    by_cases hn : noComp ev = true
    · exact PS.weak (ps_asg pe pg (by rw [sole_of]; exact sw_name_noComp hn) sws_name (assign_one rfl)) asg_core
    · have h3' : (noComp ev || isLC ev) = true := h3
      rw [Bool.not_eq_true] at hn
      rw [hn, Bool.false_or] at h3'
      cases ev with
      | ListComp elt gens scope pos' =>
        match gens, h2, h3', pe with
        | [gen], h2, _, pe =>
          cases t with
          | tup _ => unfold okTg at h1; cases h1
          | name i =>
            cases e with
            | comp e' tg it c own => exact so_asg_c hP g h1 h2
            | _ => unfold okE at h2; cases h2
        | [], _, h, _ => cases h
        | _ :: _ :: _, _, h, _ => cases h
      | _ => cases h3'
  | Tuple ts k p =>
    by_cases hn : noTup ev = true
    · exact PS.weak (ps_asg pe pg (by rw [sole_of]; exact sw_tup) (sws_tup hn) (assign_one rfl)) asg_core
    · cases ev with
      | Tuple vs k2 p2 =>
        have h3' : (swNone sc ts vs || swSome sc ts vs) = true := h3
        by_cases hn2 : swNone sc ts vs = true
        · exact PS.weak (ps_asg pe pg (by rw [sole_of]; exact sw_tup) (sw_none g.kd g.sce hn2) (assign_one rfl)) asg_core
        · rw [Bool.not_eq_true] at hn2
          rw [hn2, Bool.false_or] at h3'
          cases t with
          | name i => unfold okTg at h1; cases h1
          | tup ts' =>
            unfold okTg at h1
            cases e with
            | tup es =>
              unfold okE at h2
              exact so_swp g h1 h3' (sEs hP es Wx sc X _ g.g h2).1
            | _ => unfold okE at h2; cases h2
      | _ => exact absurd rfl hn
  | _ => cases h3
end
end Co
namespace Co
open PySem PySem.Spec PyProof.Rows L2

section
variable {K : PySem.W.Frag} {XR : XRel} {Wx : WX} {m : List Addr} {H : Hp}
theorem PostS.turn {r : Option RT} {f : En → Sto → Option RT} {D : Ends} {Nx : L2.St → Hp → Prop} (h : PostS K XR Wx m H (turnS r f) D) (k : ∀ ρ S m' H' σ', Ext K m H m' H' → HR K m' H' S → ER K m' H' σ' ρ → PostS K XR Wx m' H' (f ρ S) D → Nx σ' H') :
    PostS K XR Wx m H r { D with nx := Nx, ct := Nx, bk := D.nx } := by
  cases r with
  | none => exact h
  | some t => cases t with
    | next ρ S => exact fun m1 H1 σ1 e hR eR => k ρ S m1 H1 σ1 e hR eR (PostS.ext h e)
    | cont ρ S => exact fun m1 H1 σ1 e hR eR => k ρ S m1 H1 σ1 e hR eR (PostS.ext h e)
    | brk ρ S => exact h
    | ret w S => exact h
    | ex c fs ρ S => exact h
theorem PostS.seq {r : Option RT} {f : En → Sto → Option RT} {D : Ends} (h : PostS K XR Wx m H (seqS r f) D) : PostS K XR Wx m H r { D with nx := tS K XR Wx f D } := by
  cases r with
  | none => exact h
  | some t => cases t with
    | next ρ S => exact fun m1 H1 σ1 e hR eR => ⟨m1, S, ρ, hR, eR, PostS.ext h e⟩
    | cont ρ S => exact h
    | brk ρ S => exact h
    | ret w S => exact h
    | ex c fs ρ S => exact h
end
theorem forL_stays {put : W → En → Option En} {body : En → Sto → Option RT} {st : Sto → Prop} {ws : List W} {ρ : En} {S : Sto} (h : forL put body st ws ρ S ≠ none) : st S := by
  cases ws with
  | nil =>
    unfold forL at h
    split at h
    · assumption
    · exact absurd rfl h
  | cons w ws =>
    unfold forL at h
    split at h
    · assumption
    · exact absurd rfl h
theorem postS_some {K : PySem.W.Frag} {XR : XRel} {Wx : WX} {m : List Addr} {H : Hp} {r : Option RT} {D : Ends} (h : PostS K XR Wx m H r D) : r ≠ none := fun e => by
  rw [e] at h
  exact h
section
variable {P : Sta} {G : List W} {O : Orc} {XR : XRel} {Wx : WX} {N : List Str} {sc : Scope} {X : Cx}
theorem so_while (g : GoodS P G O XR Wx N sc X) {c : CE} {a : CSs} {ec : Expr} {sa : List Stmt} {pos : Pos} (hc : PT X ec (tT X.K XR Wx (runT G O c))) (ha : PSs X sa (tS X.K XR Wx (runSs G O a))) : PS X (.While ec sa [] pos) (tS X.K XR Wx (runS G O (.whil c a))) := by
  refine PS.weak (ps_while g.own hc ha) ?_
  rintro D σ H ⟨m, S, ρ, hR, eR, P⟩
  unfold runS at P
  cases hx : whileW (runT G O c) (fun ρ' S' => runSs G O a ρ' S') ρ S with
  | none => rw [hx] at P; exact (PostS.none_ P).elim
  | some x =>
    obtain ⟨n, hn⟩ := whileW_some hx
    rw [hx, ← hn] at P
    refine ⟨fun n σ H => ∃ m S ρ, HR X.K m H S ∧ ER X.K m H σ ρ ∧ PostS X.K XR Wx m H (whileN (runT G O c) (fun ρ' S' => runSs G O a ρ' S') n ρ S) D, ⟨n, m, S, ρ, hR, eR, P⟩, ?_⟩
    rintro n σ H ⟨m, S, ρ, hR, eR, P⟩
    cases n with
    | zero => exact (PostS.none_ P).elim
    | succ n =>
      unfold whileN at P
      refine ⟨m, S, ρ, hR, eR, PostS.thenE P eR fun m1 H1 S1 b b' e1 hR1 eR1 vb P1 => ?_⟩
      have vb' : b = b' := vb
      subst vb'
      cases b with
      | false => exact P1 m1 H1 σ .refl hR1 eR1
      | true => exact ⟨_, fun σ' H' z => ⟨n, Nat.lt_succ_self n, z⟩, m1, S1, ρ, hR1, eR1, PostS.turn P1 fun ρ2 S2 m2 H2 σ2 e2 hR2 eR2 P2 => ⟨m2, S2, ρ2, hR2, eR2, P2⟩⟩
theorem so_for (g : GoodS P G O XR Wx N sc X) {t : Tg} {it : CI} {a : CSs} {te ie : Expr} {sa : List Stmt} {pos : Pos} (hst : notStar ie = true) (ht : okTg N sc t te = true) (hi : PI X te ie (iR X.K XR Wx (runI G O it))) (ha : PSs X sa (tS X.K XR Wx (runSs G O a))) :
    PS X (.For te ie sa [] pos) (tS X.K XR Wx (runS G O (.for_ t it a))) := by
  refine PS.weak (ps_for g.own g.g.calm hi (so_g g.g t te ht) ha (fun x => fold_of hst x)) ?_
  rintro D σ H ⟨m, S, ρ, hR, eR, P⟩
  unfold runS at P
  refine ⟨m, S, ρ, hR, eR, PostS.thenE P eR fun m1 H1 S1 J j e1 hR1 eR1 hJ P1 => ?_⟩
  obtain ⟨Gd, Y, w, k⟩ := hJ
  refine for_it w (fun i σ' H' => ∃ m' S' ρ', Ext X.K m1 H1 m' H' ∧ HR X.K m' H' S' ∧ ER X.K m' H' σ' ρ' ∧ PostS X.K XR Wx m' H' (forL (putT t) (fun ρ' S' => runSs G O a ρ' S') j.stays (j.items.drop i) ρ' S') D) ?_ ?_ ?_ ?_
  · exact ⟨m1, S1, ρ, .refl, hR1, eR1, P1⟩
  · rintro i σ' H' hi' ⟨m', S', ρ', ex, hR', eR', P2⟩
    exact (k m' H' S' ex hR' (forL_stays (postS_some P2))).1
  · rintro i x σ' H2 H3 hi' ⟨m', S', ρ', ex, hR', eR', P2⟩ hy
    obtain ⟨w', hw, ex2, hR2, vx⟩ := (k m' H2 S' ex hR' (forL_stays (postS_some P2))).2 i x H3 hi' hy
    have hd : j.items.drop i = w' :: j.items.drop (i + 1) := by
      rw [List.drop_eq_getElem_cons hi']
      rw [List.getElem?_eq_getElem hi'] at hw
      rw [Option.some.inj hw]
    rw [hd] at P2
    unfold forL at P2
    split at P2
    · split at P2
      · rename_i hst' ρ1 hput
        have P2 := PostS.ext P2 ex2
        refine ⟨m', S', w', ρ', ρ1, hR2, eR'.ext ex2, vx, hput, fun σ1 eR1 _ => ⟨m', S', ρ1, hR2, eR1, PostS.turn P2 fun ρ2 S2 m3 H4 σ2 e3 hR3 eR3 P3 => ⟨m3, S2, ρ2, ex.trans (ex2.trans e3), hR3, eR3, P3⟩⟩⟩
      · exact (PostS.none_ P2).elim
    · exact (PostS.none_ P2).elim
  · rintro σ' H' ⟨m', S', ρ', ex, hR', eR', P2⟩
    rw [List.drop_length] at P2
    unfold forL at P2
    split at P2
    · exact P2 m' H' σ' .refl hR' eR'
    · exact (PostS.none_ P2).elim
theorem so_setIx (g : GoodS P G O XR Wx N sc X) {o i e : CE} {eo ei ev : Expr} {p pos : Pos} (ho : PE X eo (tE X.K XR Wx (runE G O o))) (hi : PE X ei (tE X.K XR Wx (runE G O i))) (he : PE X ev (tE X.K XR Wx (runE G O e))) :
    PS X (.Assign [.Subscript eo ei p] ev pos) (tS X.K XR Wx (runS G O (.setIx o i e))) := by
  refine ⟨fun pins s σ H D I ⟨m, S, ρ, hR, eR, P⟩ => ?_⟩
  unfold runS at P
  have hu : X.A.units + 1 < cLine := by have := g.g.hu; omega
  refine wpAny_Assign_Subscript (thn (he.run pins s σ H (fun v H1 => ∃ m1 S1 w, HR X.K m1 H1 S1 ∧ ER X.K m1 H1 σ ρ ∧ VR X.K m1 H1 v w ∧ PostS X.K XR Wx m1 H1 (thenS (runE G O o ρ S1) ρ fun x S2 => thenS (runE G O i ρ S2) ρ fun k S3 => (setW S3 x k w).map fun S4 => .next ρ S4) D) I
    ⟨m, S, ρ, hR, eR, PostS.thenE P eR fun m1 H1 S1 x x' e1 hR1 eR1 vx P1 => ⟨m1, S1, x', hR1, eR1, vx, P1⟩⟩) fun u s1 ⟨v, H1, I1, rv, m1, S1, w, hR1, eR1, vw, P1⟩ => ?_) (by cases ev <;> rfl)
  refine thn (ho.run pins s1 σ H1 (fun o' H2 => ∃ m2 S2 x, HR X.K m2 H2 S2 ∧ ER X.K m2 H2 σ ρ ∧ VR X.K m2 H2 v w ∧ VR X.K m2 H2 o' x ∧ PostS X.K XR Wx m2 H2 (thenS (runE G O i ρ S2) ρ fun k S3 => (setW S3 x k w).map fun S4 => .next ρ S4) D) I1
    ⟨m1, S1, ρ, hR1, eR1, PostS.thenE P1 eR1 fun m2 H2 S2 x x' e2 hR2 eR2 vx P2 => ⟨m2, S2, x', hR2, eR2, vw.ext e2, vx, P2⟩⟩) fun ou s2 ⟨o', H2, I2, ro, m2, S2, x, hR2, eR2, vw2, vo, P2⟩ => ?_
  refine thn (hi.run pins s2 σ H2 (fun i' H3 => ∃ m3 S3 k, HR X.K m3 H3 S3 ∧ ER X.K m3 H3 σ ρ ∧ VR X.K m3 H3 v w ∧ VR X.K m3 H3 o' x ∧ VR X.K m3 H3 i' k ∧ PostS X.K XR Wx m3 H3 ((setW S3 x k w).map fun S4 => .next ρ S4) D) I2
    ⟨m2, S2, ρ, hR2, eR2, PostS.thenE P2 eR2 fun m3 H3 S3 y y' e3 hR3 eR3 vy P3 => ⟨m3, S3, y', hR3, eR3, vw2.ext e3, vo.ext e3, vy, P3⟩⟩) fun iu s3 ⟨i', H3, I3, ri, m3, S3, k, hR3, eR3, vw3, vo3, vi3, P3⟩ => ?_
  cases hs : setW S3 x k w with
  | none => rw [hs] at P3; exact (PostS.none_ P3).elim
  | some S4 =>
    rw [hs] at P3
    exact thn (set_core hu pins s3 σ H3 o' i' v ou iu u (fun H4 => D.nx σ H4) I3 ro ri rv ⟨m3, S3, x, k, w, S4, hR3, vo3, vi3, vw3, hs, fun H4 e4 hR4 => P3 m3 H4 σ e4 hR4 (eR3.ext e4)⟩) fun _ s4 ⟨H4, I4, q⟩ => ⟨σ, H4, I4, q⟩
def SS (P : Sta) (G : List W) (O : Orc) (XR : XRel) (N : List Str) (c : CS) : Prop := ∀ (Wx : WX) (sc : Scope) (X : Cx) (st : Stmt), GoodS P G O XR Wx N sc X → okS P N sc c st = true → PS X st (tS X.K XR Wx (runS G O c))
def SSs (P : Sta) (G : List W) (O : Orc) (XR : XRel) (N : List Str) (c : CSs) : Prop := ∀ (Wx : WX) (sc : Scope) (X : Cx) (sts : List Stmt), GoodS P G O XR Wx N sc X → okSs P N sc c sts = true → PSs X sts (tS X.K XR Wx (runSs G O c))
mutual
theorem sS (hP : StaOk P) : ∀ c : CS, SS P G O XR N c
  | .asg t e => fun Wx sc X st g h => by
    cases st with
    | Assign tes ev pos =>
      match tes, h with
      | [te], h =>
        unfold okS at h
        simp only [Bool.and_eq_true] at h
        exact so_asg hP g h.1.1 h.1.2 h.2
      | [], h => unfold okS at h; cases h
      | _ :: _ :: _, h => unfold okS at h; cases h
    | _ => unfold okS at h; cases h
  | .setIx o i e => fun Wx sc X st g h => by
    cases st with
    | Assign tes ev pos =>
      match tes, h with
      | [te], h =>
        cases te with
        | Subscript eo ei p =>
          unfold okS at h
          simp only [Bool.and_eq_true] at h
          exact so_setIx g (sE hP o Wx sc X eo g.g h.1.1.2).1 (sE hP i Wx sc X ei g.g h.1.2).1 (sE hP e Wx sc X ev g.g h.2).1
        | _ => unfold okS at h; cases h
      | [], h => unfold okS at h; cases h
      | a :: _ :: _, h => unfold okS at h; cases a <;> cases h
    | _ => unfold okS at h; cases h
  | .expr e => fun Wx sc X st g h => by
    cases st with
    | Expr ev pos =>
      unfold okS at h
      simp only [Bool.and_eq_true] at h
      refine PS.weak (ps_expr (sE hP e Wx sc X ev g.g h.2).1 (swap_of h.1 _ _)) ?_
      rintro D σ H ⟨m, S, ρ, hR, eR, P⟩
      unfold runS at P
      exact ⟨m, S, ρ, hR, eR, PostS.thenE P eR fun m1 H1 S1 x x' e1 hR1 eR1 vx P1 => P1 m1 H1 σ .refl hR1 eR1⟩
    | _ => unfold okS at h; cases h
  | .doc => fun Wx sc X st g h => by
    have fin : ∀ D σ H, tS X.K XR Wx (runS G O .doc) D σ H → tNext D σ H := by
      rintro D σ H ⟨m, S, ρ, hR, eR, P⟩
      unfold runS at P
      exact P m H σ .refl hR eR
    cases st with
    | Expr ev pos =>
      cases ev with
      | Constant k j p =>
        cases k with
        | str x => exact PS.weak ps_doc fin
        | _ => unfold okS at h; cases h
      | _ => unfold okS at h; cases h
    | _ => unfold okS at h; cases h
  | .ret e => fun Wx sc X st g h => by
    cases st with
    | Return ev pos =>
      cases ev with
      | none => unfold okS at h; cases h
      | some ev =>
        unfold okS at h
        refine PS.weak (ps_ret (sE hP e Wx sc X ev g.g h).1) ?_
        rintro D σ H ⟨m, S, ρ, hR, eR, P⟩
        unfold runS at P
        exact ⟨m, S, ρ, hR, eR, PostS.thenE P eR fun m1 H1 S1 x x' e1 hR1 eR1 vx P1 => P1 m1 H1 x .refl hR1 vx⟩
    | _ => unfold okS at h; cases h
  | .retN => fun Wx sc X st g h => by
    cases st with
    | Return ev pos =>
      cases ev with
      | some _ => unfold okS at h; cases h
      | none =>
        refine PS.weak ps_retN ?_
        rintro D σ H ⟨m, S, ρ, hR, eR, P⟩
        unfold runS at P
        exact P m H .non .refl hR .non
    | _ => unfold okS at h; cases h
  | .ife c a b => fun Wx sc X st g h => by
    cases st with
    | If ec sa sb pos =>
      unfold okS at h
      simp only [Bool.and_eq_true] at h
      refine PS.weak (ps_if (sE hP c Wx sc X ec g.g h.1.1).2 (sSs hP a Wx sc X sa g h.1.2) (sSs hP b Wx sc X sb g h.2)) ?_
      rintro D σ H ⟨m, S, ρ, hR, eR, P⟩
      unfold runS at P
      refine ⟨m, S, ρ, hR, eR, PostS.thenE P eR fun m1 H1 S1 k k' e1 hR1 eR1 vk P1 => ?_⟩
      have vk' : k = k' := vk
      subst vk'
      cases k with
      | true => exact ⟨m1, S1, ρ, hR1, eR1, P1⟩
      | false => exact ⟨m1, S1, ρ, hR1, eR1, P1⟩
    | _ => unfold okS at h; cases h
  | .whil c a => fun Wx sc X st g h => by
    cases st with
    | While ec sa el pos =>
      cases el with
      | nil =>
        unfold okS at h
        simp only [Bool.and_eq_true] at h
        exact so_while g (sE hP c Wx sc X ec g.g h.1).2 (sSs hP a Wx sc X sa g h.2)
      | cons _ _ => unfold okS at h; cases h
    | _ => unfold okS at h; cases h
  | .for_ t it a => fun Wx sc X st g h => by
    cases st with
    | For te ie sa el pos =>
      cases el with
      | nil =>
        unfold okS at h
        simp only [Bool.and_eq_true] at h
        exact so_for g h.1.1.1 h.1.1.2 (sI hP it Wx sc X te ie g.g h.1.2) (sSs hP a Wx sc X sa g h.2)
      | cons _ _ => unfold okS at h; cases h
    | _ => unfold okS at h; cases h
  | .pass => fun Wx sc X st g h => by
    cases st with
    | Pass pos =>
      refine PS.weak ps_pass ?_
      rintro D σ H ⟨m, S, ρ, hR, eR, P⟩
      unfold runS at P
      exact P m H σ .refl hR eR
    | _ => unfold okS at h; cases h
  | .brk => fun Wx sc X st g h => by
    cases st with
    | Break pos =>
      refine PS.weak ps_break ?_
      rintro D σ H ⟨m, S, ρ, hR, eR, P⟩
      unfold runS at P
      exact P m H σ .refl hR eR
    | _ => unfold okS at h; cases h
  | .cont => fun Wx sc X st g h => by
    cases st with
    | Continue pos =>
      refine PS.weak ps_continue ?_
      rintro D σ H ⟨m, S, ρ, hR, eR, P⟩
      unfold runS at P
      exact P m H σ .refl hR eR
    | _ => unfold okS at h; cases h
  | .stuck => fun Wx sc X st g h => ⟨fun pins s σ H D I ⟨m, S, ρ, hR, eR, P⟩ => by unfold runS at P; exact (PostS.none_ P).elim⟩
theorem sSs (hP : StaOk P) : ∀ c : CSs, SSs P G O XR N c
  | .nil => fun Wx sc X sts g h => by
    cases sts with
    | nil =>
      refine PSs.weak pss_nil ?_
      rintro D σ H ⟨m, S, ρ, hR, eR, P⟩
      unfold runSs at P
      exact P m H σ .refl hR eR
    | cons _ _ => unfold okSs at h; cases h
  | .cons c cs => fun Wx sc X sts g h => by
    cases sts with
    | nil => unfold okSs at h; cases h
    | cons st sts =>
      unfold okSs at h
      simp only [Bool.and_eq_true] at h
      refine PSs.weak (pss_cons (sS hP c Wx sc X st g h.1) (sSs hP cs Wx sc X sts g h.2)) ?_
      rintro D σ H ⟨m, S, ρ, hR, eR, P⟩
      unfold runSs at P
      exact ⟨m, S, ρ, hR, eR, PostS.seq P⟩
end
end
end Co
namespace Co
open PySem PySem.Spec PyProof.Rows L2

/-! ### a def by its core -/
/-- what is told of the def i: its object, its text, its core -/
structure DefOk (K : PySem.W.Frag) (mg : Str → Option Value) (P : Sta) (F : List FD) (i : Nat) (x : Str) (ps : List Str) (f : Addr) (fd : FuncData) : Prop where
  mgx : mg x = some (.ref f)
  keep : PySem.W.keepIn K (.ref f) = true
  body : ∃ (qual : Str) (oc : Value) (od : Option Addr) (st : Stmt) (kV doc pm : Value) (an : Option Addr) (cdv ct : Value) (osl : Array (Option Value)) (N : List Str) (c : FD), fd = PySem.W.fnOf x qual (defArgs st) (defBody st) (defScope st) .none kV doc pm an cdv ct ∧
    K.lookup f = some ⟨oc, od, .func fd, osl⟩ ∧ PySem.W.codeIn K cdv qual = true ∧ FnScope N ps (defScope st) ∧ F[i]? = some c ∧ c.arity = ps.length ∧ c.slots = N.length ∧ okSs P N (defScope st) c.body (defBody st) = true
  binds : Binds K fd ps []
  kws : ∀ (n : Nat) (ks : List Str) (perm : List Nat), (i, n, ks, perm) ∈ P.kws → ∀ (s : Shared) (us ws : List Value), K.In s.heap → us.length = n → ws.length = ks.length → BindsTo s fd ⟨us, ks.zip ws⟩ (ps.zip (us ++ perm.filterMap (ws[·]?)))
/-- what is told of a constant -/
def GOk (K : PySem.W.Frag) (mg : Str → Option Value) (x : Str) (w : W) : Prop := ∃ v u, mg x = some u ∧ RelV v u ∧ ∀ m H, VR K m H v w
structure ModOk (K : PySem.W.Frag) (mg : Str → Option Value) (P : Sta) (G : List W) (F : List FD) : Prop where
  sta : StaOk P
  blt : ∀ x ∈ bltNames, mg x = none
  glo : ∀ (i : Nat) (x : Str), P.glos[i]? = some x → ∃ w, G[i]? = some w ∧ GOk K mg x w
  fns : ∀ (i : Nat) (x : Str) (ps : List Str), P.fns[i]? = some (x, ps) → ∃ f fd, DefOk K mg P F i x ps f fd
theorem start_ER {K : PySem.W.Frag} {m : List Addr} {H : Hp} {N : List Str} {vs : List V} {ws : List W} (r : VRs K m H vs ws) : ER K m H (L2.start N vs) (startE N.length ws) := by
  have hl := r.length
  constructor
  · unfold L2.start startE
    simp [hl]
  · intro i w h
    unfold startE at h
    by_cases hi : i < ws.length
    · rw [List.getElem?_append_left (by simpa using hi), List.getElem?_map] at h
      cases e : ws[i]? with
      | none => rw [e] at h; cases h
      | some w' =>
        rw [e] at h
        cases h
        obtain ⟨v, q1, q2⟩ := r.get e
        refine ⟨v, ?_, q2⟩
        unfold L2.start
        rw [List.getElem?_append_left (by rw [List.length_map, hl]; exact hi), List.getElem?_map, q1]
        rfl
    · rw [List.getElem?_append_right (by simpa using hi), List.getElem?_replicate] at h
      split at h <;> cases h
theorem back_post {K : PySem.W.Frag} {XR : XRel} {m : List Addr} {H : Hp} {E : XK} {r : Option RT} {Q : VK} (h : Post K XR (fun cls d _ H => E cls d H) m H [] (VR K) (backW r) Q) :
    PostS K XR (fun cls d _ H => E cls d H) m H r { nx := fun _ H' => Q .non H', rt := Q } := by
  cases r with
  | none => exact h
  | some t => cases t with
    | next ρ S => exact fun m' H' σ' e hR _ => h m' H' .non e hR .non
    | ret w S => exact fun m' H' v e hR hv => h m' H' v e hR hv
    | brk ρ S => exact (Post.none_ h).elim
    | cont ρ S => exact (Post.none_ h).elim
    | ex c fs ρ S => exact fun m' H' σ' cls d e hR _ hx => h m' H' cls d e hR hx
theorem level {Pg : Program} {w : World} {K : PySem.W.Frag} {mg : Str → Option Value} {base : Heap} {P : Sta} {G : List W} {F : List FD} {XR : XRel} (M : ModOk K mg P G F) : ∀ (d i : Nat) (x : Str) (ps : List Str) (f : Addr) (fd : FuncData), P.fns[i]? = some (x, ps) → DefOk K mg P F i x ps f fd →
    FnG Pg w K mg base (CX Pg w) d f fd ps (spO K XR (callAt G F d) ps.length i) := by
  intro d
  induction d with
  | zero =>
    intro i x ps f fd hi D
    refine ⟨fun vs H Q E h => h.1, fun A outer s H args us vs Q E hr e0 bd rel h => ?_⟩
    obtain ⟨_, m, S, ws, hR, hv, P⟩ := h
    unfold callAt at P
    exact (Post.none_ P).elim
  | succ d ih =>
    intro i x ps f fd hi D
    obtain ⟨qual, oc, od, st, kV, doc, pm, an, cdv, ct, osl, N, c, rfl, lk, cd, scp, hc, ha, hsl, hok⟩ := D.body
    refine fnG_of lk cd scp (fun vs H Q E h => h.1) fun A outer s H vs Q E hr h => ?_
    obtain ⟨hl, m, S, ws, hR, hv, Ps⟩ := h
    have g : GoodS P G (callAt G F d) XR (fun cls d _ H => E cls d H) N (defScope st) (cxOf (CX Pg w) Pg w K mg base N qual (defScope st) f cdv A outer s H E) := by
      refine ⟨scp.kind, rfl, passes_of rfl, ?_⟩
      refine ⟨fun _ _ => rfl, rfl, scp.nd, fun x k hx => ⟨fun _ => hx, fun e => .inl (by rw [← e]; exact hx)⟩, rfl, M.blt, fun j y hj => ?_, ⟨d, hr, fun j y qs hj => ?_⟩, takes_of rfl rfl rfl rfl⟩
      · obtain ⟨w', h1, v, u, h2, h3, h4⟩ := M.glo j y hj
        exact ⟨v, u, w', h2, h3, h1, h4⟩
      · obtain ⟨f', fd', D'⟩ := M.fns j y qs hj
        exact ⟨f', fd', D'.mgx, D'.keep, D'.binds, ih j y qs f' fd' hj D', D'.kws⟩
    refine ⟨_, sSs M.sta c.body _ _ _ _ g hok, m, S, startE N.length ws, hR, start_ER hv, ?_⟩
    unfold callAt at Ps
    simp only [hc] at Ps
    rw [if_pos (by rw [ha, ← hl, hv.length]), hsl] at Ps
    exact back_post Ps

/-! ### the law's call -/
/-- what is known at the start: the table of modules, and u of the script (or nothing) -/
def known (ob : Obj) (a : Addr) (u : Option HO) : Hp := fun b => if b = sysModules then some (.frz ob (.ext fun _ => True)) else if b = a then u else none
theorem known_sys {ob : Obj} {a : Addr} {u : Option HO} : known ob a u sysModules = some (.frz ob (.ext fun _ => True)) := if_pos rfl
theorem known_a {ob : Obj} {a : Addr} {u : Option HO} (h : a ≠ sysModules) : known ob a u a = u := by
  unfold known
  rw [if_neg h, if_pos rfl]
theorem known_some {ob : Obj} {a b : Addr} {u : Option HO} {z : HO} (h : known ob a u b = some z) : (b = sysModules ∧ z = .frz ob (.ext fun _ => True)) ∨ (b = a ∧ u = some z) := by
  unfold known at h
  split at h
  · rename_i e
    exact .inl ⟨e, (Option.some.inj h).symm⟩
  · split at h
    · rename_i e
      exact .inr ⟨e, h⟩
    · cases h
/-- the written part and the names, seen without what H tells of -/
theorem ground {K : PySem.W.Frag} {mg mb : Str → Option Value} {h : Heap} {H : Hp} (kin : K.In h) (hns : h.Ns mainGlobals mg) (hb : h.Ns builtinsNs mb) (hbb : ∀ x : Str, x ≠ "__name__" → mb x = bootBuiltins x) (hlim : h.NoLimit)
    (kf : ∀ b o, K.lookup b = some o → H b = none) (df : ∀ b o es ep, h.get? b = some o → o.data = .dict es ep → b ≠ sysModules → H b = none) : Mod K mg (hidT h H) := by
  have ns : ∀ {b : Addr} {m : Str → Option Value}, b ≠ sysModules → h.Ns b m → (hidT h H).Ns b m := by
    rintro b m hne ⟨o, es, ep, e, d, r⟩
    exact ⟨o, es, ep, hidT_get e (df b o es ep e d hne), d, r⟩
  obtain ⟨mc, l1, l2⟩ := hlim
  exact ⟨fun b o e => hidT_get (kin b o e) (kf b o e), ns (by decide) hns, ⟨mb, ns (by decide) hb, hbb⟩, ⟨mc, ns (by decide) l1, l2⟩⟩
/-- the script handed in: ns as the cell 0 -/
theorem script_HR {K : PySem.W.Frag} {H : Hp} {a : Addr} {ns : List Int} (hS : SysH H) (h : SqL K H a (ns.map V.int)) : HR K [a] H [.lst false (ns.map W.int)] := by
  have vi : VRs K [a] H (ns.map V.int) (ns.map W.int) := by
    clear h
    induction ns with
    | nil => exact .nil
    | cons n ns ih => exact .cons (.int n) ih
  refine ⟨rfl, fun n n' b o o' h1 h2 h3 h4 hne => ?_, fun n b o h1 h2 => ?_, hS⟩
  · have z : ∀ {k : Nat} {b : Addr}, [a][k]? = some b → k = 0 := fun {k b} e => by
      cases k with
      | zero => rfl
      | succ k => simp at e
    exact absurd ((z h1).trans (z h2).symm) hne
  · cases n with
    | succ n => simp at h1
    | zero =>
      simp at h1 h2
      subst h1 h2
      rcases h with h | ⟨o, its, n, q1, q2, q3, q4, q5, q6⟩
      · exact ⟨_, .inl h, vi⟩
      · exact ⟨_, .inr ⟨o, its.toList.toArray, n, q1, q2, q3, by simpa using q4, by simpa using q5, by simpa using q6⟩, vi⟩
/-- what the law has to be in the core -/
def LawTrue (G : List W) (F : List FD) (d i most : Nat) : Prop := ∀ ns : List Int, ns.length ≤ most → ∃ S, callAt G F d i [.ref 0] [.lst false (ns.map W.int)] = some (.ok (.bl true) S)
theorem law_run {Pg : Program} {w : World} {K : PySem.W.Frag} {mg mb : Str → Option Value} {P : Sta} {G : List W} {F : List FD} {d i most : Nat} {x law : Str} {fa a : Addr} {fd : FuncData} {s₁ : Shared} {vs : List Value} {ns : List Int} (M : ModOk K mg P G F) (hi : P.fns[i]? = some (law, [x])) (D : DefOk K mg P F i law [x] fa fd)
    (T : LawTrue G F d i most) (kin : K.In s₁.heap) (hns : s₁.heap.Ns mainGlobals mg) (hb : s₁.heap.Ns builtinsNs mb) (hbb : ∀ x : Str, x ≠ "__name__" → mb x = bootBuiltins x) (hlim : s₁.heap.NoLimit) (hsm : ∃ mm, s₁.heap.Ns sysModules mm) (hk1 : K.lookup sysModules = none) (hg : s₁.gens = #[])
    (ha : s₁.heap.get? a = some { cls := .type "list", data := .seq vs.toArray }) (hii : IntsAre vs ns) (hl : ns.length ≤ most) (hm : most ≤ sizeLine) (hr : Room d callerA) :
    codeAny (model Pg w) callerA (.call (.ref fa) ⟨[.ref a], []⟩) (fun r s' => r = .ok (.ret (.bool true)) ∧ OldK s₁.heap s'.heap ∧ s'.os = s₁.os ∧ AllBare s'.gens) s₁ := by
  have rv := vals_ints hii
  have lenV := hii.length
  obtain ⟨S, hS⟩ := T ns hl
  obtain ⟨mm, os, ess, eps, hos, hds, _⟩ := hsm
  have hasys : a ≠ sysModules := fun e => by
    rw [e, hos] at ha
    cases ha
    cases hds
  have main : ∀ H : Hp, SysH H → SqL K H a (ns.map V.int) → HOk Pg w H s₁.heap → (∀ b u, H b = some u → (b = a ∨ b = sysModules) ∧ K.lookup b = none ∧ ∃ o xs, u = .frz o xs) →
      codeAny (model Pg w) callerA (.call (.ref fa) ⟨[.ref a], []⟩) (fun r s' => r = .ok (.ret (.bool true)) ∧ OldK s₁.heap s'.heap ∧ s'.os = s₁.os ∧ AllBare s'.gens) s₁ := by
    intro H hsys hq hok hA
    have mod : Mod K mg (hidT s₁.heap H) := ground kin hns hb hbb hlim (fun b o e => by
      cases q : H b with
      | none => rfl
      | some u =>
        obtain ⟨_, z, _⟩ := hA b u q
        rw [z] at e
        cases e) fun b o es ep e dd hne => by
      cases q : H b with
      | none => rfl
      | some u =>
        obtain ⟨z | z, _, _⟩ := hA b u q
        · subst z
          rw [ha] at e
          cases e
          have z : Data.seq vs.toArray _ = Data.dict es ep := dd
          cases z
        · exact absurd z hne
    have e0 : Env0 Pg w K mg (hidT s₁.heap H) callerA [] s₁ H := ⟨rfl, mod, fun b o e => of_hidT e, Nat.le_of_eq (hidT_size _ _), trivial, fun b hb => absurd (show b ∈ ([] : List Addr) from hb) (by simp), hok, .of_eq hg⟩
    have bd := D.binds s₁ [.ref a] kin rfl
    have sp : spO K (fun _ _ _ _ _ _ => True) (callAt G F d) 1 i [.ref a] H (fun v _ => v = .bl true) (fun _ _ _ => False) := by
      refine ⟨rfl, [a], _, [.ref 0], script_HR hsys hq, .cons (.ref rfl) .nil, ?_⟩
      rw [hS]
      intro m' H' b e hR hv
      cases hv
      rfl
    refine codeAny_mono ((level (XR := fun _ _ _ _ _ _ => True) M d i law [x] fa fd hi D).runs callerA [] s₁ H ⟨[.ref a], []⟩ [.ref a] [.ref a] _ _ ⟨hr, rfl⟩ e0 bd (.cons rfl .nil) sp) fun r s' h => ?_
    cases r with
    | error e =>
      obtain ⟨_, _, _, _, _, _, _, _, _, _, _, _, z⟩ := h
      exact z.elim
    | ok fl =>
      cases fl with
      | next => exact False.elim h
      | brk => exact False.elim h
      | cont => exact False.elim h
      | ret u =>
        obtain ⟨v, H', os, bare, un, hok', r', q⟩ := h
        have q' : v = .bl true := q
        subst q'
        obtain rfl : u = Value.bool true := r'
        refine ⟨rfl, OldK.of_keep fun b o e => ?_, os, bare⟩
        cases q : H b with
        | none => exact un.keep b o e q (by intro z; exact absurd (show b ∈ ([] : List Addr) from z) (by simp)) (by simp)
        | some u =>
          obtain ⟨_, _, ob, xs, rfl⟩ := hA b u q
          obtain ⟨e1, _⟩ := hok b _ q
          obtain ⟨e2, _⟩ := hok' b _ (un.frzs b ob _ q)
          rw [e] at e1
          cases e1
          exact e2
  cases hk : K.lookup a with
  | some o =>
    have e := kin a o hk
    rw [ha] at e
    cases e
    refine main (known os a none) ⟨os, _, ess, eps, known_sys, hds⟩ (.inr ⟨_, vs.toArray, _, hk, rfl, rfl, rfl, by rw [List.size_toArray, lenV]; omega, by simpa using rv⟩) (fun b u z => ?_) fun b u z => ?_
    · rcases known_some z with ⟨rfl, rfl⟩ | ⟨_, z⟩
      · exact ⟨hos, trivial, ⟨os, hos⟩, fun _ _ _ _ => trivial⟩
      · cases z
    · rcases known_some z with ⟨rfl, rfl⟩ | ⟨_, z⟩
      · exact ⟨.inr rfl, hk1, _, _, rfl⟩
      · cases z
  | none =>
    refine main (known os a (some (.frz { cls := .type "list", data := .seq vs.toArray } (.lst (ns.map V.int))))) ⟨os, _, ess, eps, known_sys, hds⟩ (.inl (.inr ⟨_, known_a hasys⟩)) (fun b u z => ?_) fun b u z => ?_
    · rcases known_some z with ⟨rfl, rfl⟩ | ⟨rfl, zz⟩
      · exact ⟨hos, trivial, ⟨os, hos⟩, fun _ _ _ _ => trivial⟩
      · cases zz
        exact ⟨ha, by rw [List.length_map]; omega, vs, _, rv, ha⟩
    · rcases known_some z with ⟨rfl, rfl⟩ | ⟨rfl, zz⟩
      · exact ⟨.inr rfl, hk1, _, _, rfl⟩
      · cases zz
        exact ⟨.inl rfl, hk, _, _, rfl⟩
/-- the goal that the head leaves -/
theorem walkG {l : PySem.W.OpenLaw} {n d i : Nat} {P : Sta} {G : List W} {F : List FD} {law x : Str} {q : Program} {loose : List Str} {XP : (Str → Option Value) → Heap → Prop} {YP : World → Heap → Prop} {dr : DefRec} {K : Params → PySem.W.Frag} (hn : l.most = some n) (hn2 : n ≤ sizeLine) (hdf : dr.params.defaults = []) (hr : Room d callerA)
    (hi : P.fns[i]? = some (law, [x])) (hlaw : dr.name = law) (T : LawTrue G F d i n) (hY : ∀ (w : World) (h : Heap), YP w h → (K w.params).In h) (hk1 : ∀ p : Params, (K p).lookup sysModules = none) (hq : importsNone q = true)
    (M : ∀ (w : World) (mg : Str → Option Value) (h : Heap), (K w.params).In h → h.Ns mainGlobals mg → ModOk (K w.params) mg P G F) : PySem.W.WalkO q loose XP YP l.row.toRowW dr [] (fun f vs => PySem.call f vs) := by
  subst hlaw
  refine Att.attach_call hn hdf fun w s₀ s₁ mg mb fa o pm cd doc a vs ns Gr Y ho hd hcd hmg hobj hints hlen hg => ?_
  have kin := hY w _ Y
  have m := M w mg _ kin Gr.T.g
  obtain ⟨f, fd, D⟩ := m.fns i _ _ hi
  have e := hmg.symm.trans D.mgx
  cases e
  exact law_run m hi D T kin Gr.T.g Gr.T.b Gr.T.builtins Gr.T.nolimit (let ⟨mm, h1, _⟩ := (Gr.T.seer hq).mods; ⟨mm, h1⟩) (hk1 w.params) hg hobj hints hlen hn2 hr
end Co
/-! Co: an analyser: what values may be, told ahead of the run. -/
namespace Co
open PySem L2

/-- what a value may be -/
inductive Ab where
  | non
  | bl (t f : Bool)
  | int (lo hi : Option Int)
  | str (x : Str)
  | stx (n : Nat)
  | tup (as : List Ab)
  | tups (a : Ab) (lo hi : Nat)
  | lst (as : List Ab)
  | lsts (a : Ab) (lo hi : Nat)
  | dic (ks : List Key) (as : List Ab)
  | scr (hi : Nat)
  | res
  | or (as : List Ab)
  deriving Inhabited
def okc (x : Str) : Bool := x.cps.toList.all fun c => decide (c < 1114112)
/-- n below 65536: every sign is one -/
def rich (n : Nat) (x : Str) : Bool := decide (65536 ≤ n) || okc x
theorem rich_le {a b : Nat} {x : Str} (h : a ≤ b) (r : rich a x = true) : rich b x = true := by
  unfold rich at *
  simp only [Bool.or_eq_true, decide_eq_true_eq] at *
  exact r.imp (fun q => Nat.le_trans q h) id
/-- a thing that is changed by its own defs alone: the cells that are its own, what stays true of them, the value that names it -/
structure Rsc where
  own : Nat → Prop
  inv : Sto → Prop
  w : W
  lt : ∀ S n, inv S → own n → n < S.length
  st : ∀ S S', inv S → (∀ n, own n → S'[n]? = S[n]?) → inv S'
def loI : Option Int → Int → Prop
  | none, _ => True
  | some l, i => l ≤ i
def hiI : Option Int → Int → Prop
  | none, _ => True
  | some h, i => i ≤ h
section
variable (R : Rsc)
mutual
def gam (S : Sto) : Ab → W → Prop
  | .non, w => w = .non
  | .bl t f, w => ∃ b, w = .bl b ∧ (b = true → t = true) ∧ (b = false → f = true)
  | .int lo hi, w => ∃ i, w = .int i ∧ loI lo i ∧ hiI hi i
  | .str x, w => w = .str x
  | .stx n, w => ∃ x : Str, w = .str x ∧ x.length ≤ n ∧ rich n x = true
  | .tup as, w => ∃ ws, w = .tup ws ∧ gams S as ws
  | .tups a lo hi, w => ∃ ws, w = .tup ws ∧ lo ≤ ws.length ∧ ws.length ≤ hi ∧ ∀ x ∈ ws, gam S a x
  | .lst as, w => ∃ n ws, w = .ref n ∧ ¬ R.own n ∧ S[n]? = some (.lst true ws) ∧ gams S as ws
  | .lsts a lo hi, w => ∃ n ws, w = .ref n ∧ ¬ R.own n ∧ S[n]? = some (.lst true ws) ∧ lo ≤ ws.length ∧ ws.length ≤ hi ∧ ∀ x ∈ ws, gam S a x
  | .dic ks as, w => ∃ n kvs, w = .ref n ∧ ¬ R.own n ∧ S[n]? = some (.dic true kvs) ∧ kvs.map (·.1) = ks ∧ gams S as (kvs.map (·.2))
  | .scr hi, w => ∃ n ws, w = .ref n ∧ ¬ R.own n ∧ S[n]? = some (.lst false ws) ∧ ws.length ≤ hi ∧ ∀ x ∈ ws, ∃ i, x = .int i
  | .res, w => w = R.w
  | .or as, w => gamU S as w
def gams (S : Sto) : List Ab → List W → Prop
  | [], [] => True
  | a :: as, w :: ws => gam S a w ∧ gams S as ws
  | _, _ => False
def gamU (S : Sto) : List Ab → W → Prop
  | [], _ => False
  | a :: as, w => gam S a w ∨ gamU S as w
end
/-- from S to S': what is not the thing's own stays, its own law holds -/
structure Le (S S' : Sto) : Prop where
  len : S.length ≤ S'.length
  get : ∀ n, n < S.length → ¬ R.own n → S'[n]? = S[n]?
  inv : R.inv S'
end
section
variable {R : Rsc} {S S' S'' : Sto}
theorem Le.refl (h : R.inv S) : Le R S S := ⟨Nat.le_refl _, fun _ _ _ => rfl, h⟩
theorem Le.trans (a : Le R S S') (b : Le R S' S'') : Le R S S'' := ⟨Nat.le_trans a.len b.len, fun n h o => (b.get n (Nat.lt_of_lt_of_le h a.len) o).trans (a.get n h o), b.inv⟩
theorem Le.at_ (a : Le R S S') {n : Nat} {o : MO} (h : ¬ R.own n) (e : S[n]? = some o) : S'[n]? = some o := (a.get n (List.getElem?_eq_some_iff.mp e).1 h).trans e
theorem Le.new (h : R.inv S) (x : MO) : Le R S (S ++ [x]) := by
  refine ⟨by simp, fun n hn _ => List.getElem?_append_left hn, R.st S _ h fun n o => ?_⟩
  exact List.getElem?_append_left (R.lt S n h o)
theorem not_own_new (h : R.inv S) : ¬ R.own S.length := fun o => Nat.lt_irrefl _ (R.lt S _ h o)
mutual
theorem gam_le (e : Le R S S') : ∀ (a : Ab) (w : W), gam R S a w → gam R S' a w
  | .non, w, h => h
  | .bl t f, w, h => h
  | .int lo hi, w, h => h
  | .str x, w, h => h
  | .stx n, w, h => h
  | .tup as, w, h => by
    unfold gam at h ⊢
    obtain ⟨ws, h1, h2⟩ := h
    exact ⟨ws, h1, gams_le e as ws h2⟩
  | .tups a lo hi, w, h => by
    unfold gam at h ⊢
    obtain ⟨ws, h1, h2, h3, h4⟩ := h
    exact ⟨ws, h1, h2, h3, fun x hx => gam_le e a x (h4 x hx)⟩
  | .lst as, w, h => by
    unfold gam at h ⊢
    obtain ⟨n, ws, h1, h2, h3, h4⟩ := h
    exact ⟨n, ws, h1, h2, e.at_ h2 h3, gams_le e as ws h4⟩
  | .lsts a lo hi, w, h => by
    unfold gam at h ⊢
    obtain ⟨n, ws, h1, h2, h3, h4, h5, h6⟩ := h
    exact ⟨n, ws, h1, h2, e.at_ h2 h3, h4, h5, fun x hx => gam_le e a x (h6 x hx)⟩
  | .dic ks as, w, h => by
    unfold gam at h ⊢
    obtain ⟨n, kvs, h1, h2, h3, h4, h5⟩ := h
    exact ⟨n, kvs, h1, h2, e.at_ h2 h3, h4, gams_le e as _ h5⟩
  | .scr hi, w, h => by
    unfold gam at h ⊢
    obtain ⟨n, ws, h1, h2, h3, h4⟩ := h
    exact ⟨n, ws, h1, h2, e.at_ h2 h3, h4⟩
  | .res, w, h => h
  | .or as, w, h => by
    unfold gam at h ⊢
    exact gamU_le e as w h
theorem gams_le (e : Le R S S') : ∀ (as : List Ab) (ws : List W), gams R S as ws → gams R S' as ws
  | [], [], h => h
  | [], _ :: _, h => by unfold gams at h; exact h.elim
  | _ :: _, [], h => by unfold gams at h; exact h.elim
  | a :: as, w :: ws, h => by
    unfold gams at h ⊢
    exact ⟨gam_le e a w h.1, gams_le e as ws h.2⟩
theorem gamU_le (e : Le R S S') : ∀ (as : List Ab) (w : W), gamU R S as w → gamU R S' as w
  | [], w, h => by unfold gamU at h; exact h.elim
  | a :: as, w, h => by
    unfold gamU at h ⊢
    exact h.imp (gam_le e a w) (gamU_le e as w)
end
theorem gamU_iff : ∀ {as : List Ab} {w : W}, gamU R S as w ↔ ∃ a ∈ as, gam R S a w
  | [], w => by unfold gamU; simp
  | a :: as, w => by unfold gamU; rw [gamU_iff]; simp
theorem gams_len : ∀ {as : List Ab} {ws : List W}, gams R S as ws → as.length = ws.length
  | [], [], _ => rfl
  | [], _ :: _, h => by unfold gams at h; exact h.elim
  | _ :: _, [], h => by unfold gams at h; exact h.elim
  | a :: as, w :: ws, h => by unfold gams at h; rw [List.length_cons, gams_len h.2, List.length_cons]
theorem gams_get : ∀ {as : List Ab} {ws : List W} {i : Nat} {w : W}, gams R S as ws → ws[i]? = some w → ∃ a, as[i]? = some a ∧ gam R S a w
  | [], [], _, _, _, h => by simp at h
  | [], _ :: _, _, _, h, _ => by unfold gams at h; exact h.elim
  | _ :: _, [], _, _, h, _ => by unfold gams at h; exact h.elim
  | a :: as, w :: ws, 0, _, h, e => by
    unfold gams at h
    simp at e
    subst e
    exact ⟨a, rfl, h.1⟩
  | a :: as, w :: ws, i + 1, _, h, e => by
    unfold gams at h
    simp at e
    obtain ⟨b, h1, h2⟩ := gams_get h.2 e
    exact ⟨b, by simpa using h1, h2⟩
theorem gams_app : ∀ {as bs : List Ab} {ws xs : List W}, gams R S as ws → gams R S bs xs → gams R S (as ++ bs) (ws ++ xs)
  | [], bs, [], xs, _, h => h
  | [], _, _ :: _, _, h, _ => by unfold gams at h; exact h.elim
  | _ :: _, _, [], _, h, _ => by unfold gams at h; exact h.elim
  | a :: as, bs, w :: ws, xs, h, h' => by
    unfold gams at h
    show gams R S (a :: (as ++ bs)) (w :: (ws ++ xs))
    unfold gams
    exact ⟨h.1, gams_app h.2 h'⟩
theorem gams_mem {as : List Ab} {ws : List W} {w : W} (h : gams R S as ws) (hw : w ∈ ws) : ∃ a ∈ as, gam R S a w := by
  obtain ⟨i, hi⟩ := List.mem_iff_getElem?.mp hw
  obtain ⟨a, h1, h2⟩ := gams_get h hi
  exact ⟨a, List.mem_of_getElem? h1, h2⟩
end
/-! ### order, joins -/
def loLe : Option Int → Option Int → Bool
  | none, _ => true
  | some a, some b => decide (a ≤ b)
  | some _, none => false
def hiLe : Option Int → Option Int → Bool
  | _, none => true
  | some a, some b => decide (a ≤ b)
  | none, some _ => false
theorem loLe_of {a b : Option Int} {i : Int} (h : loLe a b = true) (q : loI b i) : loI a i := by
  cases a with
  | none => trivial
  | some a =>
    cases b with
    | none => cases h
    | some b =>
      have h' := of_decide_eq_true h
      show a ≤ i
      have q' : b ≤ i := q
      omega
theorem hiLe_of {a b : Option Int} {i : Int} (h : hiLe a b = true) (q : hiI a i) : hiI b i := by
  cases b with
  | none => trivial
  | some b =>
    cases a with
    | none => cases h
    | some a =>
      have h' := of_decide_eq_true h
      show i ≤ b
      have q' : i ≤ a := q
      omega
def leB (le : Ab → Ab → Bool) : Ab → Ab → Bool
  | .or as, b => as.all fun a => le a b
  | a, .or bs => bs.any fun b => le a b
  | .non, .non => true
  | .bl t f, .bl t' f' => (!t || t') && (!f || f')
  | .int l h, .int l' h' => loLe l' l && hiLe h h'
  | .str x, .str y => decide (x = y)
  | .str x, .stx n => decide (x.length ≤ n) && rich n x
  | .stx a, .stx b => decide (a ≤ b)
  | .tup as, .tup bs => as.length == bs.length && (as.zip bs).all fun p => le p.1 p.2
  | .tup as, .tups b lo hi => decide (lo ≤ as.length) && decide (as.length ≤ hi) && as.all fun a => le a b
  | .tups a lo hi, .tups b lo' hi' => decide (lo' ≤ lo) && decide (hi ≤ hi') && (hi == 0 || le a b)
  | .lst as, .lst bs => as.length == bs.length && (as.zip bs).all fun p => le p.1 p.2
  | .lst as, .lsts b lo hi => decide (lo ≤ as.length) && decide (as.length ≤ hi) && as.all fun a => le a b
  | .lsts a lo hi, .lsts b lo' hi' => decide (lo' ≤ lo) && decide (hi ≤ hi') && (hi == 0 || le a b)
  | .dic ks as, .dic ks' bs => decide (ks = ks') && as.length == bs.length && (as.zip bs).all fun p => le p.1 p.2
  | .scr a, .scr b => decide (a ≤ b)
  | .res, .res => true
  | _, _ => false
def leA : Nat → Ab → Ab → Bool
  | 0, _, _ => false
  | n + 1, a, b => leB (leA n) a b
section
variable {R : Rsc} {S : Sto}
theorem gams_zip {le : Ab → Ab → Bool} (ih : ∀ (a b : Ab) (w : W), le a b = true → gam R S a w → gam R S b w) : ∀ {as bs : List Ab} {ws : List W}, (as.length == bs.length) = true → ((as.zip bs).all fun p => le p.1 p.2) = true → gams R S as ws → gams R S bs ws
  | [], [], _, _, _, h => h
  | [], _ :: _, _, h, _, _ => by cases h
  | _ :: _, [], _, h, _, _ => by cases h
  | a :: as, b :: bs, [], _, _, h => by unfold gams at h; exact h.elim
  | a :: as, b :: bs, w :: ws, hl, h, hg => by
    unfold gams at hg ⊢
    simp only [List.zip_cons_cons, List.all_cons, Bool.and_eq_true] at h
    exact ⟨ih a b w h.1 hg.1, gams_zip ih (by simpa using hl) h.2 hg.2⟩
theorem len0 {α : Type} {l : List α} {n : Nat} (h : l.length ≤ n) (e : (n == 0) = true) {x : α} (hx : x ∈ l) : False := by
  have := eq_of_beq e
  subst this
  have := List.length_pos_of_mem hx
  omega
theorem leA_of : ∀ (n : Nat) (a b : Ab) (w : W), leA n a b = true → gam R S a w → gam R S b w := by
  intro n
  induction n with
  | zero => intro a b w h; cases h
  | succ n ih =>
    intro a b w h hg
    unfold leA leB at h
    split at h
    · unfold gam at hg
      obtain ⟨a, ha, hw⟩ := gamU_iff.mp hg
      exact ih a _ w (List.all_eq_true.mp h a ha) hw
    · unfold gam
      obtain ⟨b, hb, hle⟩ := List.any_eq_true.mp h
      exact gamU_iff.mpr ⟨b, hb, ih _ b w hle hg⟩
    · exact hg
    · rename_i t f t' f'
      unfold gam at hg ⊢
      simp only [Bool.and_eq_true, Bool.or_eq_true, Bool.not_eq_true'] at h
      obtain ⟨b, rfl, h1, h2⟩ := hg
      refine ⟨b, rfl, fun hb => ?_, fun hb => ?_⟩
      · rcases h.1 with q | q
        · rw [h1 hb] at q; cases q
        · exact q
      · rcases h.2 with q | q
        · rw [h2 hb] at q; cases q
        · exact q
    · unfold gam at hg ⊢
      simp only [Bool.and_eq_true] at h
      obtain ⟨i, rfl, h1, h2⟩ := hg
      exact ⟨i, rfl, loLe_of h.1 h1, hiLe_of h.2 h2⟩
    · have := of_decide_eq_true h
      subst this
      exact hg
    · unfold gam at hg ⊢
      subst hg
      simp only [Bool.and_eq_true, decide_eq_true_eq] at h
      exact ⟨_, rfl, h.1, h.2⟩
    · unfold gam at hg ⊢
      obtain ⟨x, rfl, h1, h2⟩ := hg
      exact ⟨x, rfl, Nat.le_trans h1 (of_decide_eq_true h), rich_le (of_decide_eq_true h) h2⟩
    · unfold gam at hg ⊢
      simp only [Bool.and_eq_true] at h
      obtain ⟨ws, rfl, h1⟩ := hg
      exact ⟨ws, rfl, gams_zip ih h.1 h.2 h1⟩
    · unfold gam at hg ⊢
      simp only [Bool.and_eq_true, decide_eq_true_eq] at h
      obtain ⟨ws, rfl, h1⟩ := hg
      refine ⟨ws, rfl, by rw [← gams_len h1]; exact h.1.1, by rw [← gams_len h1]; exact h.1.2, fun x hx => ?_⟩
      obtain ⟨a, ha, hw⟩ := gams_mem h1 hx
      exact ih a _ x (List.all_eq_true.mp h.2 a ha) hw
    · unfold gam at hg ⊢
      simp only [Bool.and_eq_true, decide_eq_true_eq, Bool.or_eq_true] at h
      obtain ⟨ws, rfl, h1, h2, h3⟩ := hg
      refine ⟨ws, rfl, by omega, by omega, fun x hx => ?_⟩
      rcases h.2 with q | q
      · exact (len0 h2 q hx).elim
      · exact ih _ _ x q (h3 x hx)
    · unfold gam at hg ⊢
      simp only [Bool.and_eq_true] at h
      obtain ⟨k, ws, rfl, h1, h2, h3⟩ := hg
      exact ⟨k, ws, rfl, h1, h2, gams_zip ih h.1 h.2 h3⟩
    · unfold gam at hg ⊢
      simp only [Bool.and_eq_true, decide_eq_true_eq] at h
      obtain ⟨k, ws, rfl, h0, h0', h1⟩ := hg
      refine ⟨k, ws, rfl, h0, h0', by rw [← gams_len h1]; exact h.1.1, by rw [← gams_len h1]; exact h.1.2, fun x hx => ?_⟩
      obtain ⟨a, ha, hw⟩ := gams_mem h1 hx
      exact ih a _ x (List.all_eq_true.mp h.2 a ha) hw
    · unfold gam at hg ⊢
      simp only [Bool.and_eq_true, decide_eq_true_eq, Bool.or_eq_true] at h
      obtain ⟨k, ws, rfl, h0, h0', h1, h2, h3⟩ := hg
      refine ⟨k, ws, rfl, h0, h0', by omega, by omega, fun x hx => ?_⟩
      rcases h.2 with q | q
      · exact (len0 h2 q hx).elim
      · exact ih _ _ x q (h3 x hx)
    · unfold gam at hg ⊢
      simp only [Bool.and_eq_true, decide_eq_true_eq] at h
      obtain ⟨k, kvs, rfl, h0, h0', h1, h2⟩ := hg
      exact ⟨k, kvs, rfl, h0, h0', h1.trans h.1.1, gams_zip ih h.1.2 h.2 h2⟩
    · unfold gam at hg ⊢
      obtain ⟨n, ws, h1, h2, h3, h4, h5⟩ := hg
      exact ⟨n, ws, h1, h2, h3, Nat.le_trans h4 (of_decide_eq_true h), h5⟩
    · exact hg
    · cases h
end
/-- the ways -/
def alts : Ab → List Ab
  | .or as => as
  | a => [a]
theorem alts_of {R : Rsc} {S : Sto} {a : Ab} {w : W} (h : gam R S a w) : ∃ b ∈ alts a, gam R S b w := by
  cases a with
  | or as => unfold gam at h; exact gamU_iff.mp h
  | _ => exact ⟨_, List.mem_singleton_self _, h⟩
theorem of_alts {R : Rsc} {S : Sto} {a b : Ab} {w : W} (hb : b ∈ alts a) (h : gam R S b w) : gam R S a w := by
  cases a with
  | or as => unfold gam; exact gamU_iff.mpr ⟨b, hb, h⟩
  | _ => rw [List.mem_singleton.mp hb] at h; exact h
def loMin : Option Int → Option Int → Option Int
  | some a, some b => some (if a ≤ b then a else b)
  | _, _ => none
def hiMax : Option Int → Option Int → Option Int
  | some a, some b => some (if a ≤ b then b else a)
  | _, _ => none
/-- how deep the order looks -/
def deep : Nat := 40
def tagB : List Ab → List Ab → Bool
  | .str x :: _, .str y :: _ => decide (x = y)
  | .str _ :: _, _ => false
  | _, .str _ :: _ => false
  | _, _ => true
/-- two ways in one, where they are of one kind -/
def mrg (jn : Ab → Ab → Ab) (le : Ab → Ab → Bool) : Ab → Ab → Option Ab
  | .non, .non => some .non
  | .bl t f, .bl t' f' => some (.bl (t || t') (f || f'))
  | .int l h, .int l' h' => some (.int (loMin l l') (hiMax h h'))
  | .str x, .str y => if x = y then some (.str y) else none
  | .str x, .stx n => if x.length ≤ n ∧ rich n x = true then some (.stx n) else none
  | .stx n, .str x => if x.length ≤ n ∧ rich n x = true then some (.stx n) else none
  | .stx n, .stx m => some (.stx (if n ≤ m then m else n))
  | .tup as, .tup bs => if as.length = bs.length ∧ tagB as bs = true then some (.tup (List.zipWith jn as bs)) else none
  | .tups a lo hi, .tups b lo' hi' => some (.tups (jn a b) (if lo ≤ lo' then lo else lo') (if hi ≤ hi' then hi' else hi))
  | .tup [], .tups b _ hi => some (.tups b 0 hi)
  | .tups b _ hi, .tup [] => some (.tups b 0 hi)
  | .tup as, .tups b lo hi => if le (.tup as) (.tups b lo hi) = true then some (.tups b lo hi) else none
  | .tups b lo hi, .tup as => if le (.tup as) (.tups b lo hi) = true then some (.tups b lo hi) else none
  | .lst as, .lst bs => if as.length = bs.length ∧ tagB as bs = true then some (.lst (List.zipWith jn as bs)) else none
  | .lsts a lo hi, .lsts b lo' hi' => some (.lsts (jn a b) (if lo ≤ lo' then lo else lo') (if hi ≤ hi' then hi' else hi))
  | .lst [], .lsts b _ hi => some (.lsts b 0 hi)
  | .lsts b _ hi, .lst [] => some (.lsts b 0 hi)
  | .lst as, .lsts b lo hi => if le (.lst as) (.lsts b lo hi) = true then some (.lsts b lo hi) else none
  | .lsts b lo hi, .lst as => if le (.lst as) (.lsts b lo hi) = true then some (.lsts b lo hi) else none
  | .dic ks as, .dic ks' bs => if ks = ks' ∧ as.length = bs.length then some (.dic ks' (List.zipWith jn as bs)) else none
  | .scr a, .scr b => some (.scr (if a ≤ b then b else a))
  | .res, .res => some .res
  | _, _ => none
section
variable {R : Rsc} {S : Sto}
theorem loMin_l {a b : Option Int} {i : Int} (h : loI a i) : loI (loMin a b) i := by
  cases a <;> cases b <;> first | trivial | skip
  rename_i a b
  have h' : a ≤ i := h
  show (if a ≤ b then a else b) ≤ i
  split <;> omega
theorem loMin_r {a b : Option Int} {i : Int} (h : loI b i) : loI (loMin a b) i := by
  cases a <;> cases b <;> first | trivial | skip
  rename_i a b
  have h' : b ≤ i := h
  show (if a ≤ b then a else b) ≤ i
  split <;> omega
theorem hiMax_l {a b : Option Int} {i : Int} (h : hiI a i) : hiI (hiMax a b) i := by
  cases a <;> cases b <;> first | trivial | skip
  rename_i a b
  have h' : i ≤ a := h
  show i ≤ (if a ≤ b then b else a)
  split <;> omega
theorem hiMax_r {a b : Option Int} {i : Int} (h : hiI b i) : hiI (hiMax a b) i := by
  cases a <;> cases b <;> first | trivial | skip
  rename_i a b
  have h' : i ≤ b := h
  show i ≤ (if a ≤ b then b else a)
  split <;> omega
theorem zw_l {jn : Ab → Ab → Ab} (hl : ∀ a b w, gam R S a w → gam R S (jn a b) w) : ∀ {as bs : List Ab} {ws : List W}, as.length = bs.length → gams R S as ws → gams R S (List.zipWith jn as bs) ws
  | [], [], _, _, h => h
  | [], _ :: _, _, e, _ => by cases e
  | _ :: _, [], _, e, _ => by cases e
  | a :: as, b :: bs, [], _, h => by unfold gams at h; exact h.elim
  | a :: as, b :: bs, w :: ws, e, h => by
    unfold gams at h
    show gams R S (jn a b :: List.zipWith jn as bs) (w :: ws)
    unfold gams
    exact ⟨hl _ _ _ h.1, zw_l hl (by simpa using e) h.2⟩
theorem zw_r {jn : Ab → Ab → Ab} (hr : ∀ a b w, gam R S b w → gam R S (jn a b) w) : ∀ {as bs : List Ab} {ws : List W}, as.length = bs.length → gams R S bs ws → gams R S (List.zipWith jn as bs) ws
  | [], [], _, _, h => h
  | [], _ :: _, _, e, _ => by cases e
  | _ :: _, [], _, e, _ => by cases e
  | a :: as, b :: bs, [], _, h => by unfold gams at h; exact h.elim
  | a :: as, b :: bs, w :: ws, e, h => by
    unfold gams at h
    show gams R S (jn a b :: List.zipWith jn as bs) (w :: ws)
    unfold gams
    exact ⟨hr _ _ _ h.1, zw_r hr (by simpa using e) h.2⟩
theorem gams_nil {ws : List W} (h : gams R S [] ws) : ws = [] := by
  cases ws with
  | nil => rfl
  | cons _ _ => unfold gams at h; exact h.elim
theorem mrg_l {jn : Ab → Ab → Ab} {le : Ab → Ab → Bool} (hl : ∀ a b w, gam R S a w → gam R S (jn a b) w) (hle : ∀ (a b : Ab) (w : W), le a b = true → gam R S a w → gam R S b w) {a b c : Ab} {w : W} (h : mrg jn le a b = some c) (g : gam R S a w) : gam R S c w := by
  unfold mrg at h
  split at h
  · cases h; exact g
  · cases h
    unfold gam at g ⊢
    obtain ⟨b, rfl, h1, h2⟩ := g
    exact ⟨b, rfl, fun e => by rw [h1 e, Bool.true_or], fun e => by rw [h2 e, Bool.true_or]⟩
  · cases h
    unfold gam at g ⊢
    obtain ⟨i, rfl, h1, h2⟩ := g
    exact ⟨i, rfl, loMin_l h1, hiMax_l h2⟩
  · split at h
    · rename_i e; cases h; rw [e] at g; exact g
    · cases h
  · split at h
    · cases h
      unfold gam at g ⊢
      subst g
      exact ⟨_, rfl, (‹_ ∧ _› : _ ∧ _).1, (‹_ ∧ _› : _ ∧ _).2⟩
    · cases h
  · split at h
    · cases h; exact g
    · cases h
  · cases h
    unfold gam at g ⊢
    obtain ⟨x, rfl, h1, h2⟩ := g
    refine ⟨x, rfl, ?_, rich_le ?_ h2⟩ <;> split <;> omega
  · split at h
    · rename_i hh
      cases h
      unfold gam at g ⊢
      obtain ⟨ws, rfl, h1⟩ := g
      exact ⟨ws, rfl, zw_l hl hh.1 h1⟩
    · cases h
  · cases h
    unfold gam at g ⊢
    obtain ⟨ws, rfl, h1, h2, h3⟩ := g
    exact ⟨ws, rfl, by split <;> omega, by split <;> omega, fun x hx => hl _ _ _ (h3 x hx)⟩
  · cases h
    unfold gam at g ⊢
    obtain ⟨ws, rfl, h1⟩ := g
    have := gams_nil h1
    subst this
    exact ⟨[], rfl, Nat.zero_le _, Nat.zero_le _, fun x hx => by cases hx⟩
  · cases h
    unfold gam at g ⊢
    obtain ⟨ws, rfl, h1, h2, h3⟩ := g
    exact ⟨ws, rfl, Nat.zero_le _, h2, h3⟩
  · split at h
    · cases h; exact hle _ _ _ ‹_› g
    · cases h
  · split at h
    · cases h; exact g
    · cases h
  · split at h
    · rename_i hh
      cases h
      unfold gam at g ⊢
      obtain ⟨n, ws, rfl, q1, q2, h1⟩ := g
      exact ⟨n, ws, rfl, q1, q2, zw_l hl hh.1 h1⟩
    · cases h
  · cases h
    unfold gam at g ⊢
    obtain ⟨n, ws, rfl, q1, q2, h1, h2, h3⟩ := g
    exact ⟨n, ws, rfl, q1, q2, by split <;> omega, by split <;> omega, fun x hx => hl _ _ _ (h3 x hx)⟩
  · cases h
    unfold gam at g ⊢
    obtain ⟨n, ws, rfl, q1, q2, h1⟩ := g
    have := gams_nil h1
    subst this
    exact ⟨n, [], rfl, q1, q2, Nat.zero_le _, Nat.zero_le _, fun x hx => by cases hx⟩
  · cases h
    unfold gam at g ⊢
    obtain ⟨n, ws, rfl, q1, q2, h1, h2, h3⟩ := g
    exact ⟨n, ws, rfl, q1, q2, Nat.zero_le _, h2, h3⟩
  · split at h
    · cases h; exact hle _ _ _ ‹_› g
    · cases h
  · split at h
    · cases h; exact g
    · cases h
  · split at h
    · rename_i hh
      cases h
      unfold gam at g ⊢
      obtain ⟨n, kvs, rfl, q1, q2, h1, h2⟩ := g
      exact ⟨n, kvs, rfl, q1, q2, h1.trans hh.1, zw_l hl hh.2 h2⟩
    · cases h
  · cases h
    unfold gam at g ⊢
    obtain ⟨n, ws, h1, h2, h3, h4, h5⟩ := g
    exact ⟨n, ws, h1, h2, h3, by split <;> omega, h5⟩
  · cases h; exact g
  · cases h
theorem mrg_r {jn : Ab → Ab → Ab} {le : Ab → Ab → Bool} (hr : ∀ a b w, gam R S b w → gam R S (jn a b) w) (hle : ∀ (a b : Ab) (w : W), le a b = true → gam R S a w → gam R S b w) {a b c : Ab} {w : W} (h : mrg jn le a b = some c) (g : gam R S b w) : gam R S c w := by
  unfold mrg at h
  split at h
  · cases h; exact g
  · cases h
    unfold gam at g ⊢
    obtain ⟨b, rfl, h1, h2⟩ := g
    exact ⟨b, rfl, fun e => by rw [h1 e, Bool.or_true], fun e => by rw [h2 e, Bool.or_true]⟩
  · cases h
    unfold gam at g ⊢
    obtain ⟨i, rfl, h1, h2⟩ := g
    exact ⟨i, rfl, loMin_r h1, hiMax_r h2⟩
  · split at h
    · cases h; exact g
    · cases h
  · split at h
    · cases h; exact g
    · cases h
  · split at h
    · cases h
      unfold gam at g ⊢
      subst g
      exact ⟨_, rfl, (‹_ ∧ _› : _ ∧ _).1, (‹_ ∧ _› : _ ∧ _).2⟩
    · cases h
  · cases h
    unfold gam at g ⊢
    obtain ⟨x, rfl, h1, h2⟩ := g
    refine ⟨x, rfl, ?_, rich_le ?_ h2⟩ <;> split <;> omega
  · split at h
    · rename_i hh
      cases h
      unfold gam at g ⊢
      obtain ⟨ws, rfl, h1⟩ := g
      exact ⟨ws, rfl, zw_r hr hh.1 h1⟩
    · cases h
  · cases h
    unfold gam at g ⊢
    obtain ⟨ws, rfl, h1, h2, h3⟩ := g
    exact ⟨ws, rfl, by split <;> omega, by split <;> omega, fun x hx => hr _ _ _ (h3 x hx)⟩
  · cases h
    unfold gam at g ⊢
    obtain ⟨ws, rfl, h1, h2, h3⟩ := g
    exact ⟨ws, rfl, Nat.zero_le _, h2, h3⟩
  · cases h
    unfold gam at g ⊢
    obtain ⟨ws, rfl, h1⟩ := g
    have := gams_nil h1
    subst this
    exact ⟨[], rfl, Nat.zero_le _, Nat.zero_le _, fun x hx => by cases hx⟩
  · split at h
    · cases h; exact g
    · cases h
  · split at h
    · cases h; exact hle _ _ _ ‹_› g
    · cases h
  · split at h
    · rename_i hh
      cases h
      unfold gam at g ⊢
      obtain ⟨n, ws, rfl, q1, q2, h1⟩ := g
      exact ⟨n, ws, rfl, q1, q2, zw_r hr hh.1 h1⟩
    · cases h
  · cases h
    unfold gam at g ⊢
    obtain ⟨n, ws, rfl, q1, q2, h1, h2, h3⟩ := g
    exact ⟨n, ws, rfl, q1, q2, by split <;> omega, by split <;> omega, fun x hx => hr _ _ _ (h3 x hx)⟩
  · cases h
    unfold gam at g ⊢
    obtain ⟨n, ws, rfl, q1, q2, h1, h2, h3⟩ := g
    exact ⟨n, ws, rfl, q1, q2, Nat.zero_le _, h2, h3⟩
  · cases h
    unfold gam at g ⊢
    obtain ⟨n, ws, rfl, q1, q2, h1⟩ := g
    have := gams_nil h1
    subst this
    exact ⟨n, [], rfl, q1, q2, Nat.zero_le _, Nat.zero_le _, fun x hx => by cases hx⟩
  · split at h
    · cases h; exact g
    · cases h
  · split at h
    · cases h; exact hle _ _ _ ‹_› g
    · cases h
  · split at h
    · rename_i hh
      cases h
      unfold gam at g ⊢
      obtain ⟨n, kvs, rfl, q1, q2, h1, h2⟩ := g
      exact ⟨n, kvs, rfl, q1, q2, h1, zw_r hr hh.2 h2⟩
    · cases h
  · cases h
    unfold gam at g ⊢
    obtain ⟨n, ws, h1, h2, h3, h4, h5⟩ := g
    exact ⟨n, ws, h1, h2, h3, by split <;> omega, h5⟩
  · cases h; exact g
  · cases h
end
/-- one way more -/
def ins (jn : Ab → Ab → Ab) (le : Ab → Ab → Bool) (x : Ab) : List Ab → List Ab
  | [] => [x]
  | y :: l => match mrg jn le x y with
    | some z => z :: l
    | none => y :: ins jn le x l
def insAll (jn : Ab → Ab → Ab) (le : Ab → Ab → Bool) : List Ab → List Ab → List Ab
  | [], l => l
  | x :: r, l => ins jn le x (insAll jn le r l)
def isS : Ab → Bool
  | .str x => okc x
  | .stx n => decide (n < 65536)
  | _ => false
def lenS : Ab → Nat
  | .str x => x.length
  | .stx n => n
  | _ => 0
def mxL : List Nat → Nat
  | [] => 0
  | a :: r => if a ≤ mxL r then mxL r else a
theorem mxL_of {n : Nat} : ∀ {l : List Nat}, n ∈ l → n ≤ mxL l
  | [], h => by cases h
  | a :: r, h => by
    unfold mxL
    rcases List.mem_cons.mp h with rfl | h
    · split <;> omega
    · have := mxL_of h
      split <;> omega
/-- many texts in one -/
def capS (l : List Ab) : List Ab := if (l.filter isS).length ≤ 16 ∨ 65536 ≤ mxL ((l.filter isS).map lenS) then l else .stx (mxL ((l.filter isS).map lenS)) :: l.filter fun a => !isS a
theorem capS_of {R : Rsc} {S : Sto} {l : List Ab} {w : W} (g : gamU R S l w) : gamU R S (capS l) w := by
  unfold capS
  split
  · exact g
  · obtain ⟨a, h1, h2⟩ := gamU_iff.mp g
    by_cases h : isS a = true
    · refine gamU_iff.mpr ⟨_, List.mem_cons_self .., ?_⟩
      have hm : lenS a ≤ mxL ((l.filter isS).map lenS) := mxL_of (List.mem_map.mpr ⟨a, List.mem_filter.mpr ⟨h1, h⟩, rfl⟩)
      cases a <;> first | (cases h; done) | skip
      · unfold gam at h2 ⊢
        subst h2
        refine ⟨_, rfl, hm, ?_⟩
        unfold rich
        rw [show okc _ = true from h, Bool.or_true]
      · unfold gam at h2 ⊢
        obtain ⟨x, rfl, q1, q2⟩ := h2
        exact ⟨x, rfl, Nat.le_trans q1 hm, rich_le hm q2⟩
    · exact gamU_iff.mpr ⟨a, List.mem_cons_of_mem _ (List.mem_filter.mpr ⟨h1, by simp [h]⟩), h2⟩
def oneOr : List Ab → Ab
  | [z] => z
  | l => .or (capS l)
def joinF : Nat → Ab → Ab → Ab
  | 0, a, b => .or (alts a ++ alts b)
  | n + 1, a, b => oneOr (insAll (joinF n) (leA n) (alts a) (alts b))
section
variable {R : Rsc} {S : Sto}
theorem ins_x {jn : Ab → Ab → Ab} {le : Ab → Ab → Bool} (hl : ∀ a b w, gam R S a w → gam R S (jn a b) w) (hle : ∀ (a b : Ab) (w : W), le a b = true → gam R S a w → gam R S b w) {x : Ab} {w : W} (g : gam R S x w) : ∀ l, gamU R S (ins jn le x l) w
  | [] => by unfold ins; exact gamU_iff.mpr ⟨x, List.mem_singleton_self _, g⟩
  | y :: l => by
    unfold ins
    split
    · exact gamU_iff.mpr ⟨_, List.mem_cons_self .., mrg_l hl hle ‹_› g⟩
    · obtain ⟨a, h1, h2⟩ := gamU_iff.mp (ins_x hl hle g l)
      exact gamU_iff.mpr ⟨a, List.mem_cons_of_mem _ h1, h2⟩
theorem ins_l {jn : Ab → Ab → Ab} {le : Ab → Ab → Bool} (hr : ∀ a b w, gam R S b w → gam R S (jn a b) w) (hle : ∀ (a b : Ab) (w : W), le a b = true → gam R S a w → gam R S b w) {x : Ab} {w : W} : ∀ {l}, gamU R S l w → gamU R S (ins jn le x l) w
  | [], g => by unfold gamU at g; exact g.elim
  | y :: l, g => by
    unfold gamU at g
    unfold ins
    rcases g with g | g
    · split
      · exact gamU_iff.mpr ⟨_, List.mem_cons_self .., mrg_r hr hle ‹_› g⟩
      · exact gamU_iff.mpr ⟨_, List.mem_cons_self .., g⟩
    · split
      · obtain ⟨a, h1, h2⟩ := gamU_iff.mp g
        exact gamU_iff.mpr ⟨a, List.mem_cons_of_mem _ h1, h2⟩
      · obtain ⟨a, h1, h2⟩ := gamU_iff.mp (ins_l (x := x) hr hle g)
        exact gamU_iff.mpr ⟨a, List.mem_cons_of_mem _ h1, h2⟩
theorem insAll_l {jn : Ab → Ab → Ab} {le : Ab → Ab → Bool} (hr : ∀ a b w, gam R S b w → gam R S (jn a b) w) (hle : ∀ (a b : Ab) (w : W), le a b = true → gam R S a w → gam R S b w) {w : W} : ∀ {r l}, gamU R S l w → gamU R S (insAll jn le r l) w
  | [], l, g => g
  | x :: r, l, g => by unfold insAll; exact ins_l hr hle (insAll_l hr hle g)
theorem insAll_r {jn : Ab → Ab → Ab} {le : Ab → Ab → Bool} (hl : ∀ a b w, gam R S a w → gam R S (jn a b) w) (hr : ∀ a b w, gam R S b w → gam R S (jn a b) w) (hle : ∀ (a b : Ab) (w : W), le a b = true → gam R S a w → gam R S b w) {w : W} : ∀ {r l}, gamU R S r w → gamU R S (insAll jn le r l) w
  | [], l, g => by unfold gamU at g; exact g.elim
  | x :: r, l, g => by
    unfold gamU at g
    unfold insAll
    rcases g with g | g
    · exact ins_x hl hle g _
    · exact ins_l hr hle (insAll_r hl hr hle g)
theorem oneOr_of {l : List Ab} {w : W} (g : gamU R S l w) : gam R S (oneOr l) w := by
  unfold oneOr
  split
  · unfold gamU gamU at g
    exact g.elim id False.elim
  · unfold gam
    exact capS_of g
theorem joinF_of : ∀ (n : Nat), (∀ (a b : Ab) (w : W), gam R S a w → gam R S (joinF n a b) w) ∧ (∀ (a b : Ab) (w : W), gam R S b w → gam R S (joinF n a b) w)
  | 0 => by
    refine ⟨fun a b w g => ?_, fun a b w g => ?_⟩
    · obtain ⟨c, h1, h2⟩ := alts_of g
      unfold joinF gam
      exact gamU_iff.mpr ⟨c, List.mem_append_left _ h1, h2⟩
    · obtain ⟨c, h1, h2⟩ := alts_of g
      unfold joinF gam
      exact gamU_iff.mpr ⟨c, List.mem_append_right _ h1, h2⟩
  | n + 1 => by
    have ih := joinF_of n
    refine ⟨fun a b w g => ?_, fun a b w g => ?_⟩
    · unfold joinF
      exact oneOr_of (insAll_r ih.1 ih.2 (leA_of n) (gamU_iff.mpr (alts_of g)))
    · unfold joinF
      exact oneOr_of (insAll_l ih.2 (leA_of n) (gamU_iff.mpr (alts_of g)))
end
def joinA (a b : Ab) : Ab := joinF deep a b
theorem joinA_l {R : Rsc} {S : Sto} {a b : Ab} {w : W} (h : gam R S a w) : gam R S (joinA a b) w := (joinF_of deep).1 a b w h
theorem joinA_r {R : Rsc} {S : Sto} {a b : Ab} {w : W} (h : gam R S b w) : gam R S (joinA a b) w := (joinF_of deep).2 a b w h
def joinAll : List Ab → Ab
  | [] => .or []
  | [a] => a
  | a :: as => joinA a (joinAll as)
theorem joinAll_of {R : Rsc} {S : Sto} {a : Ab} {w : W} : ∀ {as : List Ab}, a ∈ as → gam R S a w → gam R S (joinAll as) w
  | [], h, _ => by cases h
  | [b], h, g => by rw [List.mem_singleton.mp h] at g; exact g
  | b :: c :: as, h, g => by
    unfold joinAll
    rcases List.mem_cons.mp h with rfl | h
    · exact joinA_l g
    · exact joinA_r (joinAll_of h g)
end Co
namespace Co
open PySem L2

def allO {α : Type} : List (Option α) → Option (List α)
  | [] => some []
  | none :: _ => none
  | some a :: r => (allO r).map (a :: ·)
theorem allO_of {α : Type} : ∀ {l : List (Option α)} {r : List α} {o : Option α}, allO l = some r → o ∈ l → ∃ a, o = some a ∧ a ∈ r
  | [], _, _, _, h => by cases h
  | none :: _, _, _, h, _ => by cases h
  | some a :: l, r, o, h, ho => by
    unfold allO at h
    simp only [Option.map_eq_some_iff] at h
    obtain ⟨r', h1, rfl⟩ := h
    rcases List.mem_cons.mp ho with rfl | ho
    · exact ⟨a, rfl, List.mem_cons_self ..⟩
    · obtain ⟨b, h2, h3⟩ := allO_of h1 ho
      exact ⟨b, h2, List.mem_cons_of_mem _ h3⟩
/-- a truth: may be so, may be not so -/
abbrev TB := Bool × Bool
def okB (q : TB) (b : Bool) : Prop := (b = true → q.1 = true) ∧ (b = false → q.2 = true)
def tbAll (l : List (Option TB)) : Option TB := (allO l).map fun r => (r.any (·.1), r.any (·.2))
theorem tbAll_of {l : List (Option TB)} {q : TB} {o : Option TB} (h : tbAll l = some q) (ho : o ∈ l) : ∃ p, o = some p ∧ ∀ b, okB p b → okB q b := by
  unfold tbAll at h
  simp only [Option.map_eq_some_iff] at h
  obtain ⟨r, h1, rfl⟩ := h
  obtain ⟨p, h2, h3⟩ := allO_of h1 ho
  exact ⟨p, h2, fun b hb => ⟨fun e => List.any_eq_true.mpr ⟨p, h3, hb.1 e⟩, fun e => List.any_eq_true.mpr ⟨p, h3, hb.2 e⟩⟩⟩
theorem okB_mk {b : Bool} {t f : Bool} (h1 : b = true → t = true) (h2 : b = false → f = true) : okB (t, f) b := ⟨h1, h2⟩
def liftU {α : Type} (f : Ab → Option α) (a : Ab) : List (Option α) := (alts a).map f
def liftU2 {α : Type} (f : Ab → Ab → Option α) (a b : Ab) : List (Option α) := (alts a).flatMap fun x => (alts b).map fun y => f x y
section
variable {R : Rsc} {S : Sto}
theorem liftU_of {α : Type} {f : Ab → Option α} {a : Ab} {w : W} (h : gam R S a w) : ∃ b, gam R S b w ∧ f b ∈ liftU f a := by
  obtain ⟨b, hb, hw⟩ := alts_of h
  exact ⟨b, hw, List.mem_map.mpr ⟨b, hb, rfl⟩⟩
theorem liftU2_of {α : Type} {f : Ab → Ab → Option α} {a b : Ab} {w u : W} (h : gam R S a w) (h' : gam R S b u) : ∃ x y, gam R S x w ∧ gam R S y u ∧ f x y ∈ liftU2 f a b := by
  obtain ⟨x, hx, hw⟩ := alts_of h
  obtain ⟨y, hy, hu⟩ := alts_of h'
  exact ⟨x, y, hw, hu, List.mem_flatMap.mpr ⟨x, hx, List.mem_map.mpr ⟨y, hy, rfl⟩⟩⟩
/-- a run's end: fine, within what was told -/
def OkE (R : Rsc) (S : Sto) (a : Ab) (r : Rs W) : Prop := ∃ w S', r = some (.ok w S') ∧ Le R S S' ∧ gam R S' a w
theorem OkE.mono {a b : Ab} {r : Rs W} (h : OkE R S a r) (k : ∀ S' w, gam R S' a w → gam R S' b w) : OkE R S b r := by
  obtain ⟨w, S', h1, h2, h3⟩ := h
  exact ⟨w, S', h1, h2, k S' w h3⟩
theorem OkE.pure {a : Ab} {w : W} (i : R.inv S) (h : gam R S a w) : OkE R S a (some (.ok w S)) := ⟨w, S, rfl, .refl i, h⟩
/-- a new list -/
theorem OkE.new {a : Ab} {ws : List W} (i : R.inv S) (h : gam R (S ++ [.lst true ws]) a (.ref S.length)) : OkE R S a (newL ws S) := ⟨_, _, rfl, .new i _, h⟩
end
/-! ### truth -/
def truA : Ab → Option TB
  | .non => some (false, true)
  | .bl t f => some (t, f)
  | .int lo hi => some (!(decide (lo = some 0) && decide (hi = some 0)), !(match lo with | some l => decide (1 ≤ l) | none => false) && !(match hi with | some h => decide (h ≤ -1) | none => false))
  | .str x => if x.length ≤ sizeLine then some (x.length != 0, x.length == 0) else none
  | .stx n => if n ≤ sizeLine then some (true, true) else none
  | .tup as => some (!as.isEmpty, as.isEmpty)
  | .tups _ lo hi => some (hi != 0, lo == 0)
  | .lst as => some (!as.isEmpty, as.isEmpty)
  | .lsts _ lo hi => some (hi != 0, lo == 0)
  | .dic ks _ => some (!ks.isEmpty, ks.isEmpty)
  | _ => none
def truU (a : Ab) : Option TB := tbAll (liftU truA a)
section
variable {R : Rsc} {S : Sto}
theorem emp_len {α : Type} {ws : List α} {lo hi : Nat} (h1 : lo ≤ ws.length) (h2 : ws.length ≤ hi) : okB (hi != 0, lo == 0) !ws.isEmpty := by
  cases ws with
  | nil => exact ⟨(fun e => by cases e), fun _ => by simpa using h1⟩
  | cons a ws => exact ⟨fun _ => by rw [List.length_cons] at h2; simp; omega, fun e => by cases e⟩
theorem emp_gams {as : List Ab} {ws : List W} (h : gams R S as ws) : okB (!as.isEmpty, as.isEmpty) !ws.isEmpty := by
  cases as with
  | nil => cases ws with
    | nil => exact ⟨(fun e => by cases e), fun _ => rfl⟩
    | cons _ _ => unfold gams at h; exact h.elim
  | cons a as => cases ws with
    | nil => unfold gams at h; exact h.elim
    | cons _ _ => exact ⟨fun _ => rfl, fun e => by cases e⟩
theorem truW_str {x : Str} (h : x.length ≤ sizeLine) : truW S (.str x) = some ((x.length : Int) != 0) := by
  show (if x.length ≤ sizeLine then some ((x.length : Int) != 0) else none) = _
  rw [if_pos h]
theorem truA_of {a : Ab} {q : TB} {w : W} (h : truA a = some q) (g : gam R S a w) : ∃ b, truW S w = some b ∧ okB q b := by
  cases a with
  | non => unfold gam at g; subst g; cases h; exact ⟨false, rfl, ⟨(fun e => by cases e), fun _ => rfl⟩⟩
  | bl t f =>
    unfold gam at g
    obtain ⟨b, rfl, h1, h2⟩ := g
    cases h
    exact ⟨b, rfl, h1, h2⟩
  | int lo hi =>
    unfold gam at g
    obtain ⟨i, rfl, h1, h2⟩ := g
    cases h
    refine ⟨i != 0, rfl, fun e => ?_, fun e => ?_⟩
    · simp only [bne_iff_ne, ne_eq] at e
      simp only [Bool.not_eq_true', Bool.and_eq_false_iff, decide_eq_false_iff_not]
      by_cases hl : lo = some 0
      · right
        intro hh
        subst hl hh
        have h1' : (0 : Int) ≤ i := h1
        have h2' : i ≤ 0 := h2
        omega
      · exact .inl hl
    · have e' : i = 0 := by simpa using e
      subst e'
      simp only [Bool.and_eq_true, Bool.not_eq_true']
      constructor
      · cases lo with
        | none => rfl
        | some l =>
          have h1' : l ≤ (0 : Int) := h1
          simp only [decide_eq_false_iff_not]
          omega
      · cases hi with
        | none => rfl
        | some l =>
          have h1' : (0 : Int) ≤ l := h2
          simp only [decide_eq_false_iff_not]
          omega
  | str x =>
    unfold gam at g
    subst g
    have h : (if x.length ≤ sizeLine then some (x.length != 0, x.length == 0) else none) = some q := h
    split at h
    · rename_i hx
      cases h
      refine ⟨_, truW_str hx, fun e => ?_, fun e => ?_⟩
      · simp at e ⊢; exact e
      · simp at e ⊢; exact e
    · cases h
  | stx n =>
    unfold gam at g
    obtain ⟨x, rfl, hx, _⟩ := g
    have h : (if n ≤ sizeLine then some (true, true) else none) = some q := h
    split at h
    · rename_i hn
      cases h
      exact ⟨_, truW_str (Nat.le_trans hx hn), fun _ => rfl, fun _ => rfl⟩
    · cases h
  | tup as =>
    unfold gam at g
    obtain ⟨ws, rfl, h1⟩ := g
    cases h
    exact ⟨_, rfl, emp_gams h1⟩
  | tups a lo hi =>
    unfold gam at g
    obtain ⟨ws, rfl, h1, h2, h3⟩ := g
    cases h
    exact ⟨_, rfl, emp_len h1 h2⟩
  | lst as =>
    unfold gam at g
    obtain ⟨n, ws, rfl, h0, h1, h2⟩ := g
    cases h
    exact ⟨_, by simp [truW, h1], emp_gams h2⟩
  | lsts a lo hi =>
    unfold gam at g
    obtain ⟨n, ws, rfl, h0, h1, h2, h3, h4⟩ := g
    cases h
    exact ⟨_, by simp [truW, h1], emp_len h2 h3⟩
  | dic ks as =>
    unfold gam at g
    obtain ⟨n, kvs, rfl, h0, h1, h2, h3⟩ := g
    cases h
    refine ⟨!kvs.isEmpty, by simp [truW, h1], ?_⟩
    subst h2
    cases kvs with
    | nil => exact ⟨(fun e => by cases e), fun _ => rfl⟩
    | cons _ _ => exact ⟨fun _ => rfl, fun e => by cases e⟩
  | scr _ => cases h
  | res => cases h
  | or as => cases h
theorem truU_of {a : Ab} {q : TB} {w : W} (h : truU a = some q) (g : gam R S a w) : ∃ b, truW S w = some b ∧ okB q b := by
  obtain ⟨b, h1, h2⟩ := liftU_of (f := truA) g
  obtain ⟨p, h3, h4⟩ := tbAll_of h h2
  obtain ⟨c, h5, h6⟩ := truA_of h3 h1
  exact ⟨c, h5, h4 c h6⟩
end
/-! ### two places -/
def addO : Option Int → Option Int → Option Int
  | some a, some b => some (a + b)
  | _, _ => none
def negO (o : Option Int) : Option Int := o.map fun i => -i
def geO (n : Int) : Option Int → Bool
  | some a => decide (n ≤ a)
  | none => false
def leO (n : Int) : Option Int → Bool
  | some a => decide (a ≤ n)
  | none => false
def mulO : Option Int → Option Int → Option Int
  | some a, some b => some (a * b)
  | _, _ => none
/-- a row of like items -/
def rowA : Ab → Option (Ab × Nat × Nat)
  | .tup as => some (joinAll as, as.length, as.length)
  | .tups a lo hi => some (a, lo, hi)
  | _ => none
def rowL : Ab → Option (Ab × Nat × Nat)
  | .lst as => some (joinAll as, as.length, as.length)
  | .lsts a lo hi => some (a, lo, hi)
  | _ => none
def in64 (lo hi : Option Int) : Bool := geO (-(2 ^ 64) + 1) lo && leO (2 ^ 64 - 1) hi
def op2A : Op2 → Ab → Ab → Option Ab
  | .add, .int l h, .int l' h' => some (.int (addO l l') (addO h h'))
  | .sub, .int l h, .int l' h' => some (.int (addO l (negO h')) (addO h (negO l')))
  | .mul, .int l h, .int l' h' => if in64 l h || in64 l' h' then some (if geO 0 l && geO 0 l' then .int (some 0) (mulO h h') else .int none none) else none
  | .mod, .int _ _, .int l' h' => if geO 1 l' then some (.int (some 0) (addO h' (some (-1)))) else none
  | .fdiv, .int l h, .int l' h' => if geO 1 l' && leO 1073741823 h' then some (if geO 0 l then .int (some 0) h else .int none none) else none
  | .pow, .int (some l) (some h), .int (some l') (some h') => if l = h ∧ l' = h' ∧ CPow l l' then some (.int (some (l ^ l'.toNat)) (some (l ^ l'.toNat))) else none
  | .mul, .str x, .int (some l) (some h) => if l = h ∧ 1 ≤ l ∧ l ≤ 1000 ∧ x.length ≤ 1000 then some (.str (Txt.mul x l)) else none
  | .mul, .tup as, .int (some l) (some h) => if l = h ∧ 2 ≤ l ∧ l ≤ 1000 ∧ 1 ≤ as.length ∧ as.length ≤ 1000 then some (.tup (List.replicate l.toNat as).flatten) else none
  | .mul, .tups a lo hi, .int (some l) (some h) => if l = h ∧ 2 ≤ l ∧ l ≤ 1000 ∧ 1 ≤ lo ∧ hi ≤ 1000 then some (.tups a (l.toNat * lo) (l.toNat * hi)) else none
  | .add, .str x, .str y => if x.length + y.length ≤ sizeLine then some (.str (x ++ y)) else none
  | .add, .tup as, .tup bs => if as.length + bs.length ≤ sizeLine then some (.tup (as ++ bs)) else none
  | .add, .lst as, .lst bs => if as.length + bs.length ≤ sizeLine then some (.lst (as ++ bs)) else none
  | .add, a, b => match rowA a, rowA b with
    | some (x, lo, hi), some (y, lo', hi') => if hi + hi' ≤ sizeLine then some (.tups (joinA x y) (lo + lo') (hi + hi')) else none
    | _, _ => match rowL a, rowL b with
      | some (x, lo, hi), some (y, lo', hi') => if hi + hi' ≤ sizeLine then some (.lsts (joinA x y) (lo + lo') (hi + hi')) else none
      | _, _ => none
  | _, _, _ => none
section
variable {R : Rsc} {S : Sto}
theorem addO_lo {a b : Option Int} {i j : Int} (h : loI a i) (h' : loI b j) : loI (addO a b) (i + j) := by
  cases a <;> cases b <;> first | trivial | (exact Int.add_le_add h h')
theorem addO_hi {a b : Option Int} {i j : Int} (h : hiI a i) (h' : hiI b j) : hiI (addO a b) (i + j) := by
  cases a <;> cases b <;> first | trivial | (exact Int.add_le_add h h')
theorem negO_lo {a : Option Int} {i : Int} (h : hiI a i) : loI (negO a) (-i) := by
  cases a with
  | none => trivial
  | some a =>
    have h' : i ≤ a := h
    show -a ≤ -i
    omega
theorem negO_hi {a : Option Int} {i : Int} (h : loI a i) : hiI (negO a) (-i) := by
  cases a with
  | none => trivial
  | some a =>
    have h' : a ≤ i := h
    show -i ≤ -a
    omega
theorem geO_of {n : Int} {a : Option Int} {i : Int} (h : geO n a = true) (q : loI a i) : n ≤ i := by
  cases a with
  | none => cases h
  | some a =>
    have h' := of_decide_eq_true h
    have q' : a ≤ i := q
    omega
theorem leO_of {n : Int} {a : Option Int} {i : Int} (h : leO n a = true) (q : hiI a i) : i ≤ n := by
  cases a with
  | none => cases h
  | some a =>
    have h' := of_decide_eq_true h
    have q' : i ≤ a := q
    omega
theorem mulO_hi {a b : Option Int} {i j : Int} (hi : 0 ≤ i) (hj : 0 ≤ j) (h : hiI a i) (h' : hiI b j) : hiI (mulO a b) (i * j) := by
  cases a <;> cases b <;> first | trivial | skip
  rename_i a b
  have h1 : i ≤ a := h
  have h2 : j ≤ b := h'
  show i * j ≤ a * b
  exact Int.mul_le_mul h1 h2 hj (by omega)
theorem in64_of {a b : Option Int} {i : Int} (h : in64 a b = true) (h1 : loI a i) (h2 : hiI b i) : -(2 ^ 64) < i ∧ i < 2 ^ 64 := by
  unfold in64 at h
  simp only [Bool.and_eq_true] at h
  have := geO_of h.1 h1
  have := leO_of h.2 h2
  omega
theorem rowA_of {a x : Ab} {lo hi : Nat} {w : W} (h : rowA a = some (x, lo, hi)) (g : gam R S a w) : ∃ ws, w = .tup ws ∧ lo ≤ ws.length ∧ ws.length ≤ hi ∧ ∀ y ∈ ws, gam R S x y := by
  cases a <;> first | (cases h; done) | skip
  · unfold gam at g
    obtain ⟨ws, rfl, h1⟩ := g
    cases h
    refine ⟨ws, rfl, Nat.le_of_eq (gams_len h1), Nat.le_of_eq (gams_len h1).symm, fun y hy => ?_⟩
    obtain ⟨a, ha, hw⟩ := gams_mem h1 hy
    exact joinAll_of ha hw
  · unfold gam at g
    cases h
    exact g
theorem rowL_of {a x : Ab} {lo hi : Nat} {w : W} (h : rowL a = some (x, lo, hi)) (g : gam R S a w) : ∃ n ws, w = .ref n ∧ ¬ R.own n ∧ S[n]? = some (.lst true ws) ∧ lo ≤ ws.length ∧ ws.length ≤ hi ∧ ∀ y ∈ ws, gam R S x y := by
  cases a <;> first | (cases h; done) | skip
  · unfold gam at g
    obtain ⟨n, ws, rfl, h0, h0', h1⟩ := g
    cases h
    refine ⟨n, ws, rfl, h0, h0', Nat.le_of_eq (gams_len h1), Nat.le_of_eq (gams_len h1).symm, fun y hy => ?_⟩
    obtain ⟨a, ha, hw⟩ := gams_mem h1 hy
    exact joinAll_of ha hw
  · unfold gam at g
    cases h
    exact g
theorem new_row {a : Ab} {lo hi : Nat} {ws : List W} (i : R.inv S) (h1 : lo ≤ ws.length) (h2 : ws.length ≤ hi) (h3 : ∀ x ∈ ws, gam R S a x) : OkE R S (.lsts a lo hi) (newL ws S) := by
  refine .new i ?_
  unfold gam
  exact ⟨S.length, ws, rfl, not_own_new i, by simp, h1, h2, fun x hx => gam_le (.new i _) a x (h3 x hx)⟩
theorem new_lst {as : List Ab} {ws : List W} (i : R.inv S) (h : gams R S as ws) : OkE R S (.lst as) (newL ws S) := by
  refine .new i ?_
  unfold gam
  exact ⟨S.length, ws, rfl, not_own_new i, by simp, gams_le (.new i _) as ws h⟩
theorem hiI_le {o : Option Int} {i j : Int} (h : hiI o i) (k : j ≤ i) : hiI o j := by
  cases o with
  | none => trivial
  | some a =>
    have h' : i ≤ a := h
    show j ≤ a
    omega
theorem op2_tup {a b : List W} (h : a.length + b.length ≤ sizeLine) : op2 S .add (.tup a) (.tup b) = some (.ok (.tup (a ++ b)) S) := by
  show (if a.length + b.length ≤ sizeLine then okW (W.tup (a ++ b)) S else none) = _
  rw [if_pos h]
  rfl
theorem op2_str {a b : Str} (h : a.length + b.length ≤ sizeLine) : op2 S .add (.str a) (.str b) = some (.ok (.str (a ++ b)) S) := by
  show (if a.length + b.length ≤ sizeLine then okW (W.str (a ++ b)) S else none) = _
  rw [if_pos h]
  rfl
theorem gams_reps {as : List Ab} {ws : List W} (h : gams R S as ws) : ∀ n : Nat, gams R S (List.replicate n as).flatten (List.replicate n ws).flatten
  | 0 => by unfold gams; trivial
  | n + 1 => by
    rw [List.replicate_succ, List.replicate_succ, List.flatten_cons, List.flatten_cons]
    exact gams_app h (gams_reps h n)
theorem op2A_of {o : Op2} {a b c : Ab} {x y : W} (h : op2A o a b = some c) (i : R.inv S) (g : gam R S a x) (g' : gam R S b y) : OkE R S c (op2 S o x y) := by
  unfold op2A at h
  split at h
  · cases h
    unfold gam at g g'
    obtain ⟨n, rfl, h1, h2⟩ := g
    obtain ⟨m, rfl, h3, h4⟩ := g'
    refine .pure i ?_
    unfold gam
    exact ⟨_, rfl, addO_lo h1 h3, addO_hi h2 h4⟩
  · cases h
    unfold gam at g g'
    obtain ⟨n, rfl, h1, h2⟩ := g
    obtain ⟨m, rfl, h3, h4⟩ := g'
    refine .pure i ?_
    unfold gam
    exact ⟨_, rfl, by rw [Int.sub_eq_add_neg]; exact addO_lo h1 (negO_lo h4), by rw [Int.sub_eq_add_neg]; exact addO_hi h2 (negO_hi h3)⟩
  · split at h
    · rename_i hb
      unfold gam at g g'
      obtain ⟨n, rfl, h1, h2⟩ := g
      obtain ⟨m, rfl, h3, h4⟩ := g'
      have ok : MulOk n m := by
        refine .inl ?_
        rcases Bool.or_eq_true _ _ ▸ hb with q | q
        · exact .inl (in64_of q h1 h2)
        · exact .inr (in64_of q h3 h4)
      have e : op2 S .mul (.int n) (.int m) = okW (.int (n * m)) S := by
        show (if MulOk n m then okW (W.int (n * m)) S else none) = _
        rw [if_pos ok]
      rw [e]
      refine .pure i ?_
      split at h <;> cases h
      · rename_i hp
        simp only [Bool.and_eq_true] at hp
        have p1 := geO_of hp.1 h1
        have p2 := geO_of hp.2 h3
        unfold gam
        exact ⟨_, rfl, Int.mul_nonneg p1 p2, mulO_hi p1 p2 h2 h4⟩
      · unfold gam
        exact ⟨_, rfl, trivial, trivial⟩
    · cases h
  · split at h
    · rename_i hb
      cases h
      unfold gam at g g'
      obtain ⟨n, rfl, h1, h2⟩ := g
      obtain ⟨m, rfl, h3, h4⟩ := g'
      have p := geO_of hb h3
      have e : op2 S .mod (.int n) (.int m) = okW (.int (n.fmod m)) S := by
        show (if m ≠ 0 then okW (W.int (n.fmod m)) S else none) = _
        rw [if_pos (by omega)]
      rw [e]
      refine .pure i ?_
      unfold gam
      have q1 := Int.fmod_nonneg_of_pos n (b := m) (by omega)
      have q2 := Int.fmod_lt_of_pos n (b := m) (by omega)
      exact ⟨_, rfl, q1, addO_hi (i := m) (j := -1) h4 (Int.le_refl _) |> fun z => by
        cases hh : addO _ (some (-1)) with
        | none => trivial
        | some k =>
          rw [hh] at z
          have z' : m + -1 ≤ k := z
          show n.fmod m ≤ k
          omega⟩
    · cases h
  · split at h
    · rename_i hb
      simp only [Bool.and_eq_true] at hb
      unfold gam at g g'
      obtain ⟨n, rfl, h1, h2⟩ := g
      obtain ⟨m, rfl, h3, h4⟩ := g'
      have p1 := geO_of hb.1 h3
      have p2 := leO_of hb.2 h4
      have ok : CDivN n m := ⟨by omega, by omega⟩
      have e : op2 S .fdiv (.int n) (.int m) = okW (.int (n.fdiv m)) S := by
        show (if CDivN n m ∨ CDivW n m then okW (W.int (n.fdiv m)) S else none) = _
        rw [if_pos (.inl ok)]
      rw [e]
      refine .pure i ?_
      split at h <;> cases h
      · rename_i hp
        have q := geO_of hp h1
        unfold gam
        have e2 : n.fdiv m = n / m := Int.fdiv_eq_ediv_of_nonneg _ (by omega)
        refine ⟨_, rfl, by rw [e2]; exact Int.ediv_nonneg q (by omega), ?_⟩
        have q2 : n / m ≤ n := Int.ediv_le_self _ q
        exact hiI_le h2 (by omega)
      · unfold gam
        exact ⟨_, rfl, trivial, trivial⟩
    · cases h
  · split at h
    · rename_i hb
      obtain ⟨rfl, rfl, hp⟩ := hb
      cases h
      unfold gam at g g'
      obtain ⟨n, rfl, h1, h2⟩ := g
      obtain ⟨m, rfl, h3, h4⟩ := g'
      obtain rfl : n = _ := Int.le_antisymm h2 h1
      obtain rfl : m = _ := Int.le_antisymm h4 h3
      have e : op2 S .pow (.int n) (.int m) = okW (.int (n ^ m.toNat)) S := by
        show (if CPow n m then okW (W.int (n ^ m.toNat)) S else none) = _
        rw [if_pos hp]
      rw [e]
      refine .pure i ?_
      unfold gam
      exact ⟨_, rfl, Int.le_refl _, Int.le_refl _⟩
    · cases h
  · split at h
    · rename_i hb
      obtain ⟨rfl, h1, h2, h3⟩ := hb
      cases h
      unfold gam at g g'
      subst g
      obtain ⟨n, rfl, h4, h5⟩ := g'
      obtain rfl : n = _ := Int.le_antisymm h5 h4
      refine ⟨.str (Txt.mul _ n), S, by simp only [op2, if_pos (And.intro h1 (And.intro h2 h3))]; rfl, .refl i, ?_⟩
      unfold gam
      rfl
    · cases h
  · split at h
    · rename_i hb
      obtain ⟨rfl, h1, h2, h3, h4⟩ := hb
      cases h
      unfold gam at g g'
      obtain ⟨ws, rfl, gs⟩ := g
      obtain ⟨n, rfl, h5, h6⟩ := g'
      obtain rfl : n = _ := Int.le_antisymm h6 h5
      have hl := gams_len gs
      have ne : ws ≠ [] := fun e => by rw [e, List.length_nil] at hl; omega
      refine ⟨.tup (List.replicate n.toNat ws).flatten, S, by simp only [op2, if_pos (And.intro ne (And.intro h1 (And.intro h2 (show ws.length ≤ 1000 by omega))))]; rfl, .refl i, ?_⟩
      unfold gam
      exact ⟨_, rfl, gams_reps gs n.toNat⟩
    · cases h
  · split at h
    · rename_i hb
      obtain ⟨rfl, h1, h2, h3, h4⟩ := hb
      cases h
      unfold gam at g g'
      obtain ⟨ws, rfl, l1, l2, gs⟩ := g
      obtain ⟨n, rfl, h5, h6⟩ := g'
      obtain rfl : n = _ := Int.le_antisymm h6 h5
      have ne : ws ≠ [] := fun e => by rw [e, List.length_nil] at l1; omega
      refine ⟨.tup (List.replicate n.toNat ws).flatten, S, by simp only [op2, if_pos (And.intro ne (And.intro h1 (And.intro h2 (show ws.length ≤ 1000 by omega))))]; rfl, .refl i, ?_⟩
      unfold gam
      have fl : (List.replicate n.toNat ws).flatten.length = n.toNat * ws.length := by simp
      refine ⟨_, rfl, by rw [fl]; exact Nat.mul_le_mul_left _ l1, by rw [fl]; exact Nat.mul_le_mul_left _ l2, fun x hx => ?_⟩
      obtain ⟨l, hl, hx⟩ := List.mem_flatten.mp hx
      rw [(List.mem_replicate.mp hl).2] at hx
      exact gs x hx
    · cases h
  · split at h
    · rename_i hz
      cases h
      unfold gam at g g'
      subst g g'
      refine ⟨_, S, op2_str hz, .refl i, ?_⟩
      unfold gam
      rfl
    · cases h
  · split at h
    · rename_i hz
      cases h
      unfold gam at g g'
      obtain ⟨ws, rfl, h1⟩ := g
      obtain ⟨xs, rfl, h2⟩ := g'
      refine ⟨_, S, op2_tup (by rw [← gams_len h1, ← gams_len h2]; exact hz), .refl i, ?_⟩
      unfold gam
      exact ⟨_, rfl, gams_app h1 h2⟩
    · cases h
  · split at h
    · rename_i hz
      cases h
      unfold gam at g g'
      obtain ⟨n, ws, rfl, h0, h0', h1⟩ := g
      obtain ⟨m, xs, rfl, q0, q0', h2⟩ := g'
      have e : op2 S .add (.ref n) (.ref m) = newL (ws ++ xs) S := by
        unfold op2
        simp only [h0', q0']
        rw [if_pos (by rw [← gams_len h1, ← gams_len h2]; exact hz)]
      rw [e]
      exact new_lst i (gams_app h1 h2)
    · cases h
  · split at h
    · rename_i r1 r2
      split at h
      · rename_i hz
        cases h
        obtain ⟨ws, rfl, h1, h2, h3⟩ := rowA_of r1 g
        obtain ⟨xs, rfl, h4, h5, h6⟩ := rowA_of r2 g'
        refine ⟨_, S, op2_tup (by omega), .refl i, ?_⟩
        unfold gam
        refine ⟨_, rfl, by rw [List.length_append]; omega, by rw [List.length_append]; omega, fun x hx => ?_⟩
        rcases List.mem_append.mp hx with hx | hx
        · exact joinA_l (h3 x hx)
        · exact joinA_r (h6 x hx)
      · cases h
    · split at h
      · rename_i r1 r2
        split at h
        · rename_i hz
          cases h
          obtain ⟨n, ws, rfl, z1, z2, h1, h2, h3⟩ := rowL_of r1 g
          obtain ⟨m, xs, rfl, y1, y2, h4, h5, h6⟩ := rowL_of r2 g'
          have e : op2 S .add (.ref n) (.ref m) = newL (ws ++ xs) S := by
            unfold op2
            simp only [z2, y2]
            rw [if_pos (by omega)]
          rw [e]
          refine new_row i (by rw [List.length_append]; omega) (by rw [List.length_append]; omega) fun x hx => ?_
          rcases List.mem_append.mp hx with hx | hx
          · exact joinA_l (h3 x hx)
          · exact joinA_r (h6 x hx)
        · cases h
      · cases h
  · cases h
def op2U (o : Op2) (a b : Ab) : Option Ab := (allO (liftU2 (op2A o) a b)).map joinAll
theorem lift2_ok {f : Ab → Ab → Option Ab} {r : Sto → W → W → Rs W} (hf : ∀ {a b c : Ab} {x y : W}, f a b = some c → R.inv S → gam R S a x → gam R S b y → OkE R S c (r S x y)) {a b c : Ab} {x y : W} (h : (allO (liftU2 f a b)).map joinAll = some c) (i : R.inv S) (g : gam R S a x) (g' : gam R S b y) : OkE R S c (r S x y) := by
  simp only [Option.map_eq_some_iff] at h
  obtain ⟨l, h1, rfl⟩ := h
  obtain ⟨a', b', ga, gb, hm⟩ := liftU2_of (f := f) g g'
  obtain ⟨c', h2, h3⟩ := allO_of h1 hm
  exact (hf h2 i ga gb).mono fun S' w q => joinAll_of h3 q
theorem lift1_ok {f : Ab → Option Ab} {r : Sto → W → Rs W} (hf : ∀ {a c : Ab} {x : W}, f a = some c → R.inv S → gam R S a x → OkE R S c (r S x)) {a c : Ab} {x : W} (h : (allO (liftU f a)).map joinAll = some c) (i : R.inv S) (g : gam R S a x) : OkE R S c (r S x) := by
  simp only [Option.map_eq_some_iff] at h
  obtain ⟨l, h1, rfl⟩ := h
  obtain ⟨a', ga, hm⟩ := liftU_of (f := f) g
  obtain ⟨c', h2, h3⟩ := allO_of h1 hm
  exact (hf h2 i ga).mono fun S' w q => joinAll_of h3 q
theorem op2U_of {o : Op2} {a b c : Ab} {x y : W} (h : op2U o a b = some c) (i : R.inv S) (g : gam R S a x) (g' : gam R S b y) : OkE R S c (op2 S o x y) :=
  lift2_ok (f := op2A o) (r := fun S x y => op2 S o x y) (fun q i g g' => op2A_of q i g g') h i g g'
end
end Co
namespace Co
open PySem L2

/-! ### comparisons -/
def ltO : Option Int → Option Int → Bool
  | some a, some b => decide (a < b)
  | _, _ => true
def lqO : Option Int → Option Int → Bool
  | some a, some b => decide (a ≤ b)
  | _, _ => true
def apart : Option Int → Option Int → Option Int → Option Int → Bool
  | some a, some b, some c, some d => !(decide (a = b) && decide (c = d) && decide (a = c))
  | _, _, _, _ => true
theorem ltO_of {a b : Option Int} {i j : Int} (h : loI a i) (h' : hiI b j) (k : i < j) : ltO a b = true := by
  cases a <;> cases b <;> first | rfl | skip
  rename_i a b
  have h1 : a ≤ i := h
  have h2 : j ≤ b := h'
  exact decide_eq_true (by omega)
theorem lqO_of {a b : Option Int} {i j : Int} (h : loI a i) (h' : hiI b j) (k : i ≤ j) : lqO a b = true := by
  cases a <;> cases b <;> first | rfl | skip
  rename_i a b
  have h1 : a ≤ i := h
  have h2 : j ≤ b := h'
  exact decide_eq_true (by omega)
theorem apart_of {a b c d : Option Int} {i j : Int} (h1 : loI a i) (h2 : hiI b i) (h3 : loI c j) (h4 : hiI d j) (k : i ≠ j) : apart a b c d = true := by
  cases a <;> cases b <;> cases c <;> cases d <;> first | rfl | skip
  rename_i a b c d
  have h1 : a ≤ i := h1
  have h2 : i ≤ b := h2
  have h3 : c ≤ j := h3
  have h4 : j ≤ d := h4
  show (!(decide (a = b) && decide (c = d) && decide (a = c))) = true
  rw [Bool.not_eq_true', Bool.eq_false_iff]
  intro z
  simp only [Bool.and_eq_true, decide_eq_true_eq] at z
  omega
def flatA : Ab → Bool
  | .non => true
  | .bl _ _ => true
  | .int _ _ => true
  | .str _ => true
  | .stx _ => true
  | _ => false
/-- the one value -/
def ptA : Ab → Option W
  | .str x => some (.str x)
  | .int (some l) (some h) => if l = h then some (.int l) else none
  | _ => none
def eqP (y a : Ab) : Bool := match ptA y, ptA a with
  | some v, some w => eqF v w
  | _, _ => false
def inA (a : Ab) (as : List Ab) : TB :=
  if ((ptA a).isSome && as.all fun y => (ptA y).isSome) = true then (as.any fun y => eqP y a, !(as.any fun y => eqP y a)) else (true, true)
def cmpA : Cm → Ab → Ab → Option TB
  | .lt, .int l h, .int l' h' => some (ltO l h', lqO l' h)
  | .le, .int l h, .int l' h' => some (lqO l h', ltO l' h)
  | .gt, .int l h, .int l' h' => some (ltO l' h, lqO l h')
  | .ge, .int l h, .int l' h' => some (lqO l' h, ltO l h')
  | .eq, .int l h, .int l' h' => some (lqO l h' && lqO l' h, apart l h l' h')
  | .ne, .int l h, .int l' h' => some (apart l h l' h', lqO l h' && lqO l' h)
  | .eq, .str x, .str y => some (decide (x = y), !decide (x = y))
  | .ne, .str x, .str y => some (!decide (x = y), decide (x = y))
  | .eq, .stx _, .str _ => some (true, true)
  | .ne, .stx _, .str _ => some (true, true)
  | .eq, .stx _, .stx _ => some (true, true)
  | .ne, .stx _, .stx _ => some (true, true)
  | .isN, .non, .non => some (true, false)
  | .notN, .non, .non => some (false, true)
  | .isN, .bl _ _, .non => some (false, true)
  | .isN, .int _ _, .non => some (false, true)
  | .isN, .str _, .non => some (false, true)
  | .isN, .stx _, .non => some (false, true)
  | .isN, .tup _, .non => some (false, true)
  | .isN, .tups _ _ _, .non => some (false, true)
  | .isN, .lst _, .non => some (false, true)
  | .isN, .lsts _ _ _, .non => some (false, true)
  | .notN, .bl _ _, .non => some (true, false)
  | .notN, .int _ _, .non => some (true, false)
  | .notN, .str _, .non => some (true, false)
  | .notN, .stx _, .non => some (true, false)
  | .notN, .tup _, .non => some (true, false)
  | .notN, .tups _ _ _, .non => some (true, false)
  | .notN, .lst _, .non => some (true, false)
  | .notN, .lsts _ _ _, .non => some (true, false)
  | .in_, a, .tup as => if flatA a && as.all flatA then some (inA a as) else none
  | .in_, a, .lst as => if flatA a && as.all flatA then some (inA a as) else none
  | .in_, a, .tups b _ _ => if flatA a && flatA b then some (true, true) else none
  | .in_, a, .lsts b _ _ => if flatA a && flatA b then some (true, true) else none
  | .nin, a, .tup as => if flatA a && as.all flatA then some ((inA a as).2, (inA a as).1) else none
  | .nin, a, .lst as => if flatA a && as.all flatA then some ((inA a as).2, (inA a as).1) else none
  | .nin, a, .tups b _ _ => if flatA a && flatA b then some (true, true) else none
  | .nin, a, .lsts b _ _ => if flatA a && flatA b then some (true, true) else none
  | _, _, _ => none
def cmpU (c : Cm) (a b : Ab) : Option TB := tbAll (liftU2 (cmpA c) a b)
section
variable {R : Rsc} {S : Sto}
theorem flat_gam {a : Ab} {w : W} (h : flatA a = true) (g : gam R S a w) : flatW w = true := by
  cases a <;> first | (cases h; done) | skip
  · unfold gam at g; subst g; rfl
  · unfold gam at g; obtain ⟨b, rfl, _⟩ := g; rfl
  · unfold gam at g; obtain ⟨b, rfl, _⟩ := g; rfl
  · unfold gam at g; subst g; rfl
  · unfold gam at g; obtain ⟨b, rfl, _⟩ := g; rfl
theorem flats_gam : ∀ {as : List Ab} {ws : List W}, as.all flatA = true → gams R S as ws → ws.all flatW = true
  | [], [], _, _ => rfl
  | [], _ :: _, _, g => by unfold gams at g; exact g.elim
  | _ :: _, [], _, g => by unfold gams at g; exact g.elim
  | a :: as, w :: ws, h, g => by
    unfold gams at g
    simp only [List.all_cons, Bool.and_eq_true] at h ⊢
    exact ⟨flat_gam h.1 g.1, flats_gam h.2 g.2⟩
theorem ptA_of {a : Ab} {v w : W} (h : ptA a = some v) (g : gam R S a w) : w = v := by
  unfold ptA at h
  split at h
  · cases h
    unfold gam at g
    exact g
  · split at h
    · rename_i e
      cases h
      unfold gam at g
      obtain ⟨i, rfl, h1, h2⟩ := g
      have h1' : _ ≤ i := h1
      have h2' : i ≤ _ := h2
      congr 1
      omega
    · cases h
  · cases h
theorem any_pt {a : Ab} {v : W} (ha : ptA a = some v) : ∀ {as : List Ab} {ws : List W}, (as.all fun y => (ptA y).isSome) = true → gams R S as ws → (ws.any fun y => eqF y v) = as.any fun y => eqP y a
  | [], [], _, _ => rfl
  | [], _ :: _, _, g => by unfold gams at g; exact g.elim
  | _ :: _, [], _, g => by unfold gams at g; exact g.elim
  | b :: as, w :: ws, h, g => by
    unfold gams at g
    simp only [List.all_cons, Bool.and_eq_true] at h
    obtain ⟨u, hu⟩ := Option.isSome_iff_exists.mp h.1
    have := ptA_of hu g.1
    subst this
    rw [List.any_cons, List.any_cons, any_pt ha h.2 g.2]
    unfold eqP
    rw [hu, ha]
theorem inA_of {a : Ab} {as : List Ab} {w : W} {ws : List W} (g : gam R S a w) (gs : gams R S as ws) : okB (inA a as) (ws.any fun y => eqF y w) := by
  unfold inA
  by_cases h : ((ptA a).isSome && as.all fun y => (ptA y).isSome) = true
  · rw [if_pos h]
    simp only [Bool.and_eq_true] at h
    obtain ⟨u, hu⟩ := Option.isSome_iff_exists.mp h.1
    have := ptA_of hu g
    subst this
    rw [any_pt hu h.2 gs]
    exact ⟨fun e => e, fun e => by simp only [e]; rfl⟩
  · rw [if_neg h]
    exact ⟨fun _ => rfl, fun _ => rfl⟩
theorem okB_not {q : TB} {b : Bool} (h : okB q b) : okB (q.2, q.1) (!b) := ⟨fun e => h.2 (by simpa using e), fun e => h.1 (by simpa using e)⟩
theorem cmp_in {x y : W} {ws : List W} (hy : itemsW S y = some ws) (hx : flatW x = true) (hf : ws.all flatW = true) : cmpW S .in_ x y = some (ws.any fun z => eqF z x) := by
  have ny : ∀ j, y ≠ .str j := fun j e => by rw [e] at hy; simp [itemsW] at hy
  have e : cmpW S .in_ x y = (match itemsW S y with
    | some ws => if flatW x = true ∧ ws.all flatW = true then some (ws.any fun y => eqF y x) else none
    | none => none) := by
    cases y <;> first | (exact absurd rfl (ny _)) | skip
    all_goals cases x <;> rfl
  rw [e, hy]
  simp only [hx, hf, and_self, if_true]
theorem cmp_nin {x y : W} {ws : List W} (hy : itemsW S y = some ws) (hx : flatW x = true) (hf : ws.all flatW = true) : cmpW S .nin x y = some (!ws.any fun z => eqF z x) := by
  have ny : ∀ j, y ≠ .str j := fun j e => by rw [e] at hy; simp [itemsW] at hy
  have e : cmpW S .nin x y = (match itemsW S y with
    | some ws => if flatW x = true ∧ ws.all flatW = true then some (!ws.any fun y => eqF y x) else none
    | none => none) := by
    cases y <;> first | (exact absurd rfl (ny _)) | skip
    all_goals cases x <;> rfl
  rw [e, hy]
  simp only [hx, hf, and_self, if_true]
theorem all_flat {a : Ab} {ws : List W} (h : flatA a = true) (g : ∀ x ∈ ws, gam R S a x) : ws.all flatW = true := List.all_eq_true.mpr fun x hx => flat_gam h (g x hx)
theorem items_lst {n : Nat} {ws : List W} (h : S[n]? = some (.lst true ws)) : itemsW S (.ref n) = some ws := by simp [itemsW, h]
theorem cmpA_of {c : Cm} {a b : Ab} {q : TB} {x y : W} (h : cmpA c a b = some q) (g : gam R S a x) (g' : gam R S b y) : ∃ r, cmpW S c x y = some r ∧ okB q r := by
  unfold cmpA at h
  split at h
  case h_1 | h_2 | h_3 | h_4 | h_5 | h_6 =>
    cases h
    unfold gam at g g'
    obtain ⟨i, rfl, h1, h2⟩ := g
    obtain ⟨j, rfl, h3, h4⟩ := g'
    refine ⟨_, rfl, ?_⟩
    constructor <;> intro e <;> simp only [decide_eq_true_eq, decide_eq_false_iff_not, Int.not_lt, Int.not_le, Bool.not_eq_true', Bool.not_eq_false', Bool.and_eq_true] at e ⊢
    all_goals first
      | exact ltO_of h1 h4 e
      | exact lqO_of h3 h2 e
      | exact lqO_of h1 h4 e
      | exact ltO_of h3 h2 e
      | exact ⟨lqO_of h1 h4 (by omega), lqO_of h3 h2 (by omega)⟩
      | exact apart_of h1 h2 h3 h4 e
  case h_7 | h_8 =>
    cases h
    unfold gam at g g'
    subst g g'
    refine ⟨_, rfl, ?_⟩
    constructor <;> intro e <;> simpa using e
  case h_9 | h_10 =>
    cases h
    unfold gam at g g'
    obtain ⟨i, rfl, h1⟩ := g
    subst g'
    exact ⟨_, rfl, fun _ => rfl, fun _ => rfl⟩
  case h_11 | h_12 =>
    cases h
    unfold gam at g g'
    obtain ⟨i, rfl, h1⟩ := g
    obtain ⟨j, rfl, h2⟩ := g'
    exact ⟨_, rfl, fun _ => rfl, fun _ => rfl⟩
  case h_31 | h_35 =>
    split at h
    · rename_i hb
      simp only [Bool.and_eq_true] at hb
      cases h
      unfold gam at g'
      obtain ⟨ws, rfl, h1⟩ := g'
      first
        | exact ⟨_, cmp_in (ws := ws) rfl (flat_gam hb.1 g) (flats_gam hb.2 h1), inA_of g h1⟩
        | exact ⟨_, cmp_nin (ws := ws) rfl (flat_gam hb.1 g) (flats_gam hb.2 h1), okB_not (inA_of g h1)⟩
    · cases h
  case h_32 | h_36 =>
    split at h
    · rename_i hb
      simp only [Bool.and_eq_true] at hb
      cases h
      unfold gam at g'
      obtain ⟨n, ws, rfl, _, h0, h1⟩ := g'
      first
        | exact ⟨_, cmp_in (items_lst h0) (flat_gam hb.1 g) (flats_gam hb.2 h1), inA_of g h1⟩
        | exact ⟨_, cmp_nin (items_lst h0) (flat_gam hb.1 g) (flats_gam hb.2 h1), okB_not (inA_of g h1)⟩
    · cases h
  case h_33 | h_37 =>
    split at h
    · rename_i hb
      simp only [Bool.and_eq_true] at hb
      cases h
      unfold gam at g'
      obtain ⟨ws, rfl, _, _, h1⟩ := g'
      first
        | exact ⟨_, cmp_in (ws := ws) rfl (flat_gam hb.1 g) (all_flat hb.2 h1), fun _ => rfl, fun _ => rfl⟩
        | exact ⟨_, cmp_nin (ws := ws) rfl (flat_gam hb.1 g) (all_flat hb.2 h1), fun _ => rfl, fun _ => rfl⟩
    · cases h
  case h_34 | h_38 =>
    split at h
    · rename_i hb
      simp only [Bool.and_eq_true] at hb
      cases h
      unfold gam at g'
      obtain ⟨n, ws, rfl, _, h0, _, _, h1⟩ := g'
      first
        | exact ⟨_, cmp_in (items_lst h0) (flat_gam hb.1 g) (all_flat hb.2 h1), fun _ => rfl, fun _ => rfl⟩
        | exact ⟨_, cmp_nin (items_lst h0) (flat_gam hb.1 g) (all_flat hb.2 h1), fun _ => rfl, fun _ => rfl⟩
    · cases h
  case h_39 => cases h
  all_goals
    cases h
    unfold gam at g g'
    subst g'
    first
      | (subst g; exact ⟨_, rfl, (fun e => by first | rfl | cases e), (fun e => by first | rfl | cases e)⟩)
      | (obtain ⟨i, rfl, _⟩ := g; exact ⟨_, rfl, (fun e => by first | rfl | cases e), (fun e => by first | rfl | cases e)⟩)
      | (obtain ⟨i, j, rfl, _⟩ := g; exact ⟨_, rfl, (fun e => by first | rfl | cases e), (fun e => by first | rfl | cases e)⟩)
theorem cmpU_of {c : Cm} {a b : Ab} {q : TB} {x y : W} (h : cmpU c a b = some q) (g : gam R S a x) (g' : gam R S b y) : ∃ r, cmpW S c x y = some r ∧ okB q r := by
  obtain ⟨a', b', ga, gb, hm⟩ := liftU2_of (f := cmpA c) g g'
  obtain ⟨p, h1, h2⟩ := tbAll_of h hm
  obtain ⟨r, h3, h4⟩ := cmpA_of h1 ga gb
  exact ⟨r, h3, h2 r h4⟩
end
/-! ### a[i] -/
def idxA : Ab → Ab → Option Ab
  | .tup as, .int (some l) (some h) => if -(as.length : Int) ≤ l ∧ h < as.length then some (joinAll ((as.zipIdx.filter fun p => (decide (l ≤ p.2) && decide ((p.2 : Int) ≤ h)) || (decide (l ≤ (p.2 : Int) - as.length) && decide ((p.2 : Int) - as.length ≤ h))).map (·.1))) else none
  | .lst as, .int (some l) (some h) => if -(as.length : Int) ≤ l ∧ h < as.length then some (joinAll ((as.zipIdx.filter fun p => (decide (l ≤ p.2) && decide ((p.2 : Int) ≤ h)) || (decide (l ≤ (p.2 : Int) - as.length) && decide ((p.2 : Int) - as.length ≤ h))).map (·.1))) else none
  | .tups a lo _, .int (some l) (some h) => if -(lo : Int) ≤ l ∧ h < lo then some a else none
  | .lsts a lo _, .int (some l) (some h) => if -(lo : Int) ≤ l ∧ h < lo then some a else none
  | _, _ => none
def idxU (a b : Ab) : Option Ab := (allO (liftU2 idxA a b)).map joinAll
section
variable {R : Rsc} {S : Sto}
theorem atI_of {α : Type} {ws : List α} {i : Int} (h1 : -(ws.length : Int) ≤ i) (h2 : i < ws.length) : ∃ (j : Nat) (x : α), ws[j]? = some x ∧ atI ws i = some x ∧ (((j : Int) = i) ∨ ((j : Int) - ws.length = i)) := by
  unfold atI ixN
  by_cases h0 : 0 ≤ i
  · have hj : i.toNat < ws.length := by omega
    refine ⟨i.toNat, ws[i.toNat], by simp [hj], ?_, .inl (by omega)⟩
    rw [if_pos h0, if_pos h2]
    simp [hj]
  · have hj : (i + ws.length).toNat < ws.length := by omega
    refine ⟨(i + ws.length).toNat, ws[(i + ws.length).toNat], by simp [hj], ?_, .inr (by omega)⟩
    rw [if_neg h0, if_pos h1]
    simp [hj]
theorem pick_exact {as : List Ab} {ws : List W} {l h : Int} {i : Int} (g : gams R S as ws) (h1 : -(as.length : Int) ≤ l) (h2 : h < as.length) (hl : l ≤ i) (hh : i ≤ h) :
    ∃ x, atI ws i = some x ∧ gam R S (joinAll ((as.zipIdx.filter fun p => (decide (l ≤ p.2) && decide ((p.2 : Int) ≤ h)) || (decide (l ≤ (p.2 : Int) - as.length) && decide ((p.2 : Int) - as.length ≤ h))).map (·.1))) x := by
  have hlen := gams_len g
  obtain ⟨j, x, e1, e2, e3⟩ := atI_of (ws := ws) (i := i) (by omega) (by omega)
  obtain ⟨a, q1, q2⟩ := gams_get g e1
  refine ⟨x, e2, joinAll_of (a := a) ?_ q2⟩
  refine List.mem_map.mpr ⟨(a, j), List.mem_filter.mpr ⟨?_, ?_⟩, rfl⟩
  · rw [List.mem_zipIdx_iff_getElem?]
    exact q1
  · simp only [Bool.or_eq_true, Bool.and_eq_true, decide_eq_true_eq]
    rcases e3 with e3 | e3
    · exact .inl ⟨by omega, by omega⟩
    · exact .inr ⟨by omega, by omega⟩
theorem idxA_of {a b c : Ab} {x y : W} (h : idxA a b = some c) (g : gam R S a x) (g' : gam R S b y) : ∃ w, ixW S x y = some w ∧ gam R S c w := by
  unfold idxA at h
  split at h
  case h_1 =>
    split at h
    · rename_i hb
      cases h
      unfold gam at g g'
      obtain ⟨ws, rfl, h1⟩ := g
      obtain ⟨i, rfl, h2, h3⟩ := g'
      exact pick_exact h1 hb.1 hb.2 h2 h3
    · cases h
  case h_2 =>
    split at h
    · rename_i hb
      cases h
      unfold gam at g g'
      obtain ⟨n, ws, rfl, _, h0, h1⟩ := g
      obtain ⟨i, rfl, h2, h3⟩ := g'
      obtain ⟨w, e1, e2⟩ := pick_exact h1 hb.1 hb.2 h2 h3
      exact ⟨w, by simp [ixW, h0, e1], e2⟩
    · cases h
  case h_3 =>
    split at h
    · rename_i hb
      cases h
      unfold gam at g g'
      obtain ⟨ws, rfl, h1, h1', h4⟩ := g
      obtain ⟨i, rfl, h2, h3⟩ := g'
      have h2' : _ ≤ i := h2
      have h3' : i ≤ _ := h3
      obtain ⟨j, x, e1, e2, _⟩ := atI_of (ws := ws) (i := i) (by omega) (by omega)
      exact ⟨x, e2, h4 x (List.mem_of_getElem? e1)⟩
    · cases h
  case h_4 =>
    split at h
    · rename_i hb
      cases h
      unfold gam at g g'
      obtain ⟨n, ws, rfl, _, h0, h1, h1', h4⟩ := g
      obtain ⟨i, rfl, h2, h3⟩ := g'
      have h2' : _ ≤ i := h2
      have h3' : i ≤ _ := h3
      obtain ⟨j, x, e1, e2, _⟩ := atI_of (ws := ws) (i := i) (by omega) (by omega)
      exact ⟨x, by simp [ixW, h0, e2], h4 x (List.mem_of_getElem? e1)⟩
    · cases h
  case h_5 => cases h
theorem idxU_of {a b c : Ab} {x y : W} (h : idxU a b = some c) (g : gam R S a x) (g' : gam R S b y) : ∃ w, ixW S x y = some w ∧ gam R S c w := by
  unfold idxU at h
  simp only [Option.map_eq_some_iff] at h
  obtain ⟨l, h1, rfl⟩ := h
  obtain ⟨a', b', ga, gb, hm⟩ := liftU2_of (f := idxA) g g'
  obtain ⟨c', h2, h3⟩ := allO_of h1 hm
  obtain ⟨w, h4, h5⟩ := idxA_of h2 ga gb
  exact ⟨w, h4, joinAll_of h3 h5⟩
end
end Co
namespace Co
open PySem L2

/-! ### a[lo:hi] -/
def altsO : Option Ab → List (Option Ab)
  | none => [none]
  | some a => (alts a).map some
def gamO (R : Rsc) (S : Sto) : Option Ab → Option Int → Prop
  | none, o => o = none
  | some a, o => ∃ i, o = some i ∧ gam R S a (.int i)
def exactO : Option Ab → Option (Option Int)
  | none => some none
  | some (.int (some l) (some h)) => if l = h then some (some l) else none
  | _ => none
def isIntO : Option Ab → Bool
  | none => true
  | some (.int _ _) => true
  | _ => false
def rngO : Option Ab → Option (Option (Nat × Nat))
  | none => some none
  | some (.int (some l) (some h)) => if 0 ≤ l then some (some (l.toNat, h.toNat)) else none
  | _ => none
/-- the lengths of a piece -/
def cutR (lo hi : Nat) (l h : Option Ab) : Nat × Nat :=
  match rngO l, rngO h with
  | some (some (a, b)), some none => (lo - b, hi - a)
  | some none, some (some (a, b)) => (if lo ≤ a then lo else a, if hi ≤ b then hi else b)
  | some none, some none => (lo, hi)
  | _, _ => (0, hi)
def slA (a : Ab) (l h : Option Ab) : Option Ab :=
  match a with
  | .tup as => match exactO l, exactO h with
    | some l, some h => some (.tup (cutW as l h))
    | _, _ => if isIntO l && isIntO h then some (.tups (joinAll as) (cutR as.length as.length l h).1 (cutR as.length as.length l h).2) else none
  | .lst as => match exactO l, exactO h with
    | some l, some h => some (.lst (cutW as l h))
    | _, _ => if isIntO l && isIntO h then some (.lsts (joinAll as) (cutR as.length as.length l h).1 (cutR as.length as.length l h).2) else none
  | .tups a lo hi => if isIntO l && isIntO h then some (.tups a (cutR lo hi l h).1 (cutR lo hi l h).2) else none
  | .lsts a lo hi => if isIntO l && isIntO h then some (.lsts a (cutR lo hi l h).1 (cutR lo hi l h).2) else none
  | .str x => match exactO l, exactO h with
    | some l, some h => if x.length ≤ sizeLine then some (.str (cutS x l h)) else none
    | _, _ => none
  | .scr hi => if isIntO l && isIntO h then some (.lsts (.int none none) (cutR 0 hi l h).1 (cutR 0 hi l h).2) else none
  | _ => none
def slU (a : Ab) (l h : Option Ab) : Option Ab := (allO ((alts a).flatMap fun x => (altsO l).flatMap fun y => (altsO h).map fun z => slA x y z)).map joinAll
section
variable {R : Rsc} {S : Sto}
theorem altsO_of {l : Option Ab} {o : Option Int} (g : gamO R S l o) : ∃ b ∈ altsO l, gamO R S b o := by
  cases l with
  | none => exact ⟨none, List.mem_singleton_self _, g⟩
  | some a =>
    obtain ⟨i, rfl, h⟩ := g
    obtain ⟨b, hb, hw⟩ := alts_of h
    exact ⟨some b, List.mem_map.mpr ⟨b, hb, rfl⟩, i, rfl, hw⟩
theorem exactO_of {l : Option Ab} {o k : Option Int} (h : exactO l = some k) (g : gamO R S l o) : o = k := by
  unfold exactO at h
  split at h
  · cases h; exact g
  · split at h
    · rename_i e
      cases h
      obtain ⟨i, rfl, g⟩ := g
      unfold gam at g
      obtain ⟨j, e1, h1, h2⟩ := g
      cases e1
      subst e
      rw [Int.le_antisymm h2 h1]
    · cases h
  · cases h
theorem cutW_mem {α : Type} {ws : List α} {l h : Option Int} {x : α} (hx : x ∈ cutW ws l h) : x ∈ ws := List.mem_of_mem_drop (List.mem_of_mem_take hx)
theorem cutW_len {α : Type} {ws : List α} {l h : Option Int} : (cutW ws l h).length ≤ ws.length := by
  unfold cutW
  rw [List.length_take, List.length_drop]
  omega
theorem gams_take : ∀ {as : List Ab} {ws : List W} (n : Nat), gams R S as ws → gams R S (as.take n) (ws.take n)
  | [], [], n, h => by rw [List.take_nil, List.take_nil]; exact h
  | [], _ :: _, _, h => by unfold gams at h; exact h.elim
  | _ :: _, [], _, h => by unfold gams at h; exact h.elim
  | a :: as, w :: ws, 0, h => by rw [List.take_zero, List.take_zero]; unfold gams; trivial
  | a :: as, w :: ws, n + 1, h => by
    unfold gams at h
    rw [List.take_succ_cons, List.take_succ_cons]
    unfold gams
    exact ⟨h.1, gams_take n h.2⟩
theorem gams_drop : ∀ {as : List Ab} {ws : List W} (n : Nat), gams R S as ws → gams R S (as.drop n) (ws.drop n)
  | [], [], n, h => by rw [List.drop_nil, List.drop_nil]; exact h
  | [], _ :: _, _, h => by unfold gams at h; exact h.elim
  | _ :: _, [], _, h => by unfold gams at h; exact h.elim
  | a :: as, w :: ws, 0, h => h
  | a :: as, w :: ws, n + 1, h => by
    unfold gams at h
    rw [List.drop_succ_cons, List.drop_succ_cons]
    exact gams_drop n h.2
theorem gams_cut {as : List Ab} {ws : List W} {l h : Option Int} (g : gams R S as ws) : gams R S (cutW as l h) (cutW ws l h) := by
  unfold cutW
  rw [gams_len g]
  exact gams_take _ (gams_drop _ g)
theorem rngO_of {l : Option Ab} {o : Option Int} {k : Option (Nat × Nat)} (h : rngO l = some k) (g : gamO R S l o) : (k = none ∧ o = none) ∨ ∃ a b n : Nat, k = some (a, b) ∧ o = some (n : Int) ∧ a ≤ n ∧ n ≤ b := by
  unfold rngO at h
  split at h
  · cases h
    exact .inl ⟨rfl, g⟩
  · split at h
    · cases h
      obtain ⟨i, rfl, g⟩ := g
      unfold gam at g
      obtain ⟨j, e1, h1, h2⟩ := g
      cases e1
      rename_i l h h0
      have h1' : l ≤ i := h1
      have h2' : i ≤ h := h2
      refine .inr ⟨_, _, i.toNat, rfl, ?_, ?_, ?_⟩
      · congr 1
        omega
      · omega
      · omega
    · cases h
  · cases h
theorem cutR_of {lo hi : Nat} {l h : Option Ab} {o p : Option Int} {ws : List W} (g : gamO R S l o) (g' : gamO R S h p) (h1 : lo ≤ ws.length) (h2 : ws.length ≤ hi) : (cutR lo hi l h).1 ≤ (cutW ws o p).length ∧ (cutW ws o p).length ≤ (cutR lo hi l h).2 := by
  have triv : 0 ≤ (cutW ws o p).length ∧ (cutW ws o p).length ≤ hi := ⟨Nat.zero_le _, Nat.le_trans cutW_len h2⟩
  unfold cutR
  split
  · rename_i a b e1 e2
    rcases rngO_of e1 g with ⟨q, _⟩ | ⟨a', b', n, q, rfl, k1, k2⟩
    · cases q
    · cases q
      rcases rngO_of e2 g' with ⟨_, rfl⟩ | ⟨_, _, _, q, _⟩
      · unfold cutW
        rw [HT.sIx_none, List.length_take, List.length_drop]
        rw [HT.sIx_nat]
        simp only
        omega
      · cases q
  · rename_i a b e1 e2
    rcases rngO_of e2 g' with ⟨q, _⟩ | ⟨a', b', n, q, rfl, k1, k2⟩
    · cases q
    · cases q
      rcases rngO_of e1 g with ⟨_, rfl⟩ | ⟨_, _, _, q, _⟩
      · unfold cutW
        rw [HT.sIx_none, List.length_take, List.length_drop]
        rw [HT.sIx_nat]
        simp only
        constructor <;> split <;> omega
      · cases q
  · rename_i e1 e2
    rcases rngO_of e1 g with ⟨_, rfl⟩ | ⟨_, _, _, q, _⟩
    · rcases rngO_of e2 g' with ⟨_, rfl⟩ | ⟨_, _, _, q, _⟩
      · unfold cutW
        rw [HT.sIx_none, HT.sIx_none, List.length_take, List.length_drop]
        simp only
        omega
      · cases q
    · cases q
  · exact triv
theorem slA_of {a c : Ab} {l h : Option Ab} {x : W} {o p : Option Int} (hs : slA a l h = some c) (i : R.inv S) (g : gam R S a x) (g1 : gamO R S l o) (g2 : gamO R S h p) : OkE R S c (slW S o p x) := by
  unfold slA at hs
  split at hs
  · unfold gam at g
    obtain ⟨ws, rfl, h1⟩ := g
    split at hs
    · rename_i l' h' e1 e2
      cases hs
      rw [← exactO_of e1 g1, ← exactO_of e2 g2]
      refine .pure i ?_
      unfold gam
      exact ⟨_, rfl, gams_cut h1⟩
    · split at hs
      · cases hs
        refine .pure i ?_
        unfold gam
        have q := cutR_of (ws := ws) g1 g2 (Nat.le_of_eq (gams_len h1)) (Nat.le_of_eq (gams_len h1).symm)
        refine ⟨_, rfl, q.1, q.2, fun y hy => ?_⟩
        obtain ⟨a, ha, hw⟩ := gams_mem h1 (cutW_mem hy)
        exact joinAll_of ha hw
      · cases hs
  · unfold gam at g
    obtain ⟨n, ws, rfl, _, h0, h1⟩ := g
    have e : slW S o p (.ref n) = newL (cutW ws o p) S := by simp only [slW, h0]
    rw [e]
    split at hs
    · rename_i l' h' e1 e2
      cases hs
      rw [← exactO_of e1 g1, ← exactO_of e2 g2]
      exact new_lst i (gams_cut h1)
    · split at hs
      · cases hs
        have q := cutR_of (ws := ws) g1 g2 (Nat.le_of_eq (gams_len h1)) (Nat.le_of_eq (gams_len h1).symm)
        refine new_row i q.1 q.2 fun y hy => ?_
        obtain ⟨a, ha, hw⟩ := gams_mem h1 (cutW_mem hy)
        exact joinAll_of ha hw
      · cases hs
  · split at hs
    · cases hs
      unfold gam at g
      obtain ⟨ws, rfl, h1, h2, h3⟩ := g
      have q := cutR_of (ws := ws) g1 g2 h1 h2
      refine .pure i ?_
      unfold gam
      exact ⟨_, rfl, q.1, q.2, fun y hy => h3 y (cutW_mem hy)⟩
    · cases hs
  · split at hs
    · cases hs
      unfold gam at g
      obtain ⟨n, ws, rfl, _, h0, h1, h2, h3⟩ := g
      have e : slW S o p (.ref n) = newL (cutW ws o p) S := by simp only [slW, h0]
      rw [e]
      have q := cutR_of (ws := ws) g1 g2 h1 h2
      exact new_row i q.1 q.2 fun y hy => h3 y (cutW_mem hy)
    · cases hs
  · unfold gam at g
    subst g
    split at hs
    · rename_i l' h' e1 e2
      split at hs
      · rename_i hz
        cases hs
        rw [← exactO_of e1 g1, ← exactO_of e2 g2]
        refine ⟨_, S, by simp only [slW, if_pos hz]; rfl, .refl i, ?_⟩
        unfold gam
        rfl
      · cases hs
    · cases hs
  · split at hs
    · cases hs
      unfold gam at g
      obtain ⟨n, ws, rfl, _, h0, h1, h2⟩ := g
      have e : slW S o p (.ref n) = newL (cutW ws o p) S := by simp only [slW, h0]
      rw [e]
      have q := cutR_of (lo := 0) (ws := ws) g1 g2 (Nat.zero_le _) h1
      refine new_row i q.1 q.2 fun y hy => ?_
      obtain ⟨k, rfl⟩ := h2 y (cutW_mem hy)
      unfold gam
      exact ⟨k, rfl, trivial, trivial⟩
    · cases hs
  · cases hs
theorem slU_of {a c : Ab} {l h : Option Ab} {x : W} {o p : Option Int} (hs : slU a l h = some c) (i : R.inv S) (g : gam R S a x) (g1 : gamO R S l o) (g2 : gamO R S h p) : OkE R S c (slW S o p x) := by
  unfold slU at hs
  simp only [Option.map_eq_some_iff] at hs
  obtain ⟨r, h1, rfl⟩ := hs
  obtain ⟨a', ha, ga⟩ := alts_of g
  obtain ⟨l', hl, gl⟩ := altsO_of g1
  obtain ⟨h', hh, gh⟩ := altsO_of g2
  obtain ⟨c', h2, h3⟩ := allO_of h1 (List.mem_flatMap.mpr ⟨a', ha, List.mem_flatMap.mpr ⟨l', hl, List.mem_map.mpr ⟨h', hh, rfl⟩⟩⟩)
  exact (slA_of h2 i ga gl gh).mono fun S' w q => joinAll_of h3 q
end
/-! ### built-ins -/
def absR : Option Int → Option Int → Ab
  | some l, some h => if 0 ≤ l then .int (some l) (some h) else .int (some 0) (some (max (-l) h))
  | some l, none => if 0 ≤ l then .int (some l) none else .int (some 0) none
  | none, _ => .int (some 0) none
def isIntA0 : Ab → Bool
  | .int _ _ => true
  | _ => false
def blt1A (show_ : Ab → Option Nat) : Blt → Ab → Option Ab
  | .len, .tup as => some (.int (some (as.length : Nat)) (some (as.length : Nat)))
  | .len, .tups _ lo hi => some (.int (some (lo : Nat)) (some (hi : Nat)))
  | .len, .lst as => some (.int (some (as.length : Nat)) (some (as.length : Nat)))
  | .len, .lsts _ lo hi => some (.int (some (lo : Nat)) (some (hi : Nat)))
  | .len, .str x => if x.length ≤ sizeLine then some (.int (some (x.length : Nat)) (some (x.length : Nat))) else none
  | .len, .stx n => if n ≤ sizeLine then some (.int (some 0) (some (n : Nat))) else none
  | .len, .scr hi => some (.int (some 0) (some (hi : Nat)))
  | .int, .int l h => some (.int l h)
  | .int, .bl t f => some (.int (some (if f then 0 else 1)) (some (if t then 1 else 0)))
  | .tuple, .tup as => some (.tup as)
  | .tuple, .tups a lo hi => some (.tups a lo hi)
  | .tuple, .lst as => some (.tup as)
  | .tuple, .lsts a lo hi => some (.tups a lo hi)
  | .list, .tup as => some (.lst as)
  | .list, .tups a lo hi => some (.lsts a lo hi)
  | .list, .lst as => some (.lst as)
  | .list, .lsts a lo hi => some (.lsts a lo hi)
  | .abs, .int l h => some (absR l h)
  | .str, .int (some l) (some h) => if -(10 ^ 18) < l ∧ h < 10 ^ 18 then some (.stx 19) else none
  | .sum, .lsts (.int (some l) (some h)) lo hi => if 0 ≤ l ∧ 1 ≤ lo then some (.int (some (lo * l)) (some (hi * h))) else none
  | .sorted, .lst as => if as.all isIntA0 = true then some (.lsts (joinAll as) as.length as.length) else none
  | .sorted, .lsts a lo hi => if (alts a).all isIntA0 = true then some (.lsts a lo hi) else none
  | .lrng, .int (some l) (some h) => if 0 ≤ l ∧ h ≤ 1000 then some (.lsts (.int (some 0) (some (h - 1))) l.toNat h.toNat) else none
  | .int, .str x => match intText? x with
    | some n => if x.length ≤ 640 then some (.int (some n) (some n)) else none
    | none => none
  | .rev, .tup as => some (.tup as.reverse)
  | .rev, .tups a lo hi => some (.tups a lo hi)
  | .rev, .lst as => some (.lst as.reverse)
  | .rev, .lsts a lo hi => some (.lsts a lo hi)
  | .repr, a => (show_ a).bind fun n => if n ≤ sizeLine then some (.stx (n + 65536)) else none
  | _, _ => none
def strA : Ab → Option Nat
  | .str x => if okc x = true then some x.length else none
  | .stx n => if n < 65536 then some n else none
  | _ => none
def strU (a : Ab) : Option Nat := (allO (liftU strA a)).map mxL
def joinS (z : Str) (a : Ab) : Option Ab := match (rowA a).or (rowL a) with
  | some (x, _, hi) => match strU x with
    | some m => if hi * (m + z.length) < 65536 ∧ okc z = true then some (.stx (hi * (m + z.length))) else none
    | none => none
  | none => none
def blt2A : Blt → Ab → Ab → Option Ab
  | .max2, .int l h, .int l' h' => some (.int (loMin l l') (hiMax h h'))
  | .min2, .int l h, .int l' h' => some (.int (loMin l l') (hiMax h h'))
  | .split, .str x, .str y => if (y.length == 0) = false ∧ x.length + 2 ≤ sizeLine then some (.lst ((Txt.split x y).map .str)) else none
  | .join, .str z, a => joinS z a
  | _, _, _ => none
def bltA (show_ : Ab → Option Nat) (f : Blt) : List Ab → Option Ab
  | [a] => (allO (liftU (blt1A show_ f) a)).map joinAll
  | [a, b] => (allO (liftU2 (blt2A f) a b)).map joinAll
  | _ => none
def isiA : Ty → Ab → Option TB
  | _, .non => some (false, true)
  | t, .bl _ _ => some (match t with | .bool => (true, false) | .int => (true, false) | _ => (false, true))
  | t, .int _ _ => some (match t with | .int => (true, false) | _ => (false, true))
  | t, .str _ => some (match t with | .str => (true, false) | _ => (false, true))
  | t, .stx _ => some (match t with | .str => (true, false) | _ => (false, true))
  | t, .tup _ => some (match t with | .tuple => (true, false) | _ => (false, true))
  | t, .tups _ _ _ => some (match t with | .tuple => (true, false) | _ => (false, true))
  | t, .lst _ => some (match t with | .list => (true, false) | _ => (false, true))
  | t, .lsts _ _ _ => some (match t with | .list => (true, false) | _ => (false, true))
  | t, .dic _ _ => some (match t with | .dict => (true, false) | _ => (false, true))
  | _, _ => none
def isiU (t : Ty) (a : Ab) : Option TB := tbAll (liftU (isiA t) a)
/-- what a bound of a text's length is worth -/
def ShowOk (R : Rsc) (show_ : Ab → Option Nat) : Prop := ∀ (S : Sto) (a : Ab) (n : Nat) (w : W), show_ a = some n → n ≤ sizeLine → gam R S a w → ∃ x, reprW S w = some x ∧ x.length ≤ n
section
variable {R : Rsc} {S : Sto} {show_ : Ab → Option Nat}
theorem absR_of {l h : Option Int} {i : Int} (h1 : loI l i) (h2 : hiI h i) : gam R S (absR l h) (.int (if i < 0 then -i else i)) := by
  have pos : (0 : Int) ≤ (if i < 0 then -i else i) := by split <;> omega
  unfold absR
  split
  · rename_i l h
    have h1 : l ≤ i := h1
    have h2 : i ≤ h := h2
    split <;> (unfold gam; refine ⟨_, rfl, ?_, ?_⟩)
    · show l ≤ _
      split <;> omega
    · show _ ≤ h
      split <;> omega
    · exact pos
    · show _ ≤ max (-l) h
      split <;> omega
  · rename_i l
    have h1 : l ≤ i := h1
    split <;> (unfold gam; refine ⟨_, rfl, ?_, trivial⟩)
    · show l ≤ _
      split <;> omega
    · exact pos
  · unfold gam
    exact ⟨_, rfl, pos, trivial⟩
theorem gint {n : Nat} : gam R S (.int (some (n : Nat)) (some (n : Nat))) (.int (n : Int)) := by
  unfold gam
  exact ⟨_, rfl, Int.le_refl _, Int.le_refl _⟩
theorem gintR {n lo hi : Nat} (h1 : lo ≤ n) (h2 : n ≤ hi) : gam R S (.int (some (lo : Nat)) (some (hi : Nat))) (.int (n : Int)) := by
  unfold gam
  exact ⟨_, rfl, Int.ofNat_le.mpr h1, Int.ofNat_le.mpr h2⟩
theorem len_pure {x : W} {n : Nat} {c : Ab} (i : R.inv S) (h : lenW S x = some n) (g : gam R S c (.int (n : Int))) : OkE R S c (bltW S .len [x]) := by
  refine ⟨_, S, ?_, .refl i, g⟩
  show liftW ((lenW S x).map fun (n : Nat) => W.int (n : Int)) S = _
  rw [h]
  rfl
theorem list_new {x : W} {ws : List W} (h : itemsW S x = some ws) : bltW S .list [x] = newL ws S := by
  show (match itemsW S x with | some ws => newL ws S | none => none) = _
  rw [h]
theorem int_len {i : Int} {k : Nat} (hk : 1 ≤ k) (h : i.natAbs < 10 ^ k) : (PyData.int i).shown.length ≤ k + 1 := by
  simp only [PyData.shown]
  show (Str.ofString (toString i)).length ≤ k + 1
  rw [Str.ofString_eq_toList]
  show ((toString i).toList.map Char.toNat).toArray.size ≤ k + 1
  rw [List.size_toArray, List.length_map]
  have key : ∀ m : Nat, m < 10 ^ k → (toString m).toList.length ≤ k := fun m hm => by
    show (Nat.repr m).toList.length ≤ k
    unfold Nat.repr
    simp only [String.toList_ofList]
    exact (Nat.length_toDigits_le_iff (by decide) hk).mpr hm
  cases i with
  | ofNat m =>
    have : (toString (Int.ofNat m)) = toString m := rfl
    rw [this]
    have := key m (by simpa using h)
    omega
  | negSucc m =>
    have e : (toString (Int.negSucc m)) = "-" ++ toString (m + 1) := rfl
    rw [e, String.toList_append, List.length_append]
    have := key (m + 1) (by simpa using h)
    have e2 : ("-" : String).toList.length = 1 := rfl
    omega
theorem okc_of (s : String) : okc (Str.ofString s) = true := by
  unfold okc
  rw [Str.ofString_eq_toList]
  refine List.all_eq_true.mpr fun n hn => ?_
  have hn' : n ∈ s.toList.map Char.toNat := by simpa using hn
  obtain ⟨c, _, rfl⟩ := List.mem_map.mp hn'
  have v := c.valid
  have e : c.toNat = c.val.toNat := rfl
  rw [decide_eq_true_eq, e]
  rcases v with v | v
  · have v' : c.val.toNat < 55296 := v
    omega
  · have v' : c.val.toNat < 1114112 := v.2
    omega
theorem gams_rev : ∀ {as : List Ab} {ws : List W}, gams R S as ws → gams R S as.reverse ws.reverse
  | [], [], h => h
  | [], _ :: _, h => by unfold gams at h; exact h.elim
  | _ :: _, [], h => by unfold gams at h; exact h.elim
  | a :: as, w :: ws, h => by
    unfold gams at h
    rw [List.reverse_cons, List.reverse_cons]
    refine gams_app (gams_rev h.2) ?_
    unfold gams gams
    exact ⟨h.1, trivial⟩
theorem strU_of {a : Ab} {m : Nat} {w : W} (h : strU a = some m) (g : gam R S a w) : ∃ x, w = .str x ∧ x.length ≤ m ∧ okc x = true := by
  unfold strU at h
  simp only [Option.map_eq_some_iff] at h
  obtain ⟨l, h1, rfl⟩ := h
  obtain ⟨b, gb, hm⟩ := liftU_of (f := strA) g
  obtain ⟨n, h2, h3⟩ := allO_of h1 hm
  have hn := mxL_of h3
  cases b with
  | str x =>
    have h2' : (if okc x = true then some x.length else none) = some n := h2
    unfold gam at gb
    subst gb
    split at h2'
    · cases h2'; exact ⟨_, rfl, hn, ‹_›⟩
    · cases h2'
  | stx k =>
    have h2' : (if k < 65536 then some k else none) = some n := h2
    unfold gam at gb
    obtain ⟨x, rfl, q1, q2⟩ := gb
    split at h2'
    · rename_i hz
      cases h2'
      unfold rich at q2
      exact ⟨x, rfl, Nat.le_trans q1 hn, by simpa [Nat.not_le.mpr hz] using q2⟩
    · cases h2'
  | _ => cases h2
theorem strsW_of {m : Nat} : ∀ {ws : List W}, (∀ w ∈ ws, ∃ x : Str, w = .str x ∧ x.length ≤ m ∧ okc x = true) → ∃ ys, strsW ws = some ys ∧ ys.length = ws.length ∧ ∀ y ∈ ys, y.length ≤ m ∧ okc y = true
  | [], _ => ⟨[], rfl, rfl, fun y hy => by cases hy⟩
  | w :: ws, h => by
    obtain ⟨x, rfl, h1, h2⟩ := h w (List.mem_cons_self ..)
    obtain ⟨ys, k1, k2, k3⟩ := strsW_of fun w hw => h w (List.mem_cons_of_mem _ hw)
    refine ⟨x :: ys, by simp only [strsW, k1, Option.map_some], by simp [k2], fun y hy => ?_⟩
    rcases List.mem_cons.mp hy with rfl | hy
    · exact ⟨h1, h2⟩
    · exact k3 y hy
theorem glue_of {z : Str} {m : Nat} (hz : okc z = true) : ∀ (ys : List Str) (acc : Array Nat), (acc.toList.all fun c => decide (c < 1114112)) = true → (∀ y ∈ ys, y.length ≤ m ∧ okc y = true) →
    (List.foldl (fun acc p => acc ++ z.cps ++ p.cps) acc ys).size ≤ acc.size + ys.length * (m + z.length) ∧ ((List.foldl (fun acc p => acc ++ z.cps ++ p.cps) acc ys).toList.all fun c => decide (c < 1114112)) = true
  | [], acc, h, _ => ⟨by simp, h⟩
  | y :: ys, acc, h, k => by
    obtain ⟨k1, k2⟩ := k y (List.mem_cons_self ..)
    have hz' : (z.cps.toList.all fun c => decide (c < 1114112)) = true := hz
    have k2' : (y.cps.toList.all fun c => decide (c < 1114112)) = true := k2
    obtain ⟨r1, r2⟩ := glue_of hz ys (acc ++ z.cps ++ y.cps) (by rw [Array.toList_append, Array.toList_append, List.all_append, List.all_append, h, hz', k2']; rfl) fun y hy => k y (List.mem_cons_of_mem _ hy)
    refine ⟨?_, r2⟩
    rw [List.foldl_cons]
    refine Nat.le_trans r1 ?_
    rw [Array.size_append, Array.size_append, List.length_cons, Nat.succ_mul]
    have e1 : z.length = z.cps.size := rfl
    have e2 : y.length = y.cps.size := rfl
    omega
theorem join_of {z : Str} {m : Nat} {ys : List Str} (hz : okc z = true) (k : ∀ y ∈ ys, y.length ≤ m ∧ okc y = true) : (Txt.join z ys).length ≤ ys.length * (m + z.length) ∧ okc (Txt.join z ys) = true := by
  cases ys with
  | nil => exact ⟨Nat.zero_le _, rfl⟩
  | cons y ys =>
    obtain ⟨k1, k2⟩ := k y (List.mem_cons_self ..)
    obtain ⟨r1, r2⟩ := glue_of hz ys y.cps k2 fun y hy => k y (List.mem_cons_of_mem _ hy)
    refine ⟨?_, r2⟩
    refine Nat.le_trans r1 ?_
    rw [List.length_cons, Nat.succ_mul]
    have e2 : y.length = y.cps.size := rfl
    omega
theorem sum_le {m : Nat} : ∀ {ys : List Str}, (∀ y ∈ ys, y.length ≤ m ∧ okc y = true) → (ys.map (·.length)).sum ≤ ys.length * m
  | [], _ => Nat.zero_le _
  | y :: ys, h => by
    have := (h y (List.mem_cons_self ..)).1
    have := sum_le fun y hy => h y (List.mem_cons_of_mem _ hy)
    rw [List.map_cons, List.sum_cons, List.length_cons, Nat.succ_mul]
    omega
theorem joinS_of {z : Str} {a c : Ab} {y : W} (h : joinS z a = some c) (i : R.inv S) (g : gam R S a y) : OkE R S c (bltW S .join [.str z, y]) := by
  unfold joinS at h
  split at h
  · rename_i x lo hi hr
    split at h
    · rename_i m hm
      split at h
      · rename_i hb
        cases h
        have key : ∃ ws, itemsW S y = some ws ∧ ws.length ≤ hi ∧ ∀ w ∈ ws, gam R S x w := by
          cases hq : rowA a with
          | some p =>
            rw [hq] at hr
            cases hr
            obtain ⟨ws, rfl, _, h2, h3⟩ := rowA_of hq g
            exact ⟨ws, rfl, h2, h3⟩
          | none =>
            rw [hq] at hr
            have hr' : rowL a = some (x, lo, hi) := hr
            obtain ⟨n, ws, rfl, _, q, _, h2, h3⟩ := rowL_of hr' g
            exact ⟨ws, items_lst q, h2, h3⟩
        obtain ⟨ws, e1, e2, e3⟩ := key
        obtain ⟨ys, k1, k2, k3⟩ := strsW_of (m := m) fun w hw => strU_of hm (e3 w hw)
        obtain ⟨j1, j2⟩ := join_of hb.2 k3
        have l1 : ys.length * (m + z.length) ≤ hi * (m + z.length) := Nat.mul_le_mul_right _ (by omega)
        have l2 := sum_le k3
        have l3 : ys.length * (m + z.length) = ys.length * m + ys.length * z.length := Nat.mul_add ..
        refine ⟨.str (Txt.join z ys), S, ?_, .refl i, ?_⟩
        · simp only [bltW, e1, Option.bind_some, k1]
          rw [if_pos (by omega)]
          rfl
        · unfold gam
          refine ⟨_, rfl, by omega, ?_⟩
          unfold rich
          rw [j2, Bool.or_true]
      · cases h
    · cases h
  · cases h
theorem intA0_of {a : Ab} {w : W} (h : isIntA0 a = true) (g : gam R S a w) : ∃ i, w = .int i := by
  cases a <;> first | (cases h; done) | skip
  unfold gam at g
  obtain ⟨i, rfl, _⟩ := g
  exact ⟨i, rfl⟩
theorem intsW_of : ∀ {ws : List W}, (∀ w ∈ ws, ∃ i, w = .int i) → ∃ l, intsW ws = some l ∧ ws = l.map W.int
  | [], _ => ⟨[], rfl, rfl⟩
  | w :: ws, h => by
    obtain ⟨i, rfl⟩ := h w (List.mem_cons_self ..)
    obtain ⟨l, h1, rfl⟩ := intsW_of fun w hw => h w (List.mem_cons_of_mem _ hw)
    exact ⟨i :: l, by simp only [intsW, h1, Option.map_some], rfl⟩
theorem sorted_of {n : Nat} {ws : List W} {a : Ab} {lo hi : Nat} (i : R.inv S) (h0 : S[n]? = some (.lst true ws)) (hi_ : ∀ w ∈ ws, ∃ i, w = .int i) (hg : ∀ w ∈ ws, gam R S a w) (h1 : lo ≤ ws.length) (h2 : ws.length ≤ hi) : OkE R S (.lsts a lo hi) (bltW S .sorted [.ref n]) := by
  obtain ⟨l, e1, rfl⟩ := intsW_of hi_
  have e : bltW S .sorted [.ref n] = newL ((l.mergeSort fun a b => decide (a ≤ b)).map .int) S := by
    simp only [bltW, h0, e1]
  rw [e]
  have hl : ((l.mergeSort fun a b => decide (a ≤ b)).map W.int).length = (l.map W.int).length := by simp
  refine new_row i (by rw [hl]; exact h1) (by rw [hl]; exact h2) fun x hx => ?_
  obtain ⟨k, hk, rfl⟩ := List.mem_map.mp hx
  exact hg _ (List.mem_map.mpr ⟨k, (List.mergeSort_perm l _).mem_iff.mp hk, rfl⟩)
theorem sum_bd {l h : Int} (h0 : 0 ≤ l) : ∀ (xs : List Int), (∀ x ∈ xs, l ≤ x ∧ x ≤ h) → (xs.length : Int) * l ≤ xs.sum ∧ xs.sum ≤ (xs.length : Int) * h
  | [], _ => by simp
  | x :: xs, k => by
    obtain ⟨a, b⟩ := k x (List.mem_cons_self ..)
    obtain ⟨c, d⟩ := sum_bd h0 xs fun y hy => k y (List.mem_cons_of_mem _ hy)
    rw [List.sum_cons, List.length_cons]
    have e1 : ((xs.length + 1 : Nat) : Int) * l = (xs.length : Int) * l + l := by rw [Int.natCast_add, Int.add_mul]; simp
    have e2 : ((xs.length + 1 : Nat) : Int) * h = (xs.length : Int) * h + h := by rw [Int.natCast_add, Int.add_mul]; simp
    rw [e1, e2]
    omega
theorem blt1A_of (hsh : ShowOk R show_) {f : Blt} {a c : Ab} {x : W} (h : blt1A show_ f a = some c) (i : R.inv S) (g : gam R S a x) : OkE R S c (bltW S f [x]) := by
  unfold blt1A at h
  split at h
  · cases h
    unfold gam at g
    obtain ⟨ws, rfl, h1⟩ := g
    exact len_pure i (n := ws.length) rfl (by rw [gams_len h1]; exact gint)
  · cases h
    unfold gam at g
    obtain ⟨ws, rfl, h1, h2, h3⟩ := g
    exact len_pure i (n := ws.length) rfl (gintR h1 h2)
  · cases h
    unfold gam at g
    obtain ⟨n, ws, rfl, _, h0, h1⟩ := g
    exact len_pure i (n := ws.length) (by simp [lenW, items_lst h0]) (by rw [gams_len h1]; exact gint)
  · cases h
    unfold gam at g
    obtain ⟨n, ws, rfl, _, h0, h1, h2, h3⟩ := g
    exact len_pure i (n := ws.length) (by simp [lenW, items_lst h0]) (gintR h1 h2)
  · split at h
    · rename_i hz
      cases h
      unfold gam at g
      subst g
      exact len_pure i (by simp only [lenW, if_pos hz]) gint
    · cases h
  · split at h
    · rename_i hz
      cases h
      unfold gam at g
      obtain ⟨x, rfl, h1, _⟩ := g
      exact len_pure i (by simp only [lenW, if_pos (Nat.le_trans h1 hz)]) (gintR (Nat.zero_le _) h1)
    · cases h
  · cases h
    unfold gam at g
    obtain ⟨n, ws, rfl, _, h0, h1, h2⟩ := g
    exact len_pure i (n := ws.length) (by simp [lenW, itemsW, h0]) (gintR (Nat.zero_le _) h1)
  · cases h
    unfold gam at g
    obtain ⟨n, rfl, h1, h2⟩ := g
    refine .pure i ?_
    unfold gam
    exact ⟨n, rfl, h1, h2⟩
  · cases h
    unfold gam at g
    obtain ⟨b, rfl, h1, h2⟩ := g
    refine .pure i ?_
    unfold gam
    refine ⟨_, rfl, ?_, ?_⟩
    · cases b with
      | true => show (_ : Int) ≤ 1; split <;> omega
      | false => rw [h2 rfl]; exact Int.le_refl _
    · cases b with
      | true => rw [h1 rfl]; exact Int.le_refl _
      | false => show (0 : Int) ≤ _; split <;> omega
  · cases h
    have g0 := g
    unfold gam at g
    obtain ⟨ws, rfl, h1⟩ := g
    exact .pure i g0
  · cases h
    have g0 := g
    unfold gam at g
    obtain ⟨ws, rfl, h1⟩ := g
    exact .pure i g0
  · cases h
    unfold gam at g
    obtain ⟨n, ws, rfl, _, h0, h1⟩ := g
    refine ⟨.tup ws, S, by simp only [bltW, h0]; rfl, .refl i, ?_⟩
    unfold gam
    exact ⟨ws, rfl, h1⟩
  · cases h
    unfold gam at g
    obtain ⟨n, ws, rfl, _, h0, h1, h2, h3⟩ := g
    refine ⟨.tup ws, S, by simp only [bltW, h0]; rfl, .refl i, ?_⟩
    unfold gam
    exact ⟨ws, rfl, h1, h2, h3⟩
  · cases h
    unfold gam at g
    obtain ⟨ws, rfl, h1⟩ := g
    rw [list_new (ws := ws) rfl]
    exact new_lst i h1
  · cases h
    unfold gam at g
    obtain ⟨ws, rfl, h1, h2, h3⟩ := g
    rw [list_new (ws := ws) rfl]
    exact new_row i h1 h2 h3
  · cases h
    unfold gam at g
    obtain ⟨n, ws, rfl, _, h0, h1⟩ := g
    rw [list_new (items_lst h0)]
    exact new_lst i h1
  · cases h
    unfold gam at g
    obtain ⟨n, ws, rfl, _, h0, h1, h2, h3⟩ := g
    rw [list_new (items_lst h0)]
    exact new_row i h1 h2 h3
  · cases h
    unfold gam at g
    obtain ⟨n, rfl, h1, h2⟩ := g
    exact .pure i (absR_of h1 h2)
  · split at h
    · rename_i l u hb
      cases h
      unfold gam at g
      obtain ⟨n, rfl, h1, h2⟩ := g
      have h1' : l ≤ n := h1
      have h2' : n ≤ u := h2
      have na : n.natAbs < 10 ^ 18 := by omega
      have hlog : n.natAbs.log2 < 1920 := by
        by_cases h0 : n.natAbs = 0
        · rw [h0]; decide
        · exact (Nat.log2_lt h0).mpr (Nat.lt_trans na (by decide +kernel))
      refine ⟨.str (Str.ofString (toString n)), S, by simp only [bltW, if_pos hlog]; rfl, .refl i, ?_⟩
      unfold gam
      refine ⟨_, rfl, ?_, ?_⟩
      · have := int_len (i := n) (k := 18) (by decide) na
        simpa only [PyData.shown] using this
      · unfold rich
        rw [okc_of, Bool.or_true]
    · cases h
  · split at h
    · rename_i l u lo hi hb
      cases h
      unfold gam at g
      obtain ⟨n, ws, rfl, _, h0, h1, h2, h3⟩ := g
      have bd : ∀ w ∈ ws, ∃ i, w = .int i ∧ l ≤ i ∧ i ≤ u := fun w hw => by
        have := h3 w hw
        unfold gam at this
        obtain ⟨i, rfl, q1, q2⟩ := this
        exact ⟨i, rfl, q1, q2⟩
      obtain ⟨xs, e1, rfl⟩ := intsW_of fun w hw => by
        obtain ⟨i, e, _⟩ := bd w hw
        exact ⟨i, e⟩
      have bx : ∀ x ∈ xs, l ≤ x ∧ x ≤ u := fun x hx => by
        obtain ⟨i, e, q⟩ := bd (.int x) (List.mem_map.mpr ⟨x, hx, rfl⟩)
        cases e
        exact q
      obtain ⟨s1, s2⟩ := sum_bd hb.1 xs bx
      rw [List.length_map] at h1 h2
      have u0 : xs ≠ [] → 0 ≤ u := fun ne => by
        cases xs with
        | nil => exact absurd rfl ne
        | cons x xs => have := bx x (List.mem_cons_self ..); omega
      refine ⟨.int xs.sum, S, by simp only [bltW, h0, e1, Option.map_some]; rfl, .refl i, ?_⟩
      unfold gam
      have ne : xs ≠ [] := fun e => by rw [e, List.length_nil] at h1; omega
      exact ⟨_, rfl, Int.le_trans (Int.mul_le_mul_of_nonneg_right (by omega) hb.1) s1, Int.le_trans s2 (Int.mul_le_mul_of_nonneg_right (by omega) (u0 ne))⟩
    · cases h
  · split at h
    · rename_i hb
      cases h
      unfold gam at g
      obtain ⟨n, ws, rfl, _, h0, h1⟩ := g
      exact sorted_of i h0 (fun w hw => by
        obtain ⟨a, ha, ga⟩ := gams_mem h1 hw
        exact intA0_of (List.all_eq_true.mp hb a ha) ga) (fun w hw => by
        obtain ⟨a, ha, ga⟩ := gams_mem h1 hw
        exact joinAll_of ha ga) (Nat.le_of_eq (gams_len h1)) (Nat.le_of_eq (gams_len h1).symm)
    · cases h
  · split at h
    · rename_i hb
      cases h
      unfold gam at g
      obtain ⟨n, ws, rfl, _, h0, h1, h2, h3⟩ := g
      exact sorted_of i h0 (fun w hw => by
        obtain ⟨b, hb1, gb⟩ := alts_of (h3 w hw)
        exact intA0_of (List.all_eq_true.mp hb b hb1) gb) h3 h1 h2
    · cases h
  · split at h
    · rename_i l u hb
      cases h
      unfold gam at g
      obtain ⟨j, rfl, h1, h2⟩ := g
      have h1' : l ≤ j := h1
      have h2' : j ≤ u := h2
      have e : bltW S .lrng [.int j] = newL (rangeW 0 j) S := by
        simp only [bltW]
        rw [if_pos ⟨by omega, by omega, by omega⟩]
      rw [e]
      have hl : (rangeW 0 j).length = j.toNat := by simp [rangeW]
      refine new_row i (by rw [hl]; omega) (by rw [hl]; omega) fun x hx => ?_
      simp only [rangeW, List.mem_map, List.mem_range] at hx
      obtain ⟨k, hk, rfl⟩ := hx
      unfold gam
      exact ⟨_, rfl, by show 0 ≤ 0 + (k : Int); omega, by show 0 + (k : Int) ≤ u - 1; omega⟩
    · cases h
  · split at h
    · rename_i n hn
      split at h
      · rename_i hz
        cases h
        unfold gam at g
        subst g
        refine ⟨.int n, S, by simp only [bltW, hn, if_pos hz]; rfl, .refl i, ?_⟩
        unfold gam
        exact ⟨n, rfl, Int.le_refl _, Int.le_refl _⟩
      · cases h
    · cases h
  · cases h
    unfold gam at g
    obtain ⟨ws, rfl, h1⟩ := g
    refine ⟨.tup ws.reverse, S, rfl, .refl i, ?_⟩
    unfold gam
    exact ⟨_, rfl, gams_rev h1⟩
  · cases h
    unfold gam at g
    obtain ⟨ws, rfl, h1, h2, h3⟩ := g
    refine ⟨.tup ws.reverse, S, rfl, .refl i, ?_⟩
    unfold gam
    exact ⟨_, rfl, by rw [List.length_reverse]; exact h1, by rw [List.length_reverse]; exact h2, fun x hx => h3 x (List.mem_reverse.mp hx)⟩
  · cases h
    unfold gam at g
    obtain ⟨n, ws, rfl, _, h0, h1⟩ := g
    have e : bltW S .rev [.ref n] = newL ws.reverse S := by simp only [bltW, h0]
    rw [e]
    exact new_lst i (gams_rev h1)
  · cases h
    unfold gam at g
    obtain ⟨n, ws, rfl, _, h0, h1, h2, h3⟩ := g
    have e : bltW S .rev [.ref n] = newL ws.reverse S := by simp only [bltW, h0]
    rw [e]
    exact new_row i (by rw [List.length_reverse]; exact h1) (by rw [List.length_reverse]; exact h2) fun x hx => h3 x (List.mem_reverse.mp hx)
  · simp only [Option.bind_eq_some_iff] at h
    obtain ⟨n, h1, h2⟩ := h
    split at h2
    · rename_i hz
      cases h2
      obtain ⟨t, e1, e2⟩ := hsh S _ n x h1 hz g
      refine ⟨.str t, S, ?_, .refl i, ?_⟩
      · show liftW ((reprW S x).map W.str) S = _
        rw [e1]
        rfl
      · unfold gam
        exact ⟨t, rfl, by omega, by unfold rich; rw [decide_eq_true (by omega)]; rfl⟩
    · cases h2
  · cases h
theorem loMinL {a b : Option Int} {i : Int} (h : loI a i) : loI (loMin a b) i := by
  cases a <;> cases b <;> first | trivial | skip
  rename_i a b
  have h : a ≤ i := h
  show (if a ≤ b then a else b) ≤ i
  split <;> omega
theorem loMinR {a b : Option Int} {i : Int} (h : loI b i) : loI (loMin a b) i := by
  cases a <;> cases b <;> first | trivial | skip
  rename_i a b
  have h : b ≤ i := h
  show (if a ≤ b then a else b) ≤ i
  split <;> omega
theorem hiMaxL {a b : Option Int} {i : Int} (h : hiI a i) : hiI (hiMax a b) i := by
  cases a <;> cases b <;> first | trivial | skip
  rename_i a b
  have h : i ≤ a := h
  show i ≤ (if a ≤ b then b else a)
  split <;> omega
theorem hiMaxR {a b : Option Int} {i : Int} (h : hiI b i) : hiI (hiMax a b) i := by
  cases a <;> cases b <;> first | trivial | skip
  rename_i a b
  have h : i ≤ b := h
  show i ≤ (if a ≤ b then b else a)
  split <;> omega
theorem blt2A_of {f : Blt} {a b c : Ab} {x y : W} (h : blt2A f a b = some c) (i : R.inv S) (g : gam R S a x) (g' : gam R S b y) : OkE R S c (bltW S f [x, y]) := by
  unfold blt2A at h
  split at h
  · cases h
    unfold gam at g g'
    obtain ⟨n, rfl, h1, h2⟩ := g
    obtain ⟨m, rfl, h3, h4⟩ := g'
    refine .pure i ?_
    unfold gam
    refine ⟨_, rfl, ?_, ?_⟩ <;> split
    · exact loMinR h3
    · exact loMinL h1
    · exact hiMaxR h4
    · exact hiMaxL h2
  · cases h
    unfold gam at g g'
    obtain ⟨n, rfl, h1, h2⟩ := g
    obtain ⟨m, rfl, h3, h4⟩ := g'
    refine .pure i ?_
    unfold gam
    refine ⟨_, rfl, ?_, ?_⟩ <;> split
    · exact loMinR h3
    · exact loMinL h1
    · exact hiMaxR h4
    · exact hiMaxL h2
  · split at h
    · rename_i hb
      cases h
      unfold gam at g g'
      subst g g'
      have e : ∀ x y : Str, ((y.length == 0) = false ∧ x.length + 2 ≤ sizeLine) → bltW S .split [.str x, .str y] = newL ((Txt.split x y).map .str) S := fun x y hb => by simp only [bltW, if_pos hb]
      rw [e _ _ hb]
      refine new_lst i ?_
      have key : ∀ l : List Str, gams R S (l.map .str) (l.map .str) := fun l => by
        induction l with
        | nil => unfold gams; trivial
        | cons a l ih =>
          show gams R S (.str a :: l.map .str) (.str a :: l.map .str)
          unfold gams gam
          exact ⟨rfl, ih⟩
      exact key _
    · cases h
  · unfold gam at g
    subst g
    exact joinS_of h i g'
  · cases h
theorem bltA_of (hsh : ShowOk R show_) {f : Blt} {as : List Ab} {c : Ab} {ws : List W} (h : bltA show_ f as = some c) (i : R.inv S) (g : gams R S as ws) : OkE R S c (bltW S f ws) := by
  match as, ws, g with
  | [], _, g => cases h
  | [a], [x], g =>
    unfold gams at g
    exact lift1_ok (f := blt1A show_ f) (r := fun S x => bltW S f [x]) (fun q i g => blt1A_of hsh q i g) h i g.1
  | [a, b], [x, y], g =>
    unfold gams gams at g
    exact lift2_ok (f := blt2A f) (r := fun S x y => bltW S f [x, y]) (fun q i g g' => blt2A_of q i g g') h i g.1 g.2.1
  | _ :: _ :: _ :: _, _, g => cases h
  | [_], [], g => unfold gams at g; exact g.elim
  | [_], _ :: _ :: _, g => unfold gams gams at g; exact g.2.elim
  | [_, _], [], g => unfold gams at g; exact g.elim
  | [_, _], [_], g => unfold gams gams at g; exact g.2.elim
  | [_, _], _ :: _ :: _ :: _, g => unfold gams gams gams at g; exact g.2.2.elim
theorem isT_l {n : Nat} {t : Ty} {ws : List W} (h : S[n]? = some (.lst true ws)) : isT S (.ref n) t = some (match t with | .list => true | _ => false) := by cases t <;> simp only [isT, h]
theorem isT_d {n : Nat} {t : Ty} {ws : List (Key × W)} (h : S[n]? = some (.dic true ws)) : isT S (.ref n) t = some (match t with | .dict => true | _ => false) := by cases t <;> simp only [isT, h]
theorem isiA_of {t : Ty} {a : Ab} {q : TB} {x : W} (h : isiA t a = some q) (g : gam R S a x) : ∃ b, isT S x t = some b ∧ okB q b := by
  cases a <;> first | (cases h; done) | skip
  all_goals
    unfold gam at g
    cases h
  · subst g; exact ⟨_, rfl, (fun e => by cases e), fun _ => rfl⟩
  · obtain ⟨b, rfl, _⟩ := g; cases t <;> exact ⟨_, rfl, (fun e => by first | rfl | cases e), (fun e => by first | rfl | cases e)⟩
  · obtain ⟨b, rfl, _⟩ := g; cases t <;> exact ⟨_, rfl, (fun e => by first | rfl | cases e), (fun e => by first | rfl | cases e)⟩
  · subst g; cases t <;> exact ⟨_, rfl, (fun e => by first | rfl | cases e), (fun e => by first | rfl | cases e)⟩
  · obtain ⟨b, rfl, _⟩ := g; cases t <;> exact ⟨_, rfl, (fun e => by first | rfl | cases e), (fun e => by first | rfl | cases e)⟩
  · obtain ⟨b, rfl, _⟩ := g; cases t <;> exact ⟨_, rfl, (fun e => by first | rfl | cases e), (fun e => by first | rfl | cases e)⟩
  · obtain ⟨b, rfl, _⟩ := g; cases t <;> exact ⟨_, rfl, (fun e => by first | rfl | cases e), (fun e => by first | rfl | cases e)⟩
  · obtain ⟨n, b, rfl, _, h0, _⟩ := g; cases t <;> exact ⟨_, isT_l h0, (fun e => by first | rfl | cases e), (fun e => by first | rfl | cases e)⟩
  · obtain ⟨n, b, rfl, _, h0, _⟩ := g; cases t <;> exact ⟨_, isT_l h0, (fun e => by first | rfl | cases e), (fun e => by first | rfl | cases e)⟩
  · obtain ⟨n, b, rfl, _, h0, _⟩ := g; cases t <;> exact ⟨_, isT_d h0, (fun e => by first | rfl | cases e), (fun e => by first | rfl | cases e)⟩
theorem isiU_of {t : Ty} {a : Ab} {q : TB} {x : W} (h : isiU t a = some q) (g : gam R S a x) : ∃ b, isT S x t = some b ∧ okB q b := by
  obtain ⟨a', ga, hm⟩ := liftU_of (f := isiA t) g
  obtain ⟨p, h1, h2⟩ := tbAll_of h hm
  obtain ⟨r, h3, h4⟩ := isiA_of h1 ga
  exact ⟨r, h3, h2 r h4⟩
end
end Co
namespace Co
open PySem L2

/-! ### a list in the making is shut -/
def Rsc.shut (R : Rsc) (D : Nat) (acc : MO) : Rsc where
  own := fun n => R.own n ∨ n = D
  inv := fun S => R.inv S ∧ S[D]? = some acc
  w := R.w
  lt := fun S n h o => by
    rcases o with o | rfl
    · exact R.lt S n h.1 o
    · exact (List.getElem?_eq_some_iff.mp h.2).1
  st := fun S S' h k => ⟨R.st S S' h.1 fun n o => k n (.inl o), by rw [k D (.inr rfl)]; exact h.2⟩
/-- R knows more than R0 of cells that are not R0's -/
structure Ext0 (R0 R : Rsc) : Prop where
  sub : ∀ n, R0.own n → R.own n
  inv : ∀ S, R.inv S → R0.inv S
  back : ∀ S S', R.inv S → R0.inv S' → (∀ n, R.own n → ¬ R0.own n → S'[n]? = S[n]?) → R.inv S'
  w : R.w = R0.w
theorem Ext0.refl {R : Rsc} : Ext0 R R := ⟨fun _ h => h, fun _ h => h, fun _ _ _ h _ => h, rfl⟩
theorem Ext0.shut {R0 R : Rsc} (e : Ext0 R0 R) {D : Nat} {acc : MO} (hD : ¬ R.own D) : Ext0 R0 (R.shut D acc) := by
  refine ⟨fun n h => .inl (e.sub n h), fun S h => e.inv S h.1, fun S S' h h' k => ⟨e.back S S' h.1 h' fun n o no => k n (.inl o) no, ?_⟩, e.w⟩
  rw [k D (.inr rfl) fun o => hD (e.sub D o)]
  exact h.2
section
variable {R R' : Rsc} {S S' : Sto}
mutual
/-- what is not R's own decides -/
theorem gam_off (hw : R'.w = R.w) (k : ∀ (n : Nat) (o : MO), ¬ R.own n → S[n]? = some o → ¬ R'.own n ∧ S'[n]? = some o) : ∀ (a : Ab) (w : W), gam R S a w → gam R' S' a w
  | .non, w, h => by unfold gam at h ⊢; exact h
  | .bl t f, w, h => by unfold gam at h ⊢; exact h
  | .int lo hi, w, h => by unfold gam at h ⊢; exact h
  | .str x, w, h => by unfold gam at h ⊢; exact h
  | .stx n, w, h => by unfold gam at h ⊢; exact h
  | .tup as, w, h => by
    unfold gam at h ⊢
    obtain ⟨ws, h1, h2⟩ := h
    exact ⟨ws, h1, gams_off hw k as ws h2⟩
  | .tups a lo hi, w, h => by
    unfold gam at h ⊢
    obtain ⟨ws, h1, h2, h3, h4⟩ := h
    exact ⟨ws, h1, h2, h3, fun x hx => gam_off hw k a x (h4 x hx)⟩
  | .lst as, w, h => by
    unfold gam at h ⊢
    obtain ⟨n, ws, h1, h2, h3, h4⟩ := h
    exact ⟨n, ws, h1, (k n _ h2 h3).1, (k n _ h2 h3).2, gams_off hw k as ws h4⟩
  | .lsts a lo hi, w, h => by
    unfold gam at h ⊢
    obtain ⟨n, ws, h1, h2, h3, h4, h5, h6⟩ := h
    exact ⟨n, ws, h1, (k n _ h2 h3).1, (k n _ h2 h3).2, h4, h5, fun x hx => gam_off hw k a x (h6 x hx)⟩
  | .dic ks as, w, h => by
    unfold gam at h ⊢
    obtain ⟨n, kvs, h1, h2, h3, h4, h5⟩ := h
    exact ⟨n, kvs, h1, (k n _ h2 h3).1, (k n _ h2 h3).2, h4, gams_off hw k as _ h5⟩
  | .scr hi, w, h => by
    unfold gam at h ⊢
    obtain ⟨n, ws, h1, h2, h3, h4⟩ := h
    exact ⟨n, ws, h1, (k n _ h2 h3).1, (k n _ h2 h3).2, h4⟩
  | .res, w, h => by unfold gam at h ⊢; rw [hw]; exact h
  | .or as, w, h => by
    unfold gam at h ⊢
    exact gamU_off hw k as w h
theorem gams_off (hw : R'.w = R.w) (k : ∀ (n : Nat) (o : MO), ¬ R.own n → S[n]? = some o → ¬ R'.own n ∧ S'[n]? = some o) : ∀ (as : List Ab) (ws : List W), gams R S as ws → gams R' S' as ws
  | [], [], h => by unfold gams; trivial
  | [], _ :: _, h => by unfold gams at h; exact h.elim
  | _ :: _, [], h => by unfold gams at h; exact h.elim
  | a :: as, w :: ws, h => by
    unfold gams at h ⊢
    exact ⟨gam_off hw k a w h.1, gams_off hw k as ws h.2⟩
theorem gamU_off (hw : R'.w = R.w) (k : ∀ (n : Nat) (o : MO), ¬ R.own n → S[n]? = some o → ¬ R'.own n ∧ S'[n]? = some o) : ∀ (as : List Ab) (w : W), gamU R S as w → gamU R' S' as w
  | [], w, h => by unfold gamU at h; exact h.elim
  | a :: as, w, h => by
    unfold gamU at h ⊢
    exact h.imp (gam_off hw k a w) (gamU_off hw k as w)
end
end
/-! ### names -/
abbrev AEnv := List (Option Ab)
structure Gen (R : Rsc) (S : Sto) (e : AEnv) (ρ : En) : Prop where
  len : e.length = ρ.length
  at_ : ∀ (i : Nat) (a : Ab), e[i]? = some (some a) → ∃ w, ρ[i]? = some (some w) ∧ gam R S a w
theorem Gen.le {R : Rsc} {S S' : Sto} {e : AEnv} {ρ : En} (g : Gen R S e ρ) (h : Le R S S') : Gen R S' e ρ :=
  ⟨g.len, fun i a q => let ⟨w, h1, h2⟩ := g.at_ i a q; ⟨w, h1, gam_le h a w h2⟩⟩
theorem Gen.off {R R' : Rsc} {S S' : Sto} {e : AEnv} {ρ : En} (g : Gen R S e ρ) (hw : R'.w = R.w) (k : ∀ (n : Nat) (o : MO), ¬ R.own n → S[n]? = some o → ¬ R'.own n ∧ S'[n]? = some o) : Gen R' S' e ρ :=
  ⟨g.len, fun i a q => let ⟨w, h1, h2⟩ := g.at_ i a q; ⟨w, h1, gam_off hw k a w h2⟩⟩
theorem Gen.set {R : Rsc} {S : Sto} {e : AEnv} {ρ : En} {i : Nat} {a : Ab} {w : W} (g : Gen R S e ρ) (h : gam R S a w) : Gen R S (e.set i (some a)) (ρ.set i (some w)) := by
  refine ⟨by rw [List.length_set, List.length_set, g.len], fun j b q => ?_⟩
  by_cases hj : i = j
  · subst hj
    by_cases hl : i < e.length
    · rw [List.getElem?_set_self hl] at q
      cases q
      exact ⟨w, List.getElem?_set_self (by rw [← g.len]; exact hl), h⟩
    · rw [List.getElem?_eq_none (by simpa using hl)] at q
      cases q
  · rw [List.getElem?_set_ne hj] at q
    obtain ⟨u, h1, h2⟩ := g.at_ j b q
    exact ⟨u, by rw [List.getElem?_set_ne hj]; exact h1, h2⟩
def wipeA (e : AEnv) : List Nat → AEnv
  | [] => e
  | v :: vs => (wipeA e vs).set v none
theorem Gen.wipe {R : Rsc} {S : Sto} {e : AEnv} {ρ : En} (g : Gen R S e ρ) : ∀ vs : List Nat, Gen R S (wipeA e vs) (wipeE ρ vs)
  | [] => g
  | v :: vs => by
    have ih := Gen.wipe g vs
    refine ⟨by show ((wipeA e vs).set v none).length = ((wipeE ρ vs).set v none).length; rw [List.length_set, List.length_set, ih.len], fun j b q => ?_⟩
    have q : ((wipeA e vs).set v none)[j]? = some (some b) := q
    by_cases hj : v = j
    · subst hj
      by_cases hl : v < (wipeA e vs).length
      · rw [List.getElem?_set_self hl] at q; cases q
      · rw [List.getElem?_eq_none (by simpa using hl)] at q; cases q
    · rw [List.getElem?_set_ne hj] at q
      obtain ⟨u, h1, h2⟩ := ih.at_ j b q
      exact ⟨u, by show ((wipeE ρ vs).set v none)[j]? = _; rw [List.getElem?_set_ne hj]; exact h1, h2⟩
mutual
def putA : Tg → Ab → AEnv → Option AEnv
  | .name i, a, e => if i < e.length then some (e.set i (some a)) else none
  | .tup ts, .tup as, e => putAs ts as e
  | .tup ts, .tups a lo hi, e => if lo = ts.length ∧ hi = ts.length then putAs ts (List.replicate lo a) e else none
  | .tup _, _, _ => none
def putAs : List Tg → List Ab → AEnv → Option AEnv
  | [], [], e => some e
  | t :: ts, a :: as, e => (putA t a e).bind fun e1 => putAs ts as e1
  | _, _, _ => none
end
theorem gams_rep {R : Rsc} {S : Sto} {a : Ab} : ∀ {ws : List W}, (∀ x ∈ ws, gam R S a x) → gams R S (List.replicate ws.length a) ws
  | [], _ => by unfold List.length List.replicate gams; trivial
  | w :: ws, h => by
    rw [List.length_cons, List.replicate_succ]
    unfold gams
    exact ⟨h w (List.mem_cons_self ..), gams_rep fun x hx => h x (List.mem_cons_of_mem _ hx)⟩
mutual
theorem putA_of {R : Rsc} {S : Sto} : ∀ (t : Tg) {a : Ab} {e e1 : AEnv} {w : W} {ρ : En}, putA t a e = some e1 → gam R S a w → Gen R S e ρ → ∃ ρ1, putT t w ρ = some ρ1 ∧ Gen R S e1 ρ1
  | .name i, a, e, e1, w, ρ, h, g, ge => by
    unfold putA at h
    split at h
    · rename_i hi
      cases h
      exact ⟨_, by unfold putT; rw [if_pos (by rw [← ge.len]; exact hi)], ge.set g⟩
    · cases h
  | .tup ts, a, e, e1, w, ρ, h, g, ge => by
    cases a with
    | tup as =>
      unfold putA at h
      unfold gam at g
      obtain ⟨ws, rfl, h1⟩ := g
      obtain ⟨ρ1, h2, h3⟩ := putAs_of ts h h1 ge
      exact ⟨ρ1, by unfold putT; exact h2, h3⟩
    | tups a lo hi =>
      unfold putA at h
      split at h
      · rename_i hb
        unfold gam at g
        obtain ⟨ws, rfl, h1, h2, h3⟩ := g
        have e : lo = ws.length := Nat.le_antisymm h1 (by rw [hb.1, ← hb.2]; exact h2)
        rw [e] at h
        obtain ⟨ρ1, h2, h3⟩ := putAs_of ts h (gams_rep h3) ge
        exact ⟨ρ1, by unfold putT; exact h2, h3⟩
      · cases h
    | _ => unfold putA at h; cases h
theorem putAs_of {R : Rsc} {S : Sto} : ∀ (ts : List Tg) {as : List Ab} {e e1 : AEnv} {ws : List W} {ρ : En}, putAs ts as e = some e1 → gams R S as ws → Gen R S e ρ → ∃ ρ1, putTs ts ws ρ = some ρ1 ∧ Gen R S e1 ρ1
  | [], as, e, e1, ws, ρ, h, g, ge => by
    cases as with
    | cons _ _ => unfold putAs at h; cases h
    | nil =>
      cases ws with
      | cons _ _ => unfold gams at g; exact g.elim
      | nil =>
        unfold putAs at h
        cases h
        exact ⟨ρ, by unfold putTs; rfl, ge⟩
  | t :: ts, as, e, e1, ws, ρ, h, g, ge => by
    cases as with
    | nil => unfold putAs at h; cases h
    | cons a as =>
      cases ws with
      | nil => unfold gams at g; exact g.elim
      | cons w ws =>
        unfold gams at g
        unfold putAs at h
        simp only [Option.bind_eq_some_iff] at h
        obtain ⟨e2, h1, h2⟩ := h
        obtain ⟨ρ1, h3, h4⟩ := putA_of t h1 g.1 ge
        obtain ⟨ρ2, h5, h6⟩ := putAs_of ts h2 g.2 h4
        exact ⟨ρ2, by unfold putTs; rw [h3]; exact h5, h6⟩
end
end Co
namespace Co
open PySem L2

def noneC : CO → Bool
  | .none => true
  | _ => false
def cstA : W → Option Ab
  | .non => some .non
  | .bl b => some (.bl b !b)
  | .int i => some (.int (some i) (some i))
  | .str x => some (.str x)
  | _ => none
def negA : Ab → Option Ab
  | .int l h => some (.int (negO h) (negO l))
  | _ => none
def rowI : Ab → Option (Ab × Nat × Nat)
  | .tup as => some (joinAll as, as.length, as.length)
  | .tups a lo hi => some (a, lo, hi)
  | .lst as => some (joinAll as, as.length, as.length)
  | .lsts a lo hi => some (a, lo, hi)
  | .str x => some (.stx (if okc x = true then 1 else 65536), x.length, x.length)
  | .stx n => some (.stx (if n < 65536 then 1 else 65536), 0, n)
  | _ => none
def minL : List Nat → Nat
  | [] => 0
  | [a] => a
  | a :: r => min a (minL r)
def maxL : List Nat → Nat
  | [] => 0
  | a :: r => max a (maxL r)
def rowE (a : Ab) : Option (Ab × Nat × Nat) := (rowA a).or (rowL a)
/-- a row of rows -/
def rowU (f : Ab → Option (Ab × Nat × Nat)) (a : Ab) : Option (Ab × Nat × Nat) := (allO (liftU f a)).map fun l => (joinAll (l.map (·.1)), minL (l.map (·.2.1)), maxL (l.map (·.2.2)))
def intA : Ab → Option (Int × Int)
  | .int (some l) (some h) => some (l, h)
  | _ => none
def minI : List Int → Int
  | [] => 0
  | [a] => a
  | a :: r => min a (minI r)
def maxI : List Int → Int
  | [] => 0
  | [a] => a
  | a :: r => max a (maxI r)
def intU (a : Ab) : Option (Int × Int) := (allO (liftU intA a)).map fun l => (minI (l.map (·.1)), maxI (l.map (·.2)))
/-- what is left of a value whose truth is not k -/
def restA (k : Bool) : Ab → Ab
  | .bl t f => if k = true then .bl false f else .bl t false
  | a => a
def restU (k : Bool) (a : Ab) : Ab := match a with
  | .or as => .or (as.map (restA k))
  | a => restA k a
def mixB (k : Bool) (q : TB) (x y : Ab) : Ab := if k = true then (if q.2 = true then (if q.1 = true then joinA x y else x) else y) else (if q.1 = true then (if q.2 = true then joinA x y else x) else y)
section
variable (show_ : Ab → Option Nat) (GA : List Ab) (aO : Nat → List Ab → Option Ab)
mutual
def aE : CE → AEnv → Option Ab
  | .var i, e => (e[i]?).bind id
  | .cst w, _ => cstA w
  | .glo g, _ => GA[g]?
  | .bin o a b, e => (aE a e).bind fun x => (aE b e).bind fun y => op2U o x y
  | .neg a, e => (aE a e).bind fun x => (allO (liftU negA x)).map joinAll
  | .not_ a, e => (aE a e).bind fun x => (truU x).map fun q => .bl q.2 q.1
  | .bool k es, e => aB k es e
  | .cmp c a b, e => (aE a e).bind fun x => (aE b e).bind fun y => (cmpU c x y).map fun q => .bl q.1 q.2
  | .chain c d a b z, e => (aE a e).bind fun x => (aE b e).bind fun y => (cmpU c x y).bind fun q => (aE z e).bind fun v => (cmpU d y v).map fun r => .bl r.1 (q.2 || r.2)
  | .ife c a b, e => (aE c e).bind fun v => (truU v).bind fun q => if q.1 = true then (if q.2 = true then (aE a e).bind fun x => (aE b e).map fun y => joinA x y else aE a e) else aE b e
  | .tup es, e => (aEs es e).bind fun as => if as.length ≤ sizeLine then some (.tup as) else none
  | .lst es, e => (aEs es e).bind fun as => if as.length ≤ sizeLine then some (.lst as) else none
  | .dct kvs, e => (aK kvs e).bind fun l => if (l.map (·.1)).Nodup ∧ l.length ≤ 15 then some (.dic (l.map (·.1)) (l.map (·.2))) else none
  | .idx a b, e => (aE a e).bind fun x => (aE b e).bind fun y => idxU x y
  | .slc a lo hi, e => (aE a e).bind fun x => (aP lo e).bind fun l => (aP hi e).bind fun h => slU x l h
  | .call f es ks perm, e => (aEs es e).bind fun as => (aEs ks e).bind fun bs => aO f (as ++ perm.filterMap (bs[·]?))
  | .blt f es, e => (aEs es e).bind fun as => bltA show_ f as
  | .isi t a, e => (aE a e).bind fun x => (isiU t x).map fun q => .bl q.1 q.2
  | .mth _ _ _, _ => none
  | .comp x tg it c own, e => (aI it e).bind fun j => if j.2.2 < sizeLine then
      (allO ((alts j.1).map fun a => (putA tg a (wipeA e own)).bind fun e1 => (aC c e1).bind fun q => if q.1 = true then (aE x e1).map some else some none)).map fun l =>
        .lsts (joinAll (l.filterMap id)) (if noneC c = true then j.2.1 else 0) j.2.2 else none
def aB (k : Bool) : CEs → AEnv → Option Ab
  | .nil, _ => none
  | .cons a r, e => (aE a e).bind fun x => match r with
    | .nil => some x
    | .cons _ _ => (truU x).bind fun q => (aB k r e).map fun y => mixB k q (restU k x) y
def aEs : CEs → AEnv → Option (List Ab)
  | .nil, _ => some []
  | .cons a r, e => (aE a e).bind fun x => (aEs r e).map fun xs => x :: xs
def aK : CKs → AEnv → Option (List (Key × Ab))
  | .nil, _ => some []
  | .cons k v r, e => match k with
    | .cst w => (keyW w).bind fun kk => (aE v e).bind fun a => (aK r e).map fun l => (kk, a) :: l
    | _ => none
def aP : CO → AEnv → Option (Option Ab)
  | .none, _ => some none
  | .some a, e => (aE a e).bind fun x => (intU x).map fun _ => some x
def aC : CO → AEnv → Option TB
  | .none, _ => some (true, false)
  | .some a, e => (aE a e).bind fun x => truU x
def aI : CI → AEnv → Option (Ab × Nat × Nat)
  | .seq a, e => (aE a e).bind (rowU rowI)
  | .rng1 a, e => (aE a e).bind fun x => (intU x).bind fun q => if -(2 ^ 62) ≤ q.1 ∧ q.2 < 2 ^ 62 then some (.int (some 0) (some (q.2 - 1)), q.1.toNat, q.2.toNat) else none
  | .rng2 a b, e => (aE a e).bind fun x => (intU x).bind fun q => (aE b e).bind fun y => (intU y).bind fun r => if -(2 ^ 62) ≤ q.1 ∧ q.2 < 2 ^ 62 ∧ -(2 ^ 62) ≤ r.1 ∧ r.2 < 2 ^ 62 then some (.int (some q.1) (some (r.2 - 1)), (r.1 - q.2).toNat, (r.2 - q.1).toNat) else none
  | .zip a b, e => (aE a e).bind fun x => (aE b e).bind fun y => (rowU rowL x).bind fun p => (rowU rowL y).map fun q => (.tup [p.1, q.1], if p.2.1 ≤ q.2.1 then p.2.1 else q.2.1, if p.2.2 ≤ q.2.2 then p.2.2 else q.2.2)
  | .enm a, e => (aE a e).bind fun x => (rowU rowE x).map fun q => (.tup [.int (some 0) (some (q.2.2 - 1)), q.1], q.2.1, q.2.2)
end
end
end Co
namespace Co
open PySem L2

def TruOk (R : Rsc) (a : Ab) : Prop := ∀ S w, gam R S a w → ∃ b, truW S w = some b
/-- a test's end: the truth of something that was told -/
def OkT (R : Rsc) (S : Sto) (a : Ab) (r : Rs Bool) : Prop := ∃ w b S', r = some (.ok b S') ∧ Le R S S' ∧ gam R S' a w ∧ truW S' w = some b
def OkEs (R : Rsc) (S : Sto) (as : List Ab) (r : Rs (List W)) : Prop := ∃ ws S', r = some (.ok ws S') ∧ Le R S S' ∧ gams R S' as ws
structure ItOk (R : Rsc) (S : Sto) (q : Ab × Nat × Nat) (j : Itr) : Prop where
  el : ∀ w ∈ j.items, gam R S q.1 w
  lo : q.2.1 ≤ j.items.length
  hi : j.items.length ≤ q.2.2
  st : ∀ n ws, (n, ws) ∈ j.held → ¬ R.own n ∧ S[n]? = some (.lst true ws)
theorem ItOk.stays {R : Rsc} {S S' : Sto} {q : Ab × Nat × Nat} {j : Itr} (h : ItOk R S q j) (k : ∀ n, ¬ R.own n → ∀ o, S[n]? = some o → S'[n]? = some o) : j.stays S' := fun n ws e => by
  obtain ⟨h1, h2⟩ := h.st n ws e
  exact ⟨true, k n h1 _ h2⟩
section
variable {R : Rsc} {S : Sto}
theorem TruOk.of {a : Ab} {q : TB} (h : truU a = some q) : TruOk R a := fun S w g => let ⟨b, h1, _⟩ := truU_of h g; ⟨b, h1⟩
theorem TruOk.sub {a b : Ab} (h : TruOk R b) (k : ∀ S w, gam R S a w → gam R S b w) : TruOk R a := fun S w g => h S w (k S w g)
theorem OkT.of {a : Ab} {r : Rs W} (h : OkE R S a r) (t : TruOk R a) : OkT R S a (r.bind fun w S1 => liftW (truW S1 w) S1) := by
  obtain ⟨w, S', rfl, h2, h3⟩ := h
  obtain ⟨b, hb⟩ := t S' w h3
  exact ⟨w, b, S', by rw [Rs.bind_ok, hb]; rfl, h2, h3, hb⟩
theorem OkE.bind {a b : Ab} {r : Rs W} {f : W → Sto → Rs W} (h : OkE R S a r) (k : ∀ w S', Le R S S' → gam R S' a w → OkE R S' b (f w S')) : OkE R S b (r.bind f) := by
  obtain ⟨w, S', rfl, h2, h3⟩ := h
  obtain ⟨w', S'', h4, h5, h6⟩ := k w S' h2 h3
  exact ⟨w', S'', by rw [Rs.bind_ok]; exact h4, h2.trans h5, h6⟩
theorem OkEs.bind {as : List Ab} {b : Ab} {r : Rs (List W)} {f : List W → Sto → Rs W} (h : OkEs R S as r) (k : ∀ ws S', Le R S S' → gams R S' as ws → OkE R S' b (f ws S')) : OkE R S b (r.bind f) := by
  obtain ⟨w, S', rfl, h2, h3⟩ := h
  obtain ⟨w', S'', h4, h5, h6⟩ := k w S' h2 h3
  exact ⟨w', S'', by rw [Rs.bind_ok]; exact h4, h2.trans h5, h6⟩
theorem OkE.le {S' : Sto} {b : Ab} {r : Rs W} (e : Le R S S') (h : OkE R S' b r) : OkE R S b r := by
  obtain ⟨w, S'', h1, h2, h3⟩ := h
  exact ⟨w, S'', h1, e.trans h2, h3⟩
theorem lift_pure {α : Type} {o : Option α} {f : α → W} {x : α} {a : Ab} (i : R.inv S) (h : o = some x) (g : gam R S a (f x)) : OkE R S a (liftW (o.map f) S) := by
  rw [h]
  exact .pure i g
theorem gbl {q : TB} {b : Bool} (h : okB q b) : gam R S (.bl q.1 q.2) (.bl b) := by
  unfold gam
  exact ⟨b, rfl, h.1, h.2⟩
theorem cstA_of {w : W} {a : Ab} (h : cstA w = some a) : gam R S a w := by
  cases w <;> first | (cases h; done) | skip
  · cases h; unfold gam; rfl
  · cases h
    unfold gam
    refine ⟨_, rfl, (fun e => e), fun e => ?_⟩
    rw [e]; rfl
  · cases h; unfold gam; exact ⟨_, rfl, Int.le_refl _, Int.le_refl _⟩
  · cases h; unfold gam; rfl
theorem negU_of {a c : Ab} {x : W} (h : (allO (liftU negA a)).map joinAll = some c) (i : R.inv S) (g : gam R S a x) : OkE R S c ((fun (y : W) => match y with | .int i => okW (W.int (-i)) S | _ => none) x) := by
  refine lift1_ok (f := negA) (r := fun S x => match x with | .int i => okW (W.int (-i)) S | _ => none) (fun {a c x} q i g => ?_) h i g
  cases a <;> first | (cases q; done) | skip
  cases q
  unfold gam at g
  obtain ⟨n, rfl, h1, h2⟩ := g
  refine .pure i ?_
  unfold gam
  exact ⟨_, rfl, negO_lo h2, negO_hi h1⟩
theorem minL_le : ∀ {l : List Nat} {n : Nat}, n ∈ l → minL l ≤ n
  | [a], n, h => by rw [List.mem_singleton.mp h]; exact Nat.le_refl _
  | a :: b :: r, n, h => by
    show min a (minL (b :: r)) ≤ n
    rcases List.mem_cons.mp h with rfl | h
    · exact Nat.min_le_left _ _
    · exact Nat.le_trans (Nat.min_le_right _ _) (minL_le h)
theorem maxL_le : ∀ {l : List Nat} {n : Nat}, n ∈ l → n ≤ maxL l
  | a :: r, n, h => by
    show n ≤ max a (maxL r)
    rcases List.mem_cons.mp h with rfl | h
    · exact Nat.le_max_left _ _
    · exact Nat.le_trans (maxL_le h) (Nat.le_max_right _ _)
theorem minI_le : ∀ {l : List Int} {n : Int}, n ∈ l → minI l ≤ n
  | [a], n, h => by rw [List.mem_singleton.mp h]; exact Int.le_refl _
  | a :: b :: r, n, h => by
    show min a (minI (b :: r)) ≤ n
    rcases List.mem_cons.mp h with rfl | h
    · omega
    · have := minI_le h; omega
theorem maxI_le : ∀ {l : List Int} {n : Int}, n ∈ l → n ≤ maxI l
  | [a], n, h => by rw [List.mem_singleton.mp h]; exact Int.le_refl _
  | a :: b :: r, n, h => by
    show n ≤ max a (maxI (b :: r))
    rcases List.mem_cons.mp h with rfl | h
    · omega
    · have := maxI_le h; omega
theorem intU_of {a : Ab} {q : Int × Int} {w : W} (h : intU a = some q) (g : gam R S a w) : ∃ i, w = .int i ∧ q.1 ≤ i ∧ i ≤ q.2 := by
  unfold intU at h
  simp only [Option.map_eq_some_iff] at h
  obtain ⟨l, h1, rfl⟩ := h
  obtain ⟨b, gb, hm⟩ := liftU_of (f := intA) g
  obtain ⟨p, h2, h3⟩ := allO_of h1 hm
  unfold intA at h2
  split at h2
  · cases h2
    unfold gam at gb
    obtain ⟨i, rfl, h4, h5⟩ := gb
    have h4 : _ ≤ i := h4
    have h5 : i ≤ _ := h5
    refine ⟨i, rfl, ?_, ?_⟩
    · have := minI_le (List.mem_map_of_mem (f := (·.1)) h3)
      exact Int.le_trans this h4
    · have := maxI_le (List.mem_map_of_mem (f := (·.2)) h3)
      exact Int.le_trans h5 this
  · cases h2
/-- a value as a row -/
structure RowOk (R : Rsc) (S : Sto) (q : Ab × Nat × Nat) (ws : List W) : Prop where
  el : ∀ w ∈ ws, gam R S q.1 w
  lo : q.2.1 ≤ ws.length
  hi : ws.length ≤ q.2.2
theorem RowOk.wide {l : List (Ab × Nat × Nat)} {p : Ab × Nat × Nat} {ws : List W} (h : RowOk R S p ws) (hp : p ∈ l) : RowOk R S (joinAll (l.map (·.1)), minL (l.map (·.2.1)), maxL (l.map (·.2.2))) ws :=
  ⟨fun w hw => joinAll_of (List.mem_map_of_mem (f := (·.1)) hp) (h.el w hw), Nat.le_trans (minL_le (List.mem_map_of_mem (f := (·.2.1)) hp)) h.lo, Nat.le_trans h.hi (maxL_le (List.mem_map_of_mem (f := (·.2.2)) hp))⟩
theorem rowU_of {f : Ab → Option (Ab × Nat × Nat)} {a : Ab} {q : Ab × Nat × Nat} {w : W} (h : rowU f a = some q) (g : gam R S a w) : ∃ b p, gam R S b w ∧ f b = some p ∧ ∀ ws, RowOk R S p ws → RowOk R S q ws := by
  unfold rowU at h
  simp only [Option.map_eq_some_iff] at h
  obtain ⟨l, h1, rfl⟩ := h
  obtain ⟨b, gb, hm⟩ := liftU_of (f := f) g
  obtain ⟨p, h2, h3⟩ := allO_of h1 hm
  exact ⟨b, p, gb, h2, fun ws hw => hw.wide h3⟩
theorem rowE_of {a : Ab} {p : Ab × Nat × Nat} {w : W} (h : rowE a = some p) (g : gam R S a w) : (∃ ws, w = .tup ws ∧ RowOk R S p ws) ∨ ∃ n ws, w = .ref n ∧ ¬ R.own n ∧ S[n]? = some (.lst true ws) ∧ RowOk R S p ws := by
  obtain ⟨x, lo, hi⟩ := p
  unfold rowE at h
  cases e : rowA a with
  | some q =>
    rw [e] at h
    cases h
    obtain ⟨ws, rfl, h1, h2, h3⟩ := rowA_of e g
    exact .inl ⟨ws, rfl, h3, h1, h2⟩
  | none =>
    rw [e] at h
    obtain ⟨n, ws, rfl, h0, h0', h1, h2, h3⟩ := rowL_of (show rowL a = some (x, lo, hi) from h) g
    exact .inr ⟨n, ws, rfl, h0, h0', h3, h1, h2⟩
theorem seq_of {a : Ab} {q : Ab × Nat × Nat} {w : W} (h : rowU rowI a = some q) (g : gam R S a w) : ∃ j, (match w with
    | .tup ws => okW (Itr.mk ws []) S
    | .str z => okW ⟨z.cps.toList.map fun c => .str ⟨#[c]⟩, []⟩ S
    | .ref n => (match S[n]? with
      | some (.lst _ ws) => okW ⟨ws, [(n, ws)]⟩ S
      | _ => none)
    | _ => none) = some (.ok j S) ∧ ItOk R S q j := by
  obtain ⟨b, p, gb, hb, wide⟩ := rowU_of h g
  have one : ∀ (x : Str) (k : Nat), (k = 1 ∧ okc x = true ∨ k = 65536) → ∀ c ∈ x.cps.toList, gam R S (.stx k) (.str ⟨#[c]⟩) := fun x k hk c hc => by
    unfold gam
    rcases hk with ⟨rfl, hk⟩ | rfl
    · refine ⟨_, rfl, Nat.le_refl _, ?_⟩
      unfold rich okc
      unfold okc at hk
      have := List.all_eq_true.mp hk c hc
      simp only [List.all_cons, List.all_nil, Bool.and_true]
      rw [this, Bool.or_true]
    · exact ⟨_, rfl, by show 1 ≤ 65536; decide, rfl⟩
  cases b <;> first | (cases hb; done) | skip
  case str x =>
    cases hb
    unfold gam at gb
    subst gb
    obtain ⟨r1, r2, r3⟩ := wide (x.cps.toList.map fun c => .str ⟨#[c]⟩) ⟨fun w hw => by obtain ⟨c, hc, rfl⟩ := List.mem_map.mp hw; exact one x _ (by split <;> simp [*]) c hc, by simp [Str.length], by simp [Str.length]⟩
    exact ⟨_, rfl, r1, r2, r3, fun n ws e => by cases e⟩
  case stx n =>
    cases hb
    unfold gam at gb
    obtain ⟨x, rfl, hx, hr⟩ := gb
    have hr' : n < 65536 → okc x = true := fun q => by
      unfold rich at hr
      simpa [Nat.not_le.mpr q] using hr
    obtain ⟨r1, r2, r3⟩ := wide (x.cps.toList.map fun c => .str ⟨#[c]⟩) ⟨fun w hw => by obtain ⟨c, hc, rfl⟩ := List.mem_map.mp hw; exact one x _ (by split <;> simp [*]) c hc, Nat.zero_le _, by simpa [Str.length] using hx⟩
    exact ⟨_, rfl, r1, r2, r3, fun n ws e => by cases e⟩
  all_goals
    rcases rowE_of (p := p) (by cases hb; rfl) gb with ⟨ws, rfl, hr⟩ | ⟨n, ws, rfl, h0, h0', hr⟩
    · obtain ⟨r1, r2, r3⟩ := wide ws hr
      exact ⟨_, rfl, r1, r2, r3, fun n ws e => by cases e⟩
    · obtain ⟨r1, r2, r3⟩ := wide ws hr
      exact ⟨⟨ws, [(n, ws)]⟩, by simp only [h0']; rfl, r1, r2, r3, fun n ws e => by rw [List.mem_singleton] at e; cases e; exact ⟨h0, h0'⟩⟩
theorem enm_of {a : Ab} {q : Ab × Nat × Nat} {w : W} (h : rowU rowE a = some q) (g : gam R S a w) : ∃ j, (match w with
    | .tup ws => okW (Itr.mk (pairsW ws) []) S
    | .ref n => (match S[n]? with
      | some (.lst _ ws) => okW ⟨pairsW ws, [(n, ws)]⟩ S
      | _ => none)
    | _ => none) = some (.ok j S) ∧ ItOk R S (.tup [.int (some 0) (some ((q.2.2 : Nat) - 1)), q.1], q.2.1, q.2.2) j := by
  obtain ⟨b, p, gb, hb, wide⟩ := rowU_of h g
  have pair : ∀ ws, RowOk R S q ws → ∀ w ∈ pairsW ws, gam R S (.tup [.int (some 0) (some ((q.2.2 : Nat) - 1)), q.1]) w := fun ws hr w hw => by
    obtain ⟨i, hi⟩ := List.mem_iff_getElem?.mp hw
    have hl : i < ws.length := by
      have := (List.getElem?_eq_some_iff.mp hi).1
      simpa [pairsW] using this
    have e : w = .tup [.int (i : Nat), ws[i]] := by
      have := pairsW_get (ws := ws) (i := i) (w := ws[i]) (by simp [hl])
      rw [this] at hi
      exact (Option.some.inj hi).symm
    subst e
    unfold gam
    refine ⟨_, rfl, ?_⟩
    unfold gams gams gams
    refine ⟨?_, hr.el _ (List.getElem_mem hl), trivial⟩
    unfold gam
    have := hr.hi
    exact ⟨_, rfl, Int.natCast_nonneg _, by show (i : Int) ≤ (q.2.2 : Int) - 1; omega⟩
  rcases rowE_of hb gb with ⟨ws, rfl, hr⟩ | ⟨n, ws, rfl, h0, h0', hr⟩
  · have hq := wide ws hr
    exact ⟨_, rfl, pair ws hq, by rw [pairsW_len]; exact hq.lo, by rw [pairsW_len]; exact hq.hi, fun n ws e => by cases e⟩
  · have hq := wide ws hr
    exact ⟨⟨pairsW ws, [(n, ws)]⟩, by simp only [h0']; rfl, pair ws hq, by rw [pairsW_len]; exact hq.lo, by rw [pairsW_len]; exact hq.hi, fun n ws e => by rw [List.mem_singleton] at e; cases e; exact ⟨h0, h0'⟩⟩
theorem zip_of {a b : Ab} {p q : Ab × Nat × Nat} {x y : W} (h : rowU rowL a = some p) (h' : rowU rowL b = some q) (g : gam R S a x) (g' : gam R S b y) : ∃ j, (match x, y with
    | .ref n, .ref m => (match S[n]?, S[m]? with
      | some (.lst _ ws), some (.lst _ us) => okW (Itr.mk (List.zipWith (fun x y => .tup [x, y]) ws us) [(n, ws), (m, us)]) S
      | _, _ => none)
    | _, _ => none) = some (.ok j S) ∧ ItOk R S (.tup [p.1, q.1], if p.2.1 ≤ q.2.1 then p.2.1 else q.2.1, if p.2.2 ≤ q.2.2 then p.2.2 else q.2.2) j := by
  obtain ⟨b1, p1, gb1, hb1, wide1⟩ := rowU_of h g
  obtain ⟨b2, p2, gb2, hb2, wide2⟩ := rowU_of h' g'
  obtain ⟨n, ws, rfl, o1, e1, l1, u1, k1⟩ := rowL_of (x := p1.1) (lo := p1.2.1) (hi := p1.2.2) hb1 gb1
  obtain ⟨m, us, rfl, o2, e2, l2, u2, k2⟩ := rowL_of (x := p2.1) (lo := p2.2.1) (hi := p2.2.2) hb2 gb2
  have r1 := wide1 ws ⟨k1, l1, u1⟩
  have r2 := wide2 us ⟨k2, l2, u2⟩
  have hlen : (List.zipWith (fun x y => W.tup [x, y]) ws us).length = min ws.length us.length := by simp
  have a1 := r1.lo
  have a2 := r1.hi
  have a3 := r2.lo
  have a4 := r2.hi
  refine ⟨⟨List.zipWith (fun x y => .tup [x, y]) ws us, [(n, ws), (m, us)]⟩, by simp only [e1, e2]; rfl, fun w hw => ?_, ?_, ?_, fun k vs e => ?_⟩
  · obtain ⟨i, hi⟩ := List.mem_iff_getElem?.mp hw
    have hl : i < min ws.length us.length := by rw [← hlen]; exact (List.getElem?_eq_some_iff.mp hi).1
    have e : w = .tup [ws[i], us[i]] := by
      rw [List.getElem?_zipWith] at hi
      have q1 : ws[i]? = some ws[i] := by simp
      have q2 : us[i]? = some us[i] := by simp
      rw [q1, q2] at hi
      exact (Option.some.inj hi).symm
    subst e
    unfold gam
    refine ⟨_, rfl, ?_⟩
    unfold gams gams gams
    exact ⟨r1.el _ (List.getElem_mem _), r2.el _ (List.getElem_mem _), trivial⟩
  · show (if p.2.1 ≤ q.2.1 then p.2.1 else q.2.1) ≤ (List.zipWith (fun x y => W.tup [x, y]) ws us).length
    rw [hlen]
    split <;> omega
  · show (List.zipWith (fun x y => W.tup [x, y]) ws us).length ≤ (if p.2.2 ≤ q.2.2 then p.2.2 else q.2.2)
    rw [hlen]
    split <;> omega
  · rcases List.mem_cons.mp e with e | e
    · cases e; exact ⟨o1, e1⟩
    · rw [List.mem_singleton] at e
      cases e
      exact ⟨o2, e2⟩
theorem range_of {i j : Int} {l h l' h' : Int} (h1 : l ≤ i) (h2 : i ≤ h) (h3 : l' ≤ j) (h4 : j ≤ h') : ItOk R S (.int (some l) (some (h' - 1)), (l' - h).toNat, (h' - l).toNat) ⟨rangeW i j, []⟩ := by
  refine ⟨fun w hw => ?_, by simp [rangeW]; omega, by simp [rangeW]; omega, fun n ws e => by cases e⟩
  simp only [rangeW, List.mem_map, List.mem_range] at hw
  obtain ⟨k, hk, rfl⟩ := hw
  unfold gam
  exact ⟨_, rfl, by show l ≤ i + (k : Int); omega, by show i + (k : Int) ≤ h' - 1; omega⟩
end
end Co
namespace Co
open PySem L2

/-! ### a comprehension's turns -/
section
variable {R : Rsc}
/-- one turn, the list in the making shut -/
def TurnOk (R : Rsc) (D : Nat) (q el : Ab) (must : Bool) (e0 : AEnv) (ρ0 : En) (put : W → En → Option En) (cond : En → Sto → Rs Bool) (elt : En → Sto → Rs W) : Prop :=
  ∀ acc S w, (R.shut D (.lst true acc)).inv S → gam (R.shut D (.lst true acc)) S q w → Gen (R.shut D (.lst true acc)) S e0 ρ0 → ∃ ρ1, put w ρ0 = some ρ1 ∧ ∃ b S', cond ρ1 S = some (.ok b S') ∧ Le (R.shut D (.lst true acc)) S S' ∧ (must = true → b = true) ∧
    (b = true → ∃ y S'', elt ρ1 S' = some (.ok y S'') ∧ Le (R.shut D (.lst true acc)) S' S'' ∧ gam (R.shut D (.lst true acc)) S'' el y)
structure Base (R : Rsc) (S1 S : Sto) : Prop where
  len : S1.length < S.length
  get : ∀ n, n < S1.length → ¬ R.own n → S[n]? = S1[n]?
theorem Base.le {S1 S S' : Sto} {D : Nat} {acc : MO} (b : Base R S1 S) (hD : D = S1.length) (e : Le (R.shut D acc) S S') : Base R S1 S' :=
  ⟨Nat.lt_of_lt_of_le b.len e.len, fun n h o => by
    rw [e.get n (Nat.lt_trans h b.len) (by rintro (z | z); exact o z; subst hD; omega)]
    exact b.get n h o⟩
theorem comp_turns {S1 : Sto} {D : Nat} {q el : Ab} {must : Bool} {e0 : AEnv} {ρ0 : En} {put : W → En → Option En} {cond : En → Sto → Rs Bool} {elt : En → Sto → Rs W} {stays : Sto → Prop} (i1 : R.inv S1) (hD : D = S1.length) (hst : ∀ S, Base R S1 S → stays S) (T : TurnOk R D q el must e0 ρ0 put cond elt) (g0 : Gen R S1 e0 ρ0) :
    ∀ (ws : List W) (acc : List W) (S : Sto), (∀ w ∈ ws, gam R S1 q w) → Base R S1 S → (R.shut D (.lst true acc)).inv S → (∀ y ∈ acc, gam (R.shut D (.lst true acc)) S el y) → acc.length + ws.length < sizeLine →
      ∃ S' acc', compL put cond elt ρ0 stays D ws S = some (.ok (.ref D) S') ∧ Base R S1 S' ∧ (R.shut D (.lst true acc')).inv S' ∧ (∀ y ∈ acc', gam (R.shut D (.lst true acc')) S' el y) ∧ (must = true → acc.length + ws.length ≤ acc'.length) ∧ acc'.length ≤ acc.length + ws.length := by
  have nD : ¬ R.own D := by subst hD; exact not_own_new i1
  intro ws
  induction ws with
  | nil =>
    intro acc S _ b iS ga hz
    refine ⟨S, acc, ?_, b, iS, ga, fun _ => Nat.le_refl _, Nat.le_refl _⟩
    unfold compL
    rw [if_pos (hst S b)]
    rfl
  | cons w ws ih =>
    intro acc S hw b iS ga hz
    have into : ∀ (n : Nat) (o : MO), ¬ R.own n → S1[n]? = some o → ¬ (R.shut D (.lst true acc)).own n ∧ S[n]? = some o := fun n o no e => by
      have hl := (List.getElem?_eq_some_iff.mp e).1
      exact ⟨by rintro (z | z); exact no z; subst hD; omega, by rw [b.get n hl no]; exact e⟩
    obtain ⟨ρ1, hp, k, S2, hc, e2, hm, he⟩ := T acc S w iS (gam_off (R := R) (R' := R.shut D (.lst true acc)) rfl into q w (hw w (List.mem_cons_self ..))) (g0.off (R := R) (R' := R.shut D (.lst true acc)) rfl into)
    have b2 := b.le hD e2
    have ga2 : ∀ y ∈ acc, gam (R.shut D (.lst true acc)) S2 el y := fun y hy => gam_le e2 el y (ga y hy)
    unfold compL
    rw [if_pos (hst S b)]
    simp only [hp, hc, Rs.bind_ok]
    have hws : ∀ w ∈ ws, gam R S1 q w := fun v hv => hw v (List.mem_cons_of_mem _ hv)
    rw [List.length_cons] at hz
    cases k with
    | false =>
      simp only [Bool.false_eq_true, if_false]
      obtain ⟨S', acc', h1, h2, h3, h4, h5, h6⟩ := ih acc S2 hws b2 e2.inv ga2 (by omega)
      exact ⟨S', acc', h1, h2, h3, h4, (fun z => nomatch hm z), by rw [List.length_cons]; omega⟩
    | true =>
      obtain ⟨y, S3, h1, e3, gy⟩ := he rfl
      have b3 := b2.le hD e3
      have i3 := e3.inv
      simp only [if_true, h1, Rs.bind_ok, i3.2]
      rw [if_pos (by omega)]
      have hDl : D < S3.length := (List.getElem?_eq_some_iff.mp i3.2).1
      have off : ∀ (n : Nat), n ≠ D → (S3.set D (.lst true (acc ++ [y])))[n]? = S3[n]? := fun n hn => List.getElem?_set_ne (Ne.symm hn)
      have to : ∀ (n : Nat) (o : MO), ¬ (R.shut D (.lst true acc)).own n → S3[n]? = some o → ¬ (R.shut D (.lst true (acc ++ [y]))).own n ∧ (S3.set D (.lst true (acc ++ [y])))[n]? = some o := fun n o no e => ⟨no, by rw [off n fun z => no (.inr z)]; exact e⟩
      have i4 : (R.shut D (.lst true (acc ++ [y]))).inv (S3.set D (.lst true (acc ++ [y]))) := ⟨R.st S3 _ i3.1 fun n o => off n fun z => nD (z ▸ o), List.getElem?_set_self hDl⟩
      have b4 : Base R S1 (S3.set D (.lst true (acc ++ [y]))) := ⟨by rw [List.length_set]; exact b3.len, fun n h o => by rw [off n (by subst hD; omega)]; exact b3.get n h o⟩
      obtain ⟨S', acc', h1, h2, h3, h4, h5, h6⟩ := ih (acc ++ [y]) _ hws b4 i4 (fun z hz => by
        rcases List.mem_append.mp hz with hz | hz
        · exact gam_off (R := R.shut D (.lst true acc)) (R' := R.shut D (.lst true (acc ++ [y]))) rfl to el z (gam_le e3 el z (ga2 z hz))
        · rw [List.mem_singleton.mp hz]
          exact gam_off (R := R.shut D (.lst true acc)) (R' := R.shut D (.lst true (acc ++ [y]))) rfl to el y gy) (by rw [List.length_append, List.length_singleton]; omega)
      rw [List.length_append, List.length_singleton] at h5 h6
      exact ⟨S', acc', h1, h2, h3, h4, fun z => by have := h5 z; rw [List.length_cons]; omega, by rw [List.length_cons]; omega⟩
theorem comp_ok {S1 : Sto} {q : Ab × Nat × Nat} {el : Ab} {must : Bool} {e0 : AEnv} {ρ0 : En} {put : W → En → Option En} {cond : En → Sto → Rs Bool} {elt : En → Sto → Rs W} {j : Itr} (i1 : R.inv S1) (hj : ItOk R S1 q j) (hz : q.2.2 < sizeLine) (T : TurnOk R S1.length q.1 el must e0 ρ0 put cond elt) (g0 : Gen R S1 e0 ρ0) :
    OkE R S1 (.lsts el (if must = true then q.2.1 else 0) q.2.2) (compL put cond elt ρ0 j.stays S1.length j.items (S1 ++ [.lst true []])) := by
  have nD := not_own_new i1
  have b0 : Base R S1 (S1 ++ [.lst true []]) := ⟨by simp, fun n h _ => List.getElem?_append_left h⟩
  obtain ⟨S', acc', h1, h2, h3, h4, h5, h6⟩ := comp_turns i1 rfl (fun S b => hj.stays fun n o u e => by rw [b.get n (List.getElem?_eq_some_iff.mp e).1 o]; exact e) T g0 j.items [] _ hj.el b0
    ⟨(Le.new (R := R) i1 _).inv, by simp⟩ (fun y hy => by cases hy) (by have := hj.hi; simp; omega)
  refine ⟨_, S', h1, ⟨Nat.le_of_lt h2.len, h2.get, h3.1⟩, ?_⟩
  unfold gam
  simp only [List.length_nil, Nat.zero_add] at h5 h6
  refine ⟨S1.length, acc', rfl, nD, h3.2, ?_, Nat.le_trans h6 hj.hi, fun y hy => gam_off (R := R.shut S1.length (.lst true acc')) (R' := R) rfl (fun n o no e => ⟨fun z => no (.inl z), e⟩) el y (h4 y hy)⟩
  split
  · rename_i hm
    exact Nat.le_trans hj.lo (h5 hm)
  · exact Nat.zero_le _
end
end Co
namespace Co
open PySem L2

/-- what is taken for known of the defs and the constants -/
structure Env (R0 : Rsc) (G : List W) (O : Orc) (show_ : Ab → Option Nat) (GA : List Ab) (aO : Nat → List Ab → Option Ab) : Prop where
  sh : ∀ R, ShowOk R show_
  gl : ∀ (i : Nat) (a : Ab), GA[i]? = some a → ∃ w, G[i]? = some w ∧ ∀ R S, gam R S a w
  fn : ∀ R, Ext0 R0 R → ∀ f as a, aO f as = some a → ∀ ws S, R.inv S → gams R S as ws → OkE R S a (O f ws S)
section
variable {R0 : Rsc} {G : List W} {O : Orc} {show_ : Ab → Option Nat} {GA : List Ab} {aO : Nat → List Ab → Option Ab}
theorem filterMap_gams {R : Rsc} {S : Sto} {as : List Ab} {ws : List W} (g : gams R S as ws) : ∀ perm : List Nat, gams R S (perm.filterMap (as[·]?)) (perm.filterMap (ws[·]?))
  | [] => by unfold List.filterMap gams; trivial
  | i :: perm => by
    have ih := filterMap_gams g perm
    rw [List.filterMap_cons, List.filterMap_cons]
    cases e : ws[i]? with
    | some w =>
      obtain ⟨a, h1, h2⟩ := gams_get g e
      rw [h1]
      show gams R S (a :: _) (w :: _)
      unfold gams
      exact ⟨h2, ih⟩
    | none =>
      have : as[i]? = none := by
        rw [List.getElem?_eq_none_iff] at e ⊢
        rw [gams_len g]
        exact e
      rw [this]
      exact ih
theorem merge_nodup : ∀ {more kvs : List (Key × W)}, ((kvs ++ more).map (·.1)).Nodup → mergeD kvs more = kvs ++ more
  | [], kvs, _ => by rw [List.append_nil]; rfl
  | p :: more, kvs, h => by
    have e : mergeD kvs (p :: more) = mergeD (putD kvs p.1 p.2) more := rfl
    have np : (kvs.any fun kv => decide (kv.1 = p.1)) = false := by
      rw [List.any_eq_false]
      intro q hq z
      have z := of_decide_eq_true z
      rw [List.map_append, List.nodup_append] at h
      exact h.2.2 q.1 (List.mem_map_of_mem hq) p.1 (by simp) z
    have e2 : putD kvs p.1 p.2 = kvs ++ [p] := by
      unfold putD
      rw [if_neg (by rw [np]; decide)]
    rw [e, e2, merge_nodup (by simpa using h), List.append_assoc]
    rfl
theorem restA_of {R : Rsc} {S : Sto} {k b : Bool} {a : Ab} {w : W} (ht : truW S w = some b) (hk : b ≠ k) (g : gam R S a w) : gam R S (restA k a) w := by
  cases a <;> try exact g
  unfold gam at g
  obtain ⟨c, rfl, h1, h2⟩ := g
  have e : c = b := Option.some.inj ht
  subst e
  cases k with
  | true =>
    have e : c = false := by cases c <;> first | rfl | exact absurd rfl hk
    show gam R S (.bl false _) (.bl c)
    unfold gam
    exact ⟨c, rfl, (fun q => by rw [e] at q; cases q), h2⟩
  | false =>
    have e : c = true := by cases c <;> first | rfl | exact absurd rfl hk
    show gam R S (.bl _ false) (.bl c)
    unfold gam
    exact ⟨c, rfl, h1, (fun q => by rw [e] at q; cases q)⟩
theorem restU_of {R : Rsc} {S : Sto} {k b : Bool} {a : Ab} {w : W} (ht : truW S w = some b) (hk : b ≠ k) (g : gam R S a w) : gam R S (restU k a) w := by
  cases a with
  | or as =>
    unfold gam at g
    obtain ⟨c, hc, gc⟩ := gamU_iff.mp g
    show gam R S (.or (as.map (restA k))) w
    unfold gam
    exact gamU_iff.mpr ⟨restA k c, List.mem_map.mpr ⟨c, hc, rfl⟩, restA_of ht hk gc⟩
  | _ => exact restA_of ht hk g
theorem mix_l {R : Rsc} {S : Sto} {k b : Bool} {q : TB} {v y : Ab} {w : W} (hb : okB q b) (hk : b ≠ k) (gw : gam R S v w) : gam R S (mixB k q v y) w := by
  unfold mixB
  cases k with
  | true =>
    have : b = false := by cases b <;> first | rfl | exact absurd rfl hk
    rw [if_pos rfl, if_pos (hb.2 this)]
    split
    · exact joinA_l gw
    · exact gw
  | false =>
    have : b = true := by cases b <;> first | rfl | exact absurd rfl hk
    rw [if_neg Bool.false_ne_true, if_pos (hb.1 this)]
    split
    · exact joinA_l gw
    · exact gw
theorem mix_r {R : Rsc} {S : Sto} {k b : Bool} {q : TB} {v y : Ab} {w : W} (hb : okB q b) (hk : b = k) (gw : gam R S y w) : gam R S (mixB k q v y) w := by
  subst hk
  unfold mixB
  cases b with
  | true =>
    rw [if_pos rfl]
    split
    · rw [if_pos (hb.1 rfl)]; exact joinA_r gw
    · exact gw
  | false =>
    rw [if_neg Bool.false_ne_true]
    split
    · rw [if_pos (hb.2 rfl)]; exact joinA_r gw
    · exact gw
mutual
theorem sndE (V : Env R0 G O show_ GA aO) : ∀ (c : CE) {R : Rsc} {e : AEnv} {a : Ab} {ρ : En} {S : Sto}, Ext0 R0 R → aE show_ GA aO c e = some a → R.inv S → Gen R S e ρ → OkE R S a (runE G O c ρ S) ∧ (TruOk R a → OkT R S a (runT G O c ρ S))
  | .var i, R, e, a, ρ, S, x, h, iS, g => by
    unfold aE at h
    simp only [Option.bind_eq_some_iff, id_eq] at h
    obtain ⟨o, h1, rfl⟩ := h
    obtain ⟨w, h2, h3⟩ := g.at_ i a h1
    have p : OkE R S a (runE G O (.var i) ρ S) := by
      unfold runE
      rw [h2]
      exact .pure iS h3
    refine ⟨p, fun t => ?_⟩
    have q := OkT.of p t
    unfold runE at q
    unfold runT
    rw [h2] at q ⊢
    exact q
  | .cst w, R, e, a, ρ, S, x, h, iS, g => by
    unfold aE at h
    have p : OkE R S a (runE G O (.cst w) ρ S) := by
      unfold runE
      exact .pure iS (cstA_of h)
    exact ⟨p, fun t => OkT.of p t⟩
  | .glo i, R, e, a, ρ, S, x, h, iS, g => by
    unfold aE at h
    obtain ⟨w, h1, h2⟩ := V.gl i a h
    have p : OkE R S a (runE G O (.glo i) ρ S) := by
      unfold runE
      rw [h1]
      exact .pure iS (h2 R S)
    exact ⟨p, fun t => OkT.of p t⟩
  | .bin o c d, R, e, a, ρ, S, x, h, iS, g => by
    unfold aE at h
    simp only [Option.bind_eq_some_iff] at h
    obtain ⟨y, h1, z, h2, h3⟩ := h
    have p : OkE R S a (runE G O (.bin o c d) ρ S) := by
      unfold runE
      refine (sndE V c x h1 iS g).1.bind fun w S1 e1 g1 => (sndE V d x h2 e1.inv (g.le e1)).1.bind fun u S2 e2 g2 => ?_
      exact op2U_of h3 e2.inv (gam_le e2 _ _ g1) g2
    exact ⟨p, fun t => OkT.of p t⟩
  | .neg c, R, e, a, ρ, S, x, h, iS, g => by
    unfold aE at h
    simp only [Option.bind_eq_some_iff] at h
    obtain ⟨y, h1, h2⟩ := h
    have p : OkE R S a (runE G O (.neg c) ρ S) := by
      unfold runE
      exact (sndE V c x h1 iS g).1.bind fun w S1 e1 g1 => negU_of h2 e1.inv g1
    exact ⟨p, fun t => OkT.of p t⟩
  | .not_ c, R, e, a, ρ, S, x, h, iS, g => by
    unfold aE at h
    simp only [Option.bind_eq_some_iff, Option.map_eq_some_iff] at h
    obtain ⟨y, h1, q, h2, rfl⟩ := h
    have ih := sndE V c x h1 iS g
    refine ⟨?_, fun t => ?_⟩
    · unfold runE
      refine ih.1.bind fun w S1 e1 g1 => ?_
      obtain ⟨b, hb, hq⟩ := truU_of h2 g1
      rw [hb]
      exact .pure e1.inv (gbl (okB_not hq))
    · unfold runT
      obtain ⟨w, b, S1, h3, h4, h5, h6⟩ := ih.2 (.of h2)
      obtain ⟨b', hb, hq⟩ := truU_of h2 h5
      rw [h6] at hb
      cases hb
      exact ⟨.bl !b, !b, S1, by rw [h3]; rfl, h4, gbl (okB_not hq), rfl⟩
  | .bool k es, R, e, a, ρ, S, x, h, iS, g => by
    unfold aE at h
    have ih := sndB V k es x h iS g
    refine ⟨?_, fun t => ?_⟩
    · unfold runE
      exact ih.1
    · unfold runT
      exact ih.2 t
  | .cmp c a' b', R, e, a, ρ, S, x, h, iS, g => by
    unfold aE at h
    simp only [Option.bind_eq_some_iff, Option.map_eq_some_iff] at h
    obtain ⟨y, h1, z, h2, q, h3, rfl⟩ := h
    refine ⟨?_, fun t => ?_⟩
    · unfold runE
      refine (sndE V a' x h1 iS g).1.bind fun w S1 e1 g1 => (sndE V b' x h2 e1.inv (g.le e1)).1.bind fun u S2 e2 g2 => ?_
      obtain ⟨r, h4, h5⟩ := cmpU_of h3 (gam_le e2 _ _ g1) g2
      exact lift_pure e2.inv h4 (gbl h5)
    · unfold runT
      obtain ⟨w, S1, e1, l1, g1⟩ := (sndE V a' x h1 iS g).1
      obtain ⟨u, S2, e2, l2, g2⟩ := (sndE V b' x h2 l1.inv (g.le l1)).1
      obtain ⟨r, h4, h5⟩ := cmpU_of h3 (gam_le l2 _ _ g1) g2
      exact ⟨.bl r, r, S2, by rw [e1, Rs.bind_ok, e2, Rs.bind_ok, h4]; rfl, l1.trans l2, gbl h5, rfl⟩
  | .chain c d a' b' z', R, e, a, ρ, S, x, h, iS, g => by
    unfold aE at h
    simp only [Option.bind_eq_some_iff, Option.map_eq_some_iff] at h
    obtain ⟨y, h1, z, h2, q, h3, v, h4, r, h5, rfl⟩ := h
    obtain ⟨w, S1, e1, l1, g1⟩ := (sndE V a' x h1 iS g).1
    obtain ⟨u, S2, e2, l2, g2⟩ := (sndE V b' x h2 l1.inv (g.le l1)).1
    obtain ⟨k, h6, h7⟩ := cmpU_of h3 (gam_le l2 _ _ g1) g2
    have fin : ∃ k' S3, Le R S S3 ∧ okB (r.1, q.2 || r.2) k' ∧ runE G O (.chain c d a' b' z') ρ S = some (.ok (.bl k') S3) ∧ runT G O (.chain c d a' b' z') ρ S = some (.ok k' S3) := by
      cases k with
      | true =>
        obtain ⟨t, S3, e3, l3, g3⟩ := (sndE V z' x h4 l2.inv ((g.le l1).le l2)).1
        obtain ⟨k2, h8, h9⟩ := cmpU_of h5 (gam_le l3 _ _ g2) g3
        refine ⟨k2, S3, l1.trans (l2.trans l3), ⟨h9.1, fun z => by simp only [Bool.or_eq_true]; exact .inr (h9.2 z)⟩, ?_, ?_⟩
        · unfold runE; rw [e1, Rs.bind_ok, e2, Rs.bind_ok, h6]; simp only [e3, Rs.bind_ok, h8]; rfl
        · unfold runT; rw [e1, Rs.bind_ok, e2, Rs.bind_ok, h6]; simp only [e3, Rs.bind_ok, h8]; rfl
      | false =>
        refine ⟨false, S2, l1.trans l2, ⟨(fun z => nomatch z), fun _ => by simp only [Bool.or_eq_true]; exact .inl (h7.2 rfl)⟩, ?_, ?_⟩
        · unfold runE; rw [e1, Rs.bind_ok, e2, Rs.bind_ok, h6]; rfl
        · unfold runT; rw [e1, Rs.bind_ok, e2, Rs.bind_ok, h6]; rfl
    obtain ⟨k', S3, l3, o3, r1, r2⟩ := fin
    exact ⟨⟨_, S3, r1, l3, gbl (q := (r.1, q.2 || r.2)) o3⟩, fun _ => ⟨.bl k', k', S3, r2, l3, gbl (q := (r.1, q.2 || r.2)) o3, rfl⟩⟩
  | .ife c a' b', R, e, a, ρ, S, x, h, iS, g => by
    unfold aE at h
    simp only [Option.bind_eq_some_iff] at h
    obtain ⟨v, h1, q, h2, h3⟩ := h
    obtain ⟨w, b, S1, e1, l1, g1, t1⟩ := (sndE V c x h1 iS g).2 (.of h2)
    obtain ⟨b2, hb, hq⟩ := truU_of h2 g1
    rw [t1] at hb
    cases hb
    have key : ∃ a1, (b = true → aE show_ GA aO a' e = some a1) ∧ (b = false → aE show_ GA aO b' e = some a1) ∧ ∀ S w, gam R S a1 w → gam R S a w := by
      split at h3
      · split at h3
        · simp only [Option.bind_eq_some_iff, Option.map_eq_some_iff] at h3
          obtain ⟨y, h4, z, h5, rfl⟩ := h3
          cases b with
          | true => exact ⟨y, fun _ => h4, (fun z => nomatch z), fun S w g => joinA_l g⟩
          | false => exact ⟨z, (fun z => nomatch z), fun _ => h5, fun S w g => joinA_r g⟩
        · rename_i n2
          cases b with
          | true => exact ⟨a, fun _ => h3, (fun z => nomatch z), fun S w g => g⟩
          | false => exact absurd (hq.2 rfl) n2
      · rename_i n1
        cases b with
        | true => exact absurd (hq.1 rfl) n1
        | false => exact ⟨a, (fun z => nomatch z), fun _ => h3, fun S w g => g⟩
    obtain ⟨a1, k1, k2, k3⟩ := key
    refine ⟨?_, fun t => ?_⟩
    · unfold runE
      rw [e1, Rs.bind_ok]
      refine .le l1 (OkE.mono ?_ fun S' w => k3 S' w)
      cases b with
      | true => exact (sndE V a' x (k1 rfl) l1.inv (g.le l1)).1
      | false => exact (sndE V b' x (k2 rfl) l1.inv (g.le l1)).1
    · unfold runT
      rw [e1, Rs.bind_ok]
      have : OkT R S1 a1 (if b = true then runT G O a' ρ S1 else runT G O b' ρ S1) := by
        cases b with
        | true => exact (sndE V a' x (k1 rfl) l1.inv (g.le l1)).2 (t.sub k3)
        | false => exact (sndE V b' x (k2 rfl) l1.inv (g.le l1)).2 (t.sub k3)
      obtain ⟨w', b', S', r1, r2, r3, r4⟩ := this
      exact ⟨w', b', S', r1, l1.trans r2, k3 _ _ r3, r4⟩
  | .tup es, R, e, a, ρ, S, x, h, iS, g => by
    unfold aE at h
    simp only [Option.bind_eq_some_iff] at h
    obtain ⟨as, h1, h2⟩ := h
    split at h2
    · rename_i hz
      cases h2
      have p : OkE R S (.tup as) (runE G O (.tup es) ρ S) := by
        unfold runE
        refine (sndEs V es x h1 iS g).bind fun ws S1 e1 g1 => ?_
        rw [if_pos (by rw [← gams_len g1]; exact hz)]
        refine .pure e1.inv ?_
        unfold gam
        exact ⟨ws, rfl, g1⟩
      exact ⟨p, fun t => OkT.of p t⟩
    · cases h2
  | .lst es, R, e, a, ρ, S, x, h, iS, g => by
    unfold aE at h
    simp only [Option.bind_eq_some_iff] at h
    obtain ⟨as, h1, h2⟩ := h
    split at h2
    · rename_i hz
      cases h2
      have p : OkE R S (.lst as) (runE G O (.lst es) ρ S) := by
        unfold runE
        refine (sndEs V es x h1 iS g).bind fun ws S1 e1 g1 => ?_
        rw [if_pos (by rw [← gams_len g1]; exact hz)]
        exact new_lst e1.inv g1
      exact ⟨p, fun t => OkT.of p t⟩
    · cases h2
  | .dct kvs, R, e, a, ρ, S, x, h, iS, g => by
    unfold aE at h
    simp only [Option.bind_eq_some_iff] at h
    obtain ⟨l, h1, h2⟩ := h
    split at h2
    · rename_i hl
      cases h2
      have p : OkE R S (.dic (l.map (·.1)) (l.map (·.2))) (runE G O (.dct kvs) ρ S) := by
        have nD := not_own_new iS
        have i0 : (R.shut S.length (.dic true [])).inv (S ++ [.dic true []]) := ⟨(Le.new (R := R) iS _).inv, by simp⟩
        have into : ∀ (n : Nat) (o : MO), ¬ R.own n → S[n]? = some o → ¬ (R.shut S.length (.dic true [])).own n ∧ (S ++ [.dic true []])[n]? = some o := fun n o no e => by
          have hl := (List.getElem?_eq_some_iff.mp e).1
          exact ⟨by rintro (z | z); exact no z; omega, by rw [List.getElem?_append_left hl]; exact e⟩
        have g0 : Gen (R.shut S.length (.dic true [])) (S ++ [.dic true []]) e ρ := g.off (R := R) (R' := R.shut S.length (.dic true [])) rfl into
        obtain ⟨ps, S1, e1, l1, hk, gs⟩ := sndK V kvs (x.shut nD) h1 i0 g0
        have hD := l1.inv.2
        have hDl : S.length < S1.length := (List.getElem?_eq_some_iff.mp hD).1
        have hlen : ps.length = l.length := by have := congrArg List.length hk; simpa using this
        have hm : mergeD [] ps = ps := by
          have := merge_nodup (kvs := []) (more := ps) (by rw [List.nil_append, hk]; exact hl.1)
          rw [this, List.nil_append]
        have off : ∀ n, n ≠ S.length → (S1.set S.length (.dic true ps))[n]? = S1[n]? := fun n hn => List.getElem?_set_ne (Ne.symm hn)
        refine ⟨.ref S.length, S1.set S.length (.dic true ps), ?_, ⟨by rw [List.length_set]; omega, fun n hn no => ?_, R.st S1 _ l1.inv.1 fun n o => off n fun z => nD (z ▸ o)⟩, ?_⟩
        · unfold runE
          rw [e1, Rs.bind_ok]
          simp only [hD]
          rw [if_pos (by omega), hm]
          rfl
        · rw [off n (by omega), l1.get n (by simp; omega) (by rintro (z | z); exact no z; omega), List.getElem?_append_left hn]
        · unfold gam
          exact ⟨S.length, ps, rfl, nD, List.getElem?_set_self hDl, hk, gams_off (R := R.shut S.length (.dic true [])) (R' := R) rfl (fun n o no e => ⟨fun z => no (.inl z), by rw [off n fun z => no (.inr z)]; exact e⟩) _ _ gs⟩
      exact ⟨p, fun t => OkT.of p t⟩
    · cases h2
  | .idx c d, R, e, a, ρ, S, x, h, iS, g => by
    unfold aE at h
    simp only [Option.bind_eq_some_iff] at h
    obtain ⟨y, h1, z, h2, h3⟩ := h
    have p : OkE R S a (runE G O (.idx c d) ρ S) := by
      unfold runE
      refine (sndE V c x h1 iS g).1.bind fun w S1 e1 g1 => (sndE V d x h2 e1.inv (g.le e1)).1.bind fun u S2 e2 g2 => ?_
      obtain ⟨r, h4, h5⟩ := idxU_of h3 (gam_le e2 _ _ g1) g2
      rw [h4]
      exact .pure e2.inv h5
    exact ⟨p, fun t => OkT.of p t⟩
  | .slc c lo hi, R, e, a, ρ, S, x, h, iS, g => by
    unfold aE at h
    simp only [Option.bind_eq_some_iff] at h
    obtain ⟨y, h1, l, h2, r, h3, h4⟩ := h
    have p : OkE R S a (runE G O (.slc c lo hi) ρ S) := by
      unfold runE
      refine (sndE V c x h1 iS g).1.bind fun w S1 e1 g1 => ?_
      obtain ⟨o, S2, q1, l2, g2⟩ := sndP V lo x h2 e1.inv (g.le e1)
      obtain ⟨o', S3, q2, l3, g3⟩ := sndP V hi x h3 l2.inv ((g.le e1).le l2)
      rw [q1, Rs.bind_ok, q2, Rs.bind_ok]
      refine .le (l2.trans l3) (slU_of h4 l3.inv (gam_le l3 _ _ (gam_le l2 _ _ g1)) ?_ g3)
      cases l with
      | none => exact g2
      | some b =>
        obtain ⟨i, e, q⟩ := g2
        exact ⟨i, e, gam_le l3 _ _ q⟩
    exact ⟨p, fun t => OkT.of p t⟩
  | .call f es ks perm, R, e, a, ρ, S, x, h, iS, g => by
    unfold aE at h
    simp only [Option.bind_eq_some_iff] at h
    obtain ⟨as, h1, bs, h2, h3⟩ := h
    have p : OkE R S a (runE G O (.call f es ks perm) ρ S) := by
      unfold runE
      refine (sndEs V es x h1 iS g).bind fun ws S1 e1 g1 => (sndEs V ks x h2 e1.inv (g.le e1)).bind fun us S2 e2 g2 => ?_
      exact V.fn R x f _ a h3 _ S2 e2.inv (gams_app (gams_le e2 _ _ g1) (filterMap_gams g2 perm))
    exact ⟨p, fun t => OkT.of p t⟩
  | .blt f es, R, e, a, ρ, S, x, h, iS, g => by
    unfold aE at h
    simp only [Option.bind_eq_some_iff] at h
    obtain ⟨as, h1, h2⟩ := h
    have p : OkE R S a (runE G O (.blt f es) ρ S) := by
      unfold runE
      exact (sndEs V es x h1 iS g).bind fun ws S1 e1 g1 => bltA_of (V.sh R) h2 e1.inv g1
    exact ⟨p, fun t => OkT.of p t⟩
  | .isi t' c, R, e, a, ρ, S, x, h, iS, g => by
    unfold aE at h
    simp only [Option.bind_eq_some_iff, Option.map_eq_some_iff] at h
    obtain ⟨y, h1, q, h2, rfl⟩ := h
    have p : OkE R S (.bl q.1 q.2) (runE G O (.isi t' c) ρ S) := by
      unfold runE
      refine (sndE V c x h1 iS g).1.bind fun w S1 e1 g1 => ?_
      obtain ⟨b, h3, h4⟩ := isiU_of h2 g1
      exact lift_pure e1.inv h3 (gbl h4)
    exact ⟨p, fun t => OkT.of p t⟩
  | .mth _ _ _, R, e, a, ρ, S, x, h, iS, g => by unfold aE at h; cases h
  | .comp y tg it c own, R, e, a, ρ, S, x, h, iS, g => by
    unfold aE at h
    simp only [Option.bind_eq_some_iff] at h
    obtain ⟨q, h1, h2⟩ := h
    split at h2
    · rename_i hz
      simp only [Option.map_eq_some_iff] at h2
      obtain ⟨l, h3, rfl⟩ := h2
      have p : OkE R S (.lsts (joinAll (l.filterMap id)) (if noneC c = true then q.2.1 else 0) q.2.2) (runE G O (.comp y tg it c own) ρ S) := by
        obtain ⟨j, S1, e1, l1, hj⟩ := sndI V it x h1 iS g
        unfold runE
        rw [e1, Rs.bind_ok]
        refine .le l1 (comp_ok l1.inv hj hz ?_ ((g.le l1).wipe own))
        intro acc S2 w i2 gw ge
        obtain ⟨b, hb, gb⟩ := alts_of gw
        obtain ⟨r, h4, h5⟩ := allO_of h3 (List.mem_map.mpr ⟨b, hb, rfl⟩)
        simp only [Option.bind_eq_some_iff] at h4
        obtain ⟨e2, h6, q2, h7, h8⟩ := h4
        obtain ⟨ρ1, h9, g1⟩ := putA_of tg h6 gb ge
        have x2 : Ext0 R0 (R.shut S1.length (.lst true acc)) := x.shut (not_own_new l1.inv)
        obtain ⟨k, S3, h10, l3, h11⟩ := sndC V c x2 h7 i2 g1
        refine ⟨ρ1, h9, k, S3, by show noX (runOT G O c ρ1 S2) = _; rw [h10]; rfl, l3, fun hm => ?_, fun hk => ?_⟩
        · cases c with
          | none => unfold runOT at h10; cases h10; rfl
          | some _ => cases hm
        · rw [if_pos (h11.1 hk)] at h8
          simp only [Option.map_eq_some_iff] at h8
          obtain ⟨el, h12, rfl⟩ := h8
          obtain ⟨u, S4, h13, l4, g4⟩ := (sndE V y x2 h12 l3.inv (g1.le l3)).1
          exact ⟨u, S4, by show noX (runE G O y ρ1 S3) = _; rw [h13]; rfl, l4, joinAll_of (List.mem_filterMap.mpr ⟨_, h5, rfl⟩) g4⟩
      exact ⟨p, fun t => OkT.of p t⟩
    · cases h2
theorem sndB (V : Env R0 G O show_ GA aO) (k : Bool) : ∀ (cs : CEs) {R : Rsc} {e : AEnv} {a : Ab} {ρ : En} {S : Sto}, Ext0 R0 R → aB show_ GA aO k cs e = some a → R.inv S → Gen R S e ρ → OkE R S a (runB G O k cs ρ S) ∧ (TruOk R a → OkT R S a (runBT G O k cs ρ S))
  | .nil, R, e, a, ρ, S, x, h, iS, g => by unfold aB at h; cases h
  | .cons c cs, R, e, a, ρ, S, x, h, iS, g => by
    unfold aB at h
    simp only [Option.bind_eq_some_iff] at h
    obtain ⟨v, h1, h2⟩ := h
    have ih := sndE V c x h1 iS g
    cases cs with
    | nil =>
      cases h2
      refine ⟨?_, fun t => ?_⟩
      · unfold runB; exact ih.1
      · unfold runBT; exact ih.2 t
    | cons d ds =>
      simp only [Option.bind_eq_some_iff, Option.map_eq_some_iff] at h2
      obtain ⟨q, h3, y, h4, rfl⟩ := h2
      -- which of the two is within
      have first_ : ∀ S w b, truW S w = some b → okB q b → b ≠ k → gam R S v w → gam R S (mixB k q (restU k v) y) w := fun S w b ht hb hk gw => mix_l hb hk (restU_of ht hk gw)
      have second : ∀ b, okB q b → b = k → ∀ S w, gam R S y w → gam R S (mixB k q (restU k v) y) w := fun b hb hk S w gw => mix_r hb hk gw
      refine ⟨?_, fun t => ?_⟩
      · unfold runB
        refine ih.1.bind fun w S1 e1 g1 => ?_
        obtain ⟨b, hb, hq⟩ := truU_of h3 g1
        rw [hb]
        by_cases hk : b = k
        · simp only [hk, if_true]
          exact OkE.mono (sndB V k (.cons d ds) x h4 e1.inv (g.le e1)).1 fun S' w => second b hq hk S' w
        · simp only [if_neg hk]
          exact .pure e1.inv (first_ S1 w b hb hq hk g1)
      · unfold runBT
        obtain ⟨w, b, S1, e1, l1, g1, t1⟩ := ih.2 (.of h3)
        obtain ⟨b', hb, hq⟩ := truU_of h3 g1
        rw [t1] at hb
        cases hb
        rw [e1, Rs.bind_ok]
        by_cases hk : b = k
        · rw [if_pos hk]
          obtain ⟨w', b', S', r1, r2, r3, r4⟩ := (sndB V k (.cons d ds) x h4 l1.inv (g.le l1)).2 (t.sub (second b hq hk))
          exact ⟨w', b', S', r1, l1.trans r2, second b hq hk _ _ r3, r4⟩
        · rw [if_neg hk]
          exact ⟨w, b, S1, rfl, l1, first_ S1 w b t1 hq hk g1, t1⟩
theorem sndEs (V : Env R0 G O show_ GA aO) : ∀ (cs : CEs) {R : Rsc} {e : AEnv} {as : List Ab} {ρ : En} {S : Sto}, Ext0 R0 R → aEs show_ GA aO cs e = some as → R.inv S → Gen R S e ρ → OkEs R S as (runEs G O cs ρ S)
  | .nil, R, e, as, ρ, S, x, h, iS, g => by
    unfold aEs at h
    cases h
    exact ⟨[], S, by rw [runEs_nil], .refl iS, by unfold gams; trivial⟩
  | .cons c cs, R, e, as, ρ, S, x, h, iS, g => by
    unfold aEs at h
    simp only [Option.bind_eq_some_iff, Option.map_eq_some_iff] at h
    obtain ⟨v, h1, vs, h2, rfl⟩ := h
    obtain ⟨w, S1, e1, l1, g1⟩ := (sndE V c x h1 iS g).1
    obtain ⟨ws, S2, e2, l2, g2⟩ := sndEs V cs x h2 l1.inv (g.le l1)
    refine ⟨w :: ws, S2, by unfold runEs; rw [e1, Rs.bind_ok, e2]; rfl, l1.trans l2, ?_⟩
    unfold gams
    exact ⟨gam_le l2 _ _ g1, g2⟩
theorem sndK (V : Env R0 G O show_ GA aO) : ∀ (c : CKs) {R : Rsc} {e : AEnv} {l : List (Key × Ab)} {ρ : En} {S : Sto}, Ext0 R0 R → aK show_ GA aO c e = some l → R.inv S → Gen R S e ρ → ∃ ps S', runKs G O c ρ S = some (.ok ps S') ∧ Le R S S' ∧ ps.map (·.1) = l.map (·.1) ∧ gams R S' (l.map (·.2)) (ps.map (·.2))
  | .nil, R, e, l, ρ, S, x, h, iS, g => by
    unfold aK at h
    cases h
    exact ⟨[], S, by unfold runKs; rfl, .refl iS, rfl, by unfold List.map gams; trivial⟩
  | .cons k v r, R, e, l, ρ, S, x, h, iS, g => by
    cases k <;> first | (unfold aK at h; cases h; done) | skip
    rename_i w
    unfold aK at h
    simp only [Option.bind_eq_some_iff, Option.map_eq_some_iff] at h
    obtain ⟨kk, h1, a, h2, l', h3, rfl⟩ := h
    obtain ⟨y, S1, e1, l1, g1⟩ := (sndE V v x h2 iS g).1
    obtain ⟨ps, S2, e2, l2, hk, gs⟩ := sndK V r x h3 l1.inv (g.le l1)
    refine ⟨(kk, y) :: ps, S2, ?_, l1.trans l2, by rw [List.map_cons, List.map_cons, hk], ?_⟩
    · unfold runKs
      have e0 : runE G O (.cst w) ρ S = some (.ok w S) := by unfold runE; rfl
      rw [e0, Rs.bind_ok, e1, Rs.bind_ok, e2, Rs.bind_ok, h1]
      rfl
    · rw [List.map_cons, List.map_cons]
      unfold gams
      exact ⟨gam_le l2 _ _ g1, gs⟩
theorem sndP (V : Env R0 G O show_ GA aO) : ∀ (c : CO) {R : Rsc} {e : AEnv} {l : Option Ab} {ρ : En} {S : Sto}, Ext0 R0 R → aP show_ GA aO c e = some l → R.inv S → Gen R S e ρ → ∃ o S', runO G O c ρ S = some (.ok o S') ∧ Le R S S' ∧ gamO R S' l o
  | .none, R, e, l, ρ, S, x, h, iS, g => by
    unfold aP at h
    cases h
    exact ⟨none, S, by unfold runO; rfl, .refl iS, rfl⟩
  | .some c, R, e, l, ρ, S, x, h, iS, g => by
    unfold aP at h
    simp only [Option.bind_eq_some_iff, Option.map_eq_some_iff] at h
    obtain ⟨v, h1, q, h2, rfl⟩ := h
    obtain ⟨w, S1, e1, l1, g1⟩ := (sndE V c x h1 iS g).1
    obtain ⟨i, rfl, _⟩ := intU_of h2 g1
    exact ⟨some i, S1, by unfold runO; rw [e1]; rfl, l1, i, rfl, g1⟩
theorem sndC (V : Env R0 G O show_ GA aO) : ∀ (c : CO) {R : Rsc} {e : AEnv} {q : TB} {ρ : En} {S : Sto}, Ext0 R0 R → aC show_ GA aO c e = some q → R.inv S → Gen R S e ρ → ∃ b S', runOT G O c ρ S = some (.ok b S') ∧ Le R S S' ∧ okB q b
  | .none, R, e, q, ρ, S, x, h, iS, g => by
    unfold aC at h
    cases h
    exact ⟨true, S, by unfold runOT; rfl, .refl iS, fun _ => rfl, fun z => nomatch z⟩
  | .some c, R, e, q, ρ, S, x, h, iS, g => by
    unfold aC at h
    simp only [Option.bind_eq_some_iff] at h
    obtain ⟨v, h1, h2⟩ := h
    obtain ⟨w, b, S1, e1, l1, g1, t1⟩ := (sndE V c x h1 iS g).2 (.of h2)
    obtain ⟨b', hb, hq⟩ := truU_of h2 g1
    rw [t1] at hb
    cases hb
    exact ⟨b, S1, by unfold runOT; exact e1, l1, hq⟩
theorem sndI (V : Env R0 G O show_ GA aO) : ∀ (c : CI) {R : Rsc} {e : AEnv} {q : Ab × Nat × Nat} {ρ : En} {S : Sto}, Ext0 R0 R → aI show_ GA aO c e = some q → R.inv S → Gen R S e ρ → ∃ j S', runI G O c ρ S = some (.ok j S') ∧ Le R S S' ∧ ItOk R S' q j
  | .seq c, R, e, q, ρ, S, x, h, iS, g => by
    unfold aI at h
    simp only [Option.bind_eq_some_iff] at h
    obtain ⟨v, h1, h2⟩ := h
    obtain ⟨w, S1, e1, l1, g1⟩ := (sndE V c x h1 iS g).1
    obtain ⟨j, h3, h4⟩ := seq_of h2 g1
    exact ⟨j, S1, by unfold runI; rw [e1, Rs.bind_ok]; exact h3, l1, h4⟩
  | .rng1 c, R, e, q, ρ, S, x, h, iS, g => by
    unfold aI at h
    simp only [Option.bind_eq_some_iff] at h
    obtain ⟨v, h1, p, h2, h3⟩ := h
    split at h3
    · rename_i hz
      cases h3
      obtain ⟨w, S1, e1, l1, g1⟩ := (sndE V c x h1 iS g).1
      obtain ⟨i, rfl, h4, h5⟩ := intU_of h2 g1
      have r := range_of (R := R) (S := S1) (i := 0) (l := 0) (h := 0) (Int.le_refl _) (Int.le_refl _) h4 h5
      simp only [Int.sub_zero] at r
      exact ⟨_, S1, by unfold runI; rw [e1, Rs.bind_ok]; simp only; rw [if_pos ⟨by omega, by omega⟩]; rfl, l1, r⟩
    · cases h3
  | .rng2 c d, R, e, q, ρ, S, x, h, iS, g => by
    unfold aI at h
    simp only [Option.bind_eq_some_iff] at h
    obtain ⟨v, h1, p, h2, u, h3, r, h4, h5⟩ := h
    split at h5
    · rename_i hz
      cases h5
      obtain ⟨w, S1, e1, l1, g1⟩ := (sndE V c x h1 iS g).1
      obtain ⟨i, rfl, h6, h7⟩ := intU_of h2 g1
      obtain ⟨w', S2, e2, l2, g2⟩ := (sndE V d x h3 l1.inv (g.le l1)).1
      obtain ⟨j, rfl, h8, h9⟩ := intU_of h4 g2
      exact ⟨_, S2, by unfold runI; rw [e1, Rs.bind_ok, e2, Rs.bind_ok]; simp only; rw [if_pos ⟨⟨by omega, by omega⟩, by omega, by omega⟩]; rfl, l1.trans l2, range_of h6 h7 h8 h9⟩
    · cases h5
  | .zip c d, R, e, q, ρ, S, x, h, iS, g => by
    unfold aI at h
    simp only [Option.bind_eq_some_iff, Option.map_eq_some_iff] at h
    obtain ⟨v, h1, u, h2, p, h3, r, h4, rfl⟩ := h
    obtain ⟨w, S1, e1, l1, g1⟩ := (sndE V c x h1 iS g).1
    obtain ⟨w', S2, e2, l2, g2⟩ := (sndE V d x h2 l1.inv (g.le l1)).1
    obtain ⟨j, h5, h6⟩ := zip_of h3 h4 (gam_le l2 _ _ g1) g2
    exact ⟨j, S2, by unfold runI; rw [e1, Rs.bind_ok, e2, Rs.bind_ok]; exact h5, l1.trans l2, h6⟩
  | .enm c, R, e, q, ρ, S, x, h, iS, g => by
    unfold aI at h
    simp only [Option.bind_eq_some_iff, Option.map_eq_some_iff] at h
    obtain ⟨v, h1, p, h2, rfl⟩ := h
    obtain ⟨w, S1, e1, l1, g1⟩ := (sndE V c x h1 iS g).1
    obtain ⟨j, h3, h4⟩ := enm_of h2 g1
    exact ⟨j, S1, by unfold runI; rw [e1, Rs.bind_ok]; exact h3, l1, h4⟩
end
end
end Co
namespace Co
open PySem L2

/-! ### statements -/
def joinE (e e' : AEnv) : Option AEnv := if e.length = e'.length then some (e.zipWith (fun x y => match x, y with
  | some a, some b => some (joinA a b)
  | _, _ => none) e') else none
theorem joinE_get {e e' f : AEnv} (h : joinE e e' = some f) : e.length = e'.length ∧ f.length = e.length ∧ ∀ (i : Nat) (c : Ab), f[i]? = some (some c) → ∃ a b, e[i]? = some (some a) ∧ e'[i]? = some (some b) ∧ c = joinA a b := by
  unfold joinE at h
  split at h
  · rename_i hl
    cases h
    refine ⟨hl, by rw [List.length_zipWith, ← hl, Nat.min_self], fun i c q => ?_⟩
    rw [List.getElem?_zipWith] at q
    cases h1 : e[i]? with
    | none => rw [h1] at q; simp at q
    | some a =>
      cases h2 : e'[i]? with
      | none => rw [h1, h2] at q; simp at q
      | some b =>
        rw [h1, h2] at q
        cases a <;> cases b <;> simp at q
        exact ⟨_, _, rfl, rfl, q.symm⟩
  · cases h
section
variable {R : Rsc} {S : Sto}
theorem Gen.joinL {e e' f : AEnv} {ρ : En} (h : joinE e e' = some f) (g : Gen R S e ρ) : Gen R S f ρ := by
  obtain ⟨h1, h2, h3⟩ := joinE_get h
  refine ⟨h2.trans g.len, fun i c q => ?_⟩
  obtain ⟨a, b, q1, q2, rfl⟩ := h3 i c q
  obtain ⟨w, z1, z2⟩ := g.at_ i a q1
  exact ⟨w, z1, joinA_l z2⟩
theorem Gen.joinR {e e' f : AEnv} {ρ : En} (h : joinE e e' = some f) (g : Gen R S e' ρ) : Gen R S f ρ := by
  obtain ⟨h1, h2, h3⟩ := joinE_get h
  refine ⟨h2.trans (h1.trans g.len), fun i c q => ?_⟩
  obtain ⟨a, b, q1, q2, rfl⟩ := h3 i c q
  obtain ⟨w, z1, z2⟩ := g.at_ i b q2
  exact ⟨w, z1, joinA_r z2⟩
end
def joinEs : List AEnv → Option AEnv
  | [] => none
  | [e] => some e
  | e :: r => (joinEs r).bind fun f => joinE e f
theorem Gen.joinAll {R : Rsc} {S : Sto} {ρ : En} : ∀ {l : List AEnv} {e f : AEnv}, joinEs l = some f → e ∈ l → Gen R S e ρ → Gen R S f ρ
  | [a], e, f, h, he, g => by
    cases h
    rw [← List.mem_singleton.mp he]
    exact g
  | a :: b :: l, e, f, h, he, g => by
    unfold joinEs at h
    simp only [Option.bind_eq_some_iff] at h
    obtain ⟨f1, h1, h2⟩ := h
    rcases List.mem_cons.mp he with rfl | he
    · exact g.joinL h2
    · exact (Gen.joinAll h1 he g).joinR h2
structure Out where
  nx : Option AEnv := none
  bk : Option AEnv := none
  ct : Option AEnv := none
  rt : List Ab := []
def mergeO : Option AEnv → Option AEnv → Option (Option AEnv)
  | none, b => some b
  | some a, none => some (some a)
  | some a, some b => (joinE a b).map some
def Out.merge (a b : Out) : Option Out := (mergeO a.nx b.nx).bind fun n => (mergeO a.bk b.bk).bind fun k => (mergeO a.ct b.ct).map fun c => ⟨n, k, c, a.rt ++ b.rt⟩
def Out.mergeAll : List Out → Option Out
  | [] => some {}
  | a :: r => (Out.mergeAll r).bind fun b => a.merge b
def leE (e f : AEnv) : Bool := e.length == f.length && (e.zip f).all fun p => match p with
  | (some a, some b) => leA deep a b
  | (none, some _) => false
  | (_, none) => true
def isIntA : Ab → Bool
  | .int _ _ => true
  | _ => false
def nnA : Ab → Bool
  | .int l _ => geO 0 l
  | _ => true
/-- wider: the numbers without an upper end -/
def widA (a : Ab) : Ab := if (alts a).any isIntA then .or ((alts a).filter (fun x => !isIntA x) ++ [.int (if (alts a).all nnA then some 0 else none) none]) else a
theorem widA_of {R : Rsc} {S : Sto} {a : Ab} {w : W} (g : gam R S a w) : gam R S (widA a) w := by
  unfold widA
  split
  · obtain ⟨b, hb, gb⟩ := alts_of g
    unfold gam
    refine gamU_iff.mpr ?_
    by_cases hi : isIntA b = true
    · refine ⟨_, List.mem_append_right _ (List.mem_singleton_self _), ?_⟩
      cases b <;> first | (cases hi; done) | skip
      unfold gam at gb ⊢
      obtain ⟨i, rfl, h1, h2⟩ := gb
      refine ⟨i, rfl, ?_, trivial⟩
      split
      · rename_i hn
        exact geO_of (List.all_eq_true.mp hn _ hb) h1
      · trivial
    · exact ⟨b, List.mem_append_left _ (List.mem_filter.mpr ⟨hb, by simp [hi]⟩), gb⟩
  · exact g
def widE (old new : AEnv) : AEnv := (new.zip old).map fun p => match p with
  | (some a, some b) => if leA deep a b then some b else some (widA a)
  | (some a, none) => some (widA a)
  | (none, _) => none
def cmpV (k : Nat) : CE → Bool
  | .cmp _ (.var i) _ => i == k
  | _ => false
def tests (k : Nat) : CSs → Nat
  | .nil => 0
  | .cons s r => (match s with
    | .ife c _ _ => if cmpV k c = true then 1 else 0
    | _ => 0) + tests k r
def narrow : Option (Option Ab) → Bool
  | some (some (.int (some l) (some h))) => decide (l < h) && decide (h - l ≤ 11)
  | _ => false
/-- a name whose few numbers are looked at one by one -/
def pickK (s : CS) (r : CSs) (e : AEnv) : Option Nat := match s with
  | .asg t _ => (tgSlots t).find? fun k => narrow e[k]? && decide (2 ≤ tests k r)
  | _ => none
def spl (s : CS) (r : CSs) (e : AEnv) : List AEnv := match pickK s r e with
  | some k => (match e[k]? with
    | some (some (.int (some l) (some h))) => (List.range (h - l + 1).toNat).map fun (i : Nat) => e.set k (some (.int (some (l + (i : Int))) (some (l + (i : Int)))))
    | _ => [e])
  | none => [e]
theorem spl_of {R : Rsc} {S : Sto} {s : CS} {r : CSs} {e : AEnv} {ρ : En} (g : Gen R S e ρ) : ∃ f ∈ spl s r e, Gen R S f ρ := by
  unfold spl
  split
  · rename_i k _
    split
    · rename_i l h he
      obtain ⟨w, h1, h2⟩ := g.at_ _ _ he
      unfold gam at h2
      obtain ⟨i, rfl, q1, q2⟩ := h2
      have q1' : l ≤ i := q1
      have q2' : i ≤ h := q2
      have ei : l + (((i - l).toNat : Nat) : Int) = i := by omega
      refine ⟨_, List.mem_map.mpr ⟨(i - l).toNat, List.mem_range.mpr (by omega), rfl⟩, ?_⟩
      rw [ei]
      have hk : k < e.length := (List.getElem?_eq_some_iff.mp he).1
      refine ⟨by rw [List.length_set]; exact g.len, fun j a q => ?_⟩
      by_cases hj : j = k
      · subst hj
        rw [List.getElem?_set_self hk] at q
        cases q
        refine ⟨_, h1, ?_⟩
        unfold gam
        exact ⟨i, rfl, Int.le_refl _, Int.le_refl _⟩
      · rw [List.getElem?_set_ne (Ne.symm hj)] at q
        exact g.at_ j a q
    · exact ⟨e, List.mem_singleton_self _, g⟩
  · exact ⟨e, List.mem_singleton_self _, g⟩
section
variable (show_ : Ab → Option Nat) (GA : List Ab) (aO : Nat → List Ab → Option Ab)
def putU (t : Tg) (a : Ab) (e : AEnv) : Option AEnv := match putA t a e with
  | some e' => some e'
  | none => (allO ((alts a).map fun x => putA t x e)).bind joinEs
/-- a loop: names that hold at every turn's start, and a turn's end from there -/
def aLoop (body : AEnv → Option Out) : Nat → AEnv → Option (AEnv × Out)
  | 0, _ => none
  | n + 1, e => (body e).bind fun o => (mergeO (some e) o.nx).bind fun x => (mergeO x o.ct).bind fun y => match y with
    | none => none
    | some f => if leE f e = true then some (e, o) else aLoop body n (if n ≤ 5 then widE e f else f)
mutual
def aS : CS → AEnv → Option Out
  | .asg t x, e => (aE show_ GA aO x e).bind fun a => (putU t a e).map fun e1 => { nx := some e1 }
  | .setIx _ _ _, _ => none
  | .expr x, e => (aE show_ GA aO x e).map fun _ => { nx := some e }
  | .doc, e => some { nx := some e }
  | .ret x, e => (aE show_ GA aO x e).map fun a => { rt := [a] }
  | .retN, _ => some { rt := [.non] }
  | .ife c a b, e => (aE show_ GA aO c e).bind fun v => (truU v).bind fun q => (if q.1 = true then aSs a e else some {}).bind fun o1 => (if q.2 = true then aSs b e else some {}).bind fun o2 => o1.merge o2
  | .whil _ _, _ => none
  | .for_ t it a, e => (aI show_ GA aO it e).bind fun q => (aLoop (fun f => (allO ((alts q.1).map fun x => (putA t x f).bind fun f1 => aSs a f1)).bind Out.mergeAll) 8 e).bind fun p => (mergeO (some p.1) p.2.bk).map fun n => { nx := n, rt := p.2.rt }
  | .pass, e => some { nx := some e }
  | .brk, e => some { bk := some e }
  | .cont, e => some { ct := some e }
  | .stuck, _ => none
def aSs : CSs → AEnv → Option Out
  | .nil, e => some { nx := some e }
  | .cons s r, e => (aS s e).bind fun o => match o.nx with
    | none => some o
    | some e1 => ((allO ((spl s r e1).map fun f => aSs r f)).bind Out.mergeAll).bind fun o2 => Out.merge { o with nx := none } o2
end
end
def OutOk (R : Rsc) (S : Sto) (o : Out) (r : Option RT) : Prop :=
  match r with
  | some (.next ρ S') => Le R S S' ∧ ∃ e, o.nx = some e ∧ Gen R S' e ρ
  | some (.brk ρ S') => Le R S S' ∧ ∃ e, o.bk = some e ∧ Gen R S' e ρ
  | some (.cont ρ S') => Le R S S' ∧ ∃ e, o.ct = some e ∧ Gen R S' e ρ
  | some (.ret w S') => Le R S S' ∧ ∃ a ∈ o.rt, gam R S' a w
  | _ => False
/-- o tells no more than o' -/
structure Sub (R : Rsc) (o o' : Out) : Prop where
  nx : ∀ e, o.nx = some e → ∃ f, o'.nx = some f ∧ ∀ S ρ, Gen R S e ρ → Gen R S f ρ
  bk : ∀ e, o.bk = some e → ∃ f, o'.bk = some f ∧ ∀ S ρ, Gen R S e ρ → Gen R S f ρ
  ct : ∀ e, o.ct = some e → ∃ f, o'.ct = some f ∧ ∀ S ρ, Gen R S e ρ → Gen R S f ρ
  rt : ∀ a ∈ o.rt, a ∈ o'.rt
section
variable {R : Rsc} {S : Sto}
theorem OutOk.sub {o o' : Out} {r : Option RT} (h : OutOk R S o r) (s : Sub R o o') : OutOk R S o' r := by
  cases r with
  | none => exact h
  | some t => cases t with
    | next ρ S' => obtain ⟨l, e, h1, h2⟩ := h; obtain ⟨f, h3, h4⟩ := s.nx e h1; exact ⟨l, f, h3, h4 _ _ h2⟩
    | brk ρ S' => obtain ⟨l, e, h1, h2⟩ := h; obtain ⟨f, h3, h4⟩ := s.bk e h1; exact ⟨l, f, h3, h4 _ _ h2⟩
    | cont ρ S' => obtain ⟨l, e, h1, h2⟩ := h; obtain ⟨f, h3, h4⟩ := s.ct e h1; exact ⟨l, f, h3, h4 _ _ h2⟩
    | ret w S' => obtain ⟨l, a, h1, h2⟩ := h; exact ⟨l, a, s.rt a h1, h2⟩
    | ex _ _ _ _ => exact h
theorem OutOk.le {S' : Sto} {o : Out} {r : Option RT} (e : Le R S S') (h : OutOk R S' o r) : OutOk R S o r := by
  cases r with
  | none => exact h
  | some t => cases t with
    | next ρ S' => exact ⟨e.trans h.1, h.2⟩
    | brk ρ S' => exact ⟨e.trans h.1, h.2⟩
    | cont ρ S' => exact ⟨e.trans h.1, h.2⟩
    | ret w S' => exact ⟨e.trans h.1, h.2⟩
    | ex _ _ _ _ => exact h
theorem mergeO_l {a b c : Option AEnv} (h : mergeO a b = some c) : ∀ e, a = some e → ∃ f, c = some f ∧ ∀ S ρ, Gen R S e ρ → Gen R S f ρ := by
  intro e he
  subst he
  cases b with
  | none => cases h; exact ⟨e, rfl, fun _ _ g => g⟩
  | some b =>
    simp only [mergeO, Option.map_eq_some_iff] at h
    obtain ⟨f, h1, rfl⟩ := h
    exact ⟨f, rfl, fun S ρ g => g.joinL h1⟩
theorem mergeO_r {a b c : Option AEnv} (h : mergeO a b = some c) : ∀ e, b = some e → ∃ f, c = some f ∧ ∀ S ρ, Gen R S e ρ → Gen R S f ρ := by
  intro e he
  subst he
  cases a with
  | none => cases h; exact ⟨e, rfl, fun _ _ g => g⟩
  | some b =>
    simp only [mergeO, Option.map_eq_some_iff] at h
    obtain ⟨f, h1, rfl⟩ := h
    exact ⟨f, rfl, fun S ρ g => g.joinR h1⟩
theorem merge_l {a b c : Out} (h : a.merge b = some c) : Sub R a c := by
  unfold Out.merge at h
  simp only [Option.bind_eq_some_iff, Option.map_eq_some_iff] at h
  obtain ⟨n, h1, k, h2, t, h3, rfl⟩ := h
  exact ⟨mergeO_l h1, mergeO_l h2, mergeO_l h3, fun a ha => List.mem_append_left _ ha⟩
theorem merge_r {a b c : Out} (h : a.merge b = some c) : Sub R b c := by
  unfold Out.merge at h
  simp only [Option.bind_eq_some_iff, Option.map_eq_some_iff] at h
  obtain ⟨n, h1, k, h2, t, h3, rfl⟩ := h
  exact ⟨mergeO_r h1, mergeO_r h2, mergeO_r h3, fun a ha => List.mem_append_right _ ha⟩
theorem Sub.trans {a b c : Out} (h : Sub R a b) (k : Sub R b c) : Sub R a c :=
  ⟨fun e q => let ⟨f, h1, h2⟩ := h.nx e q; let ⟨g, h3, h4⟩ := k.nx f h1; ⟨g, h3, fun S ρ z => h4 _ _ (h2 _ _ z)⟩,
   fun e q => let ⟨f, h1, h2⟩ := h.bk e q; let ⟨g, h3, h4⟩ := k.bk f h1; ⟨g, h3, fun S ρ z => h4 _ _ (h2 _ _ z)⟩,
   fun e q => let ⟨f, h1, h2⟩ := h.ct e q; let ⟨g, h3, h4⟩ := k.ct f h1; ⟨g, h3, fun S ρ z => h4 _ _ (h2 _ _ z)⟩, fun a ha => k.rt a (h.rt a ha)⟩
theorem mergeAll_of : ∀ {l : List Out} {o c : Out}, Out.mergeAll l = some c → o ∈ l → Sub R o c
  | [], _, _, _, h => by cases h
  | a :: l, o, c, h, ho => by
    unfold Out.mergeAll at h
    simp only [Option.bind_eq_some_iff] at h
    obtain ⟨b, h1, h2⟩ := h
    rcases List.mem_cons.mp ho with rfl | ho
    · exact merge_l h2
    · exact (mergeAll_of h1 ho).trans (merge_r h2)
theorem leE_of {e f : AEnv} {ρ : En} (h : leE e f = true) (g : Gen R S e ρ) : Gen R S f ρ := by
  unfold leE at h
  simp only [Bool.and_eq_true, beq_iff_eq] at h
  refine ⟨h.1.symm.trans g.len, fun i b q => ?_⟩
  have hi : i < e.length := by rw [h.1]; exact (List.getElem?_eq_some_iff.mp q).1
  have hm : (e[i], some b) ∈ e.zip f := by
    refine List.mem_of_getElem? (i := i) ?_
    rw [List.getElem?_zip_eq_some]
    exact ⟨by simp [hi], q⟩
  have hq := List.all_eq_true.mp h.2 _ hm
  cases he : e[i] with
  | none => rw [he] at hq; cases hq
  | some a =>
    rw [he] at hq
    obtain ⟨w, h1, h2⟩ := g.at_ i a (by rw [← he]; simp [hi])
    exact ⟨w, h1, leA_of _ _ _ w hq h2⟩
theorem widE_of {e f : AEnv} {ρ : En} (hl : e.length = f.length) (g : Gen R S f ρ) : Gen R S (widE e f) ρ := by
  refine ⟨by unfold widE; simp [hl, g.len], fun i c q => ?_⟩
  unfold widE at q
  rw [List.getElem?_map] at q
  cases hz : (f.zip e)[i]? with
  | none => rw [hz] at q; simp at q
  | some p =>
    rw [hz] at q
    obtain ⟨x, y⟩ := p
    rw [List.getElem?_zip_eq_some] at hz
    cases x with
    | none => simp at q
    | some a =>
      obtain ⟨w, h1, h2⟩ := g.at_ i a hz.1
      cases y with
      | none =>
        simp at q
        subst q
        exact ⟨w, h1, widA_of h2⟩
      | some b =>
        simp only [Option.map_some, Option.some.injEq] at q
        split at q
        · rename_i hle
          cases q
          exact ⟨w, h1, leA_of _ _ _ w hle h2⟩
        · cases q
          exact ⟨w, h1, widA_of h2⟩
theorem putU_of {t : Tg} {a : Ab} {e e1 : AEnv} {w : W} {ρ : En} (h : putU t a e = some e1) (g : gam R S a w) (ge : Gen R S e ρ) : ∃ ρ1, putT t w ρ = some ρ1 ∧ Gen R S e1 ρ1 := by
  unfold putU at h
  split at h
  · rename_i e' he
    cases h
    exact putA_of t he g ge
  · simp only [Option.bind_eq_some_iff] at h
    obtain ⟨l, h1, h2⟩ := h
    obtain ⟨b, hb, gb⟩ := alts_of g
    obtain ⟨e2, h3, h4⟩ := allO_of h1 (List.mem_map.mpr ⟨b, hb, rfl⟩)
    obtain ⟨ρ1, h5, h6⟩ := putA_of t h3 gb ge
    exact ⟨ρ1, h5, Gen.joinAll h2 h4 h6⟩
theorem aLoop_of {body : AEnv → Option Out} : ∀ (n : Nat) {e f : AEnv} {o : Out}, aLoop body n e = some (f, o) → body f = some o ∧ (∀ S ρ, Gen R S e ρ → Gen R S f ρ) ∧ (∀ x, o.nx = some x → ∀ S ρ, Gen R S x ρ → Gen R S f ρ) ∧ (∀ x, o.ct = some x → ∀ S ρ, Gen R S x ρ → Gen R S f ρ)
  | 0, e, f, o, h => by cases h
  | n + 1, e, f, o, h => by
    unfold aLoop at h
    simp only [Option.bind_eq_some_iff] at h
    obtain ⟨o', h1, x, h2, y, h3, h4⟩ := h
    obtain ⟨x1, rfl, k1⟩ := mergeO_l (R := R) h2 e rfl
    obtain ⟨y1, rfl, k2⟩ := mergeO_l (R := R) h3 x1 rfl
    simp only at h4
    split at h4
    · rename_i hle
      cases h4
      refine ⟨h1, fun _ _ g => g, fun z hz S ρ g => ?_, fun z hz S ρ g => ?_⟩
      · obtain ⟨x2, q1, q2⟩ := mergeO_r (R := R) h2 z hz
        cases q1
        exact leE_of hle (k2 _ _ (q2 _ _ g))
      · obtain ⟨x2, q1, q2⟩ := mergeO_r (R := R) h3 z hz
        cases q1
        exact leE_of hle (q2 _ _ g)
    · obtain ⟨r1, r2, r3, r4⟩ := aLoop_of n h4
      refine ⟨r1, fun S ρ g => r2 S ρ ?_, r3, r4⟩
      have g2 := k2 _ _ (k1 _ _ g)
      split
      · exact widE_of (g.len.trans g2.len.symm) g2
      · exact g2
theorem for_ok {q : Ab × Nat × Nat} {e : AEnv} {o : Out} {n : Option AEnv} {put : W → En → Option En} {body : En → Sto → Option RT} {stays : Sto → Prop} {S0 : Sto} (hst : ∀ S, Le R S0 S → stays S) (hnx : ∀ x, o.nx = some x → ∀ S ρ, Gen R S x ρ → Gen R S e ρ) (hct : ∀ x, o.ct = some x → ∀ S ρ, Gen R S x ρ → Gen R S e ρ) (hn : mergeO (some e) o.bk = some n)
    (T : ∀ S w ρ, R.inv S → gam R S q.1 w → Gen R S e ρ → ∃ ρ1, put w ρ = some ρ1 ∧ OutOk R S o (body ρ1 S)) : ∀ (ws : List W) (S : Sto) (ρ : En), Le R S0 S → (∀ w ∈ ws, gam R S q.1 w) → Gen R S e ρ → OutOk R S { nx := n, rt := o.rt } (forL put body stays ws ρ S) := by
  intro ws
  induction ws with
  | nil =>
    intro S ρ l hw g
    unfold forL
    rw [if_pos (hst S l)]
    obtain ⟨f, h1, h2⟩ := mergeO_l (R := R) hn e rfl
    exact ⟨.refl l.inv, f, h1, h2 _ _ g⟩
  | cons w ws ih =>
    intro S ρ l hw g
    unfold forL
    rw [if_pos (hst S l)]
    obtain ⟨ρ1, h1, h2⟩ := T S w ρ l.inv (hw w (List.mem_cons_self ..)) g
    simp only [h1]
    have rest : ∀ S' ρ', Le R S S' → Gen R S' e ρ' → OutOk R S { nx := n, rt := o.rt } (forL put body stays ws ρ' S') := fun S' ρ' l' g' =>
      .le l' (ih S' ρ' (l.trans l') (fun v hv => gam_le l' _ _ (hw v (List.mem_cons_of_mem _ hv))) g')
    cases hb : body ρ1 S with
    | none => rw [hb] at h2; exact h2.elim
    | some t =>
      rw [hb] at h2
      cases t with
      | next ρ' S' =>
        obtain ⟨l', x, h3, h4⟩ := h2
        exact rest S' ρ' l' (hnx x h3 _ _ h4)
      | cont ρ' S' =>
        obtain ⟨l', x, h3, h4⟩ := h2
        exact rest S' ρ' l' (hct x h3 _ _ h4)
      | brk ρ' S' =>
        obtain ⟨l', x, h3, h4⟩ := h2
        obtain ⟨f, h5, h6⟩ := mergeO_r (R := R) hn x h3
        exact ⟨l', f, h5, h6 _ _ h4⟩
      | ret v S' => exact h2
      | ex _ _ _ _ => exact h2.elim
end
section
variable {R0 : Rsc} {G : List W} {O : Orc} {show_ : Ab → Option Nat} {GA : List Ab} {aO : Nat → List Ab → Option Ab}
mutual
theorem sndS (V : Env R0 G O show_ GA aO) : ∀ (c : CS) {R : Rsc} {e : AEnv} {o : Out} {ρ : En} {S : Sto}, Ext0 R0 R → aS show_ GA aO c e = some o → R.inv S → Gen R S e ρ → OutOk R S o (runS G O c ρ S)
  | .asg t y, R, e, o, ρ, S, x, h, iS, g => by
    unfold aS at h
    simp only [Option.bind_eq_some_iff, Option.map_eq_some_iff] at h
    obtain ⟨a, h1, e1, h2, rfl⟩ := h
    obtain ⟨w, S1, r1, l1, g1⟩ := (sndE V y x h1 iS g).1
    obtain ⟨ρ1, h3, h4⟩ := putU_of h2 g1 (g.le l1)
    unfold runS
    rw [r1, thenS_ok, h3]
    exact ⟨l1, e1, rfl, h4⟩
  | .setIx _ _ _, R, e, o, ρ, S, x, h, iS, g => by unfold aS at h; cases h
  | .expr y, R, e, o, ρ, S, x, h, iS, g => by
    unfold aS at h
    simp only [Option.map_eq_some_iff] at h
    obtain ⟨a, h1, rfl⟩ := h
    obtain ⟨w, S1, r1, l1, g1⟩ := (sndE V y x h1 iS g).1
    unfold runS
    rw [r1, thenS_ok]
    exact ⟨l1, e, rfl, g.le l1⟩
  | .doc, R, e, o, ρ, S, x, h, iS, g => by
    unfold aS at h
    cases h
    unfold runS
    exact ⟨.refl iS, e, rfl, g⟩
  | .ret y, R, e, o, ρ, S, x, h, iS, g => by
    unfold aS at h
    simp only [Option.map_eq_some_iff] at h
    obtain ⟨a, h1, rfl⟩ := h
    obtain ⟨w, S1, r1, l1, g1⟩ := (sndE V y x h1 iS g).1
    unfold runS
    rw [r1, thenS_ok]
    exact ⟨l1, a, List.mem_singleton_self _, g1⟩
  | .retN, R, e, o, ρ, S, x, h, iS, g => by
    unfold aS at h
    cases h
    unfold runS
    exact ⟨.refl iS, .non, List.mem_singleton_self _, by unfold gam; rfl⟩
  | .ife c a b, R, e, o, ρ, S, x, h, iS, g => by
    unfold aS at h
    simp only [Option.bind_eq_some_iff] at h
    obtain ⟨v, h1, q, h2, o1, h3, o2, h4, h5⟩ := h
    obtain ⟨w, k, S1, r1, l1, g1, t1⟩ := (sndE V c x h1 iS g).2 (.of h2)
    obtain ⟨k', hb, hq⟩ := truU_of h2 g1
    rw [t1] at hb
    cases hb
    unfold runS
    rw [r1, thenS_ok]
    refine .le l1 ?_
    cases k with
    | true =>
      rw [if_pos (hq.1 rfl)] at h3
      exact (sndSs V a x h3 l1.inv (g.le l1)).sub (merge_l h5)
    | false =>
      rw [if_pos (hq.2 rfl)] at h4
      exact (sndSs V b x h4 l1.inv (g.le l1)).sub (merge_r h5)
  | .whil _ _, R, e, o, ρ, S, x, h, iS, g => by unfold aS at h; cases h
  | .for_ t it a, R, e, o, ρ, S, x, h, iS, g => by
    unfold aS at h
    simp only [Option.bind_eq_some_iff, Option.map_eq_some_iff] at h
    obtain ⟨q, h1, p, h2, n, h3, rfl⟩ := h
    obtain ⟨f, o1⟩ := p
    obtain ⟨k1, k2, k3, k4⟩ := aLoop_of (R := R) 8 h2
    simp only [Option.bind_eq_some_iff] at k1
    obtain ⟨l, m1, m2⟩ := k1
    obtain ⟨j, S1, r1, l1, hj⟩ := sndI V it x h1 iS g
    unfold runS
    rw [r1, thenS_ok]
    refine .le l1 (for_ok (S0 := S1) (q := q) (fun S' l' => hj.stays fun n no u e => l'.at_ no e) k3 k4 h3 ?_ j.items S1 ρ (.refl l1.inv) hj.el (k2 _ _ (g.le l1)))
    intro S2 w ρ2 i2 gw g2
    obtain ⟨b, hb, gb⟩ := alts_of gw
    obtain ⟨o2, h4, h5⟩ := allO_of m1 (List.mem_map.mpr ⟨b, hb, rfl⟩)
    simp only [Option.bind_eq_some_iff] at h4
    obtain ⟨f1, h6, h7⟩ := h4
    obtain ⟨ρ1, h8, h9⟩ := putA_of t h6 gb g2
    exact ⟨ρ1, h8, (sndSs V a x h7 i2 h9).sub (mergeAll_of m2 h5)⟩
  | .pass, R, e, o, ρ, S, x, h, iS, g => by
    unfold aS at h
    cases h
    unfold runS
    exact ⟨.refl iS, e, rfl, g⟩
  | .brk, R, e, o, ρ, S, x, h, iS, g => by
    unfold aS at h
    cases h
    unfold runS
    exact ⟨.refl iS, e, rfl, g⟩
  | .cont, R, e, o, ρ, S, x, h, iS, g => by
    unfold aS at h
    cases h
    unfold runS
    exact ⟨.refl iS, e, rfl, g⟩
  | .stuck, R, e, o, ρ, S, x, h, iS, g => by unfold aS at h; cases h
theorem sndSs (V : Env R0 G O show_ GA aO) : ∀ (c : CSs) {R : Rsc} {e : AEnv} {o : Out} {ρ : En} {S : Sto}, Ext0 R0 R → aSs show_ GA aO c e = some o → R.inv S → Gen R S e ρ → OutOk R S o (runSs G O c ρ S)
  | .nil, R, e, o, ρ, S, x, h, iS, g => by
    unfold aSs at h
    cases h
    unfold runSs
    exact ⟨.refl iS, e, rfl, g⟩
  | .cons s r, R, e, o, ρ, S, x, h, iS, g => by
    unfold aSs at h
    simp only [Option.bind_eq_some_iff] at h
    obtain ⟨o1, h1, h2⟩ := h
    have p := sndS V s x h1 iS g
    unfold runSs
    cases hr : runS G O s ρ S with
    | none => rw [hr] at p; exact p.elim
    | some t =>
      rw [hr] at p
      cases t with
      | next ρ1 S1 =>
        obtain ⟨l1, e1, h3, h4⟩ := p
        rw [h3] at h2
        simp only [Option.bind_eq_some_iff] at h2
        obtain ⟨o2, ⟨l, h5, h7⟩, h6⟩ := h2
        rw [seqS_next]
        obtain ⟨f, hf, gf⟩ := spl_of (s := s) (r := r) h4
        obtain ⟨o3, h8, h9⟩ := allO_of h5 (List.mem_map.mpr ⟨f, hf, rfl⟩)
        exact .le l1 (((sndSs V r x h8 l1.inv gf).sub (mergeAll_of h7 h9)).sub (merge_r h6))
      | brk ρ1 S1 =>
        split at h2
        · cases h2; exact p
        · simp only [Option.bind_eq_some_iff] at h2
          obtain ⟨o2, h5, h6⟩ := h2
          have p' : OutOk R S { o1 with nx := none } (some (.brk ρ1 S1)) := p
          exact p'.sub (merge_l h6)
      | cont ρ1 S1 =>
        split at h2
        · cases h2; exact p
        · simp only [Option.bind_eq_some_iff] at h2
          obtain ⟨o2, h5, h6⟩ := h2
          have p' : OutOk R S { o1 with nx := none } (some (.cont ρ1 S1)) := p
          exact p'.sub (merge_l h6)
      | ret w S1 =>
        split at h2
        · cases h2; exact p
        · simp only [Option.bind_eq_some_iff] at h2
          obtain ⟨o2, h5, h6⟩ := h2
          have p' : OutOk R S { o1 with nx := none } (some (.ret w S1)) := p
          exact p'.sub (merge_l h6)
      | ex _ _ _ _ => exact p.elim
end
end
end Co
namespace Co
open PySem L2

/-! ### calls -/
def prodL : List (List Ab) → List (List Ab)
  | [] => [[]]
  | as :: r => as.flatMap fun a => (prodL r).map fun bs => a :: bs
theorem prodL_of {R : Rsc} {S : Sto} : ∀ {as : List Ab} {ws : List W}, gams R S as ws → ∃ bs ∈ prodL (as.map alts), gams R S bs ws
  | [], [], h => ⟨[], List.mem_singleton_self _, h⟩
  | [], _ :: _, h => by unfold gams at h; exact h.elim
  | _ :: _, [], h => by unfold gams at h; exact h.elim
  | a :: as, w :: ws, h => by
    unfold gams at h
    obtain ⟨b, hb, gb⟩ := alts_of h.1
    obtain ⟨bs, hbs, gbs⟩ := prodL_of h.2
    refine ⟨b :: bs, List.mem_flatMap.mpr ⟨b, hb, List.mem_map.mpr ⟨bs, hbs, rfl⟩⟩, ?_⟩
    unfold gams
    exact ⟨gb, gbs⟩
def startA (n : Nat) (as : List Ab) : AEnv := as.map some ++ List.replicate (n - as.length) none
theorem start_gen {R : Rsc} {S : Sto} {n : Nat} {as : List Ab} {ws : List W} (h : gams R S as ws) : Gen R S (startA n as) (startE n ws) := by
  have hl := gams_len h
  refine ⟨by unfold startA startE; simp [hl], fun i a q => ?_⟩
  unfold startA at q
  by_cases hi : i < as.length
  · rw [List.getElem?_append_left (by simpa using hi), List.getElem?_map] at q
    cases e : as[i]? with
    | none => rw [e] at q; cases q
    | some b =>
      rw [e] at q
      cases q
      have hi' : i < ws.length := by rw [← hl]; exact hi
      obtain ⟨c, h1, h2⟩ := gams_get h (i := i) (w := ws[i]) (by simp [hi'])
      rw [h1] at e
      cases e
      refine ⟨ws[i], ?_, h2⟩
      unfold startE
      rw [List.getElem?_append_left (by simpa using hi'), List.getElem?_map]
      simp [hi']
  · rw [List.getElem?_append_right (by simpa using hi), List.getElem?_replicate] at q
    split at q <;> cases q
def retA (o : Out) : Option Ab := match o.bk, o.ct with
  | none, none => some (joinAll (o.rt ++ (match o.nx with | some _ => [.non] | none => [])))
  | _, _ => none
section
variable (show_ : Ab → Option Nat) (GA : List Ab) (sums : Nat → Nat → List Ab → Option Ab) (F : List FD)
def aCall : Nat → Nat → List Ab → Option Ab
  | 0, f, as => sums 0 f as
  | d + 1, f, as => match sums (d + 1) f as with
    | some a => some a
    | none => match F[f]? with
      | some fd => if as.length = fd.arity then (allO ((prodL (as.map alts)).map fun bs => (aSs show_ GA (aCall d) fd.body (startA fd.slots bs)).bind retA)).map joinAll else none
      | none => none
end
theorem retA_of {R : Rsc} {S : Sto} {o : Out} {a : Ab} {r : Option RT} (h : retA o = some a) (q : OutOk R S o r) : OkE R S a (backW r) := by
  unfold retA at h
  split at h
  · rename_i hb hc
    cases h
    cases r with
    | none => exact q.elim
    | some t => cases t with
      | next ρ S' =>
        obtain ⟨l, e, h1, h2⟩ := q
        rw [h1]
        exact ⟨.non, S', rfl, l, joinAll_of (List.mem_append_right _ (List.mem_singleton_self _)) (by unfold gam; rfl)⟩
      | ret w S' =>
        obtain ⟨l, a, h1, h2⟩ := q
        exact ⟨w, S', rfl, l, joinAll_of (List.mem_append_left _ h1) h2⟩
      | brk ρ S' => obtain ⟨l, e, h1, h2⟩ := q; rw [hb] at h1; cases h1
      | cont ρ S' => obtain ⟨l, e, h1, h2⟩ := q; rw [hc] at h1; cases h1
      | ex _ _ _ _ => exact q.elim
  · cases h
theorem aCall_of {R0 : Rsc} {G : List W} {show_ : Ab → Option Nat} {GA : List Ab} {sums : Nat → Nat → List Ab → Option Ab} {F : List FD} (hsh : ∀ R, ShowOk R show_) (hG : ∀ (i : Nat) (a : Ab), GA[i]? = some a → ∃ w, G[i]? = some w ∧ ∀ R S, gam R S a w)
    (hs : ∀ d R, Ext0 R0 R → ∀ f as a, sums d f as = some a → ∀ ws S, R.inv S → gams R S as ws → OkE R S a (callAt G F d f ws S)) : ∀ d R, Ext0 R0 R → ∀ f as a, aCall show_ GA sums F d f as = some a → ∀ ws S, R.inv S → gams R S as ws → OkE R S a (callAt G F d f ws S) := by
  intro d
  induction d with
  | zero =>
    intro R x f as a h ws S i g
    unfold aCall at h
    exact hs 0 R x f as a h ws S i g
  | succ d ih =>
    intro R x f as a h ws S i g
    unfold aCall at h
    split at h
    · rename_i a' h1
      cases h
      exact hs (d + 1) R x f as a h1 ws S i g
    · split at h
      · rename_i fd hf
        split at h
        · rename_i hl
          simp only [Option.map_eq_some_iff] at h
          obtain ⟨l, h1, rfl⟩ := h
          obtain ⟨bs, hbs, gbs⟩ := prodL_of g
          obtain ⟨c, h2, h3⟩ := allO_of h1 (List.mem_map.mpr ⟨bs, hbs, rfl⟩)
          simp only [Option.bind_eq_some_iff] at h2
          obtain ⟨o, h4, h5⟩ := h2
          have V : Env R0 G (callAt G F d) show_ GA (aCall show_ GA sums F d) := ⟨hsh, hG, ih⟩
          have q := sndSs V fd.body x h4 i (start_gen gbs)
          have e : callAt G F (d + 1) f ws S = backW (runSs G (callAt G F d) fd.body (startE fd.slots ws) S) := by
            conv => lhs; unfold callAt
            simp only [hf]
            rw [if_pos (by rw [← gams_len g]; exact hl)]
          rw [e]
          exact (retA_of h5 q).mono fun S' w z => joinAll_of h3 z
        · cases h
      · cases h
end Co
namespace Co
open PySem L2

/-! ### how long a value is when it is shown -/
def keysA : List Key → Option Nat
  | [] => some 0
  | .inr x :: r => (keysA r).map fun m => (reprText x).length + 2 + m
  | .inl _ :: _ => none
mutual
def showA : Ab → Option (Nat × Nat)
  | .non => some (0, 4)
  | .bl _ _ => some (0, 5)
  | .int (some l) (some h) => if -(10 ^ 18) < l ∧ h < 10 ^ 18 then some (0, 19) else if -(10 ^ 400) < l ∧ h < 10 ^ 400 then some (0, 401) else none
  | .int _ _ => none
  | .str x => some (0, (reprText x).length)
  | .stx n => if n < 65536 then some (0, 10 * n + 2) else none
  | .tup as => (showAs as).map fun q => (q.1 + 1, q.2 + 3)
  | .tups a _ hi => (showA a).map fun q => (q.1 + 1, hi * (q.2 + 2) + 3)
  | .lst as => (showAs as).map fun q => (q.1 + 1, q.2 + 3)
  | .lsts a _ hi => (showA a).map fun q => (q.1 + 1, hi * (q.2 + 2) + 3)
  | .dic ks as => (showAs as).bind fun q => (keysA ks).map fun m => (q.1 + 1, q.2 + m + 3)
  | .scr _ => none
  | .res => none
  | .or as => showU as
def showAs : List Ab → Option (Nat × Nat)
  | [] => some (0, 0)
  | a :: as => (showA a).bind fun q => (showAs as).map fun r => (max q.1 r.1, q.2 + 2 + r.2)
def showU : List Ab → Option (Nat × Nat)
  | [] => some (0, 0)
  | a :: as => (showA a).bind fun q => (showU as).map fun r => (max q.1 r.1, max q.2 r.2)
end
def shown_ (a : Ab) : Option Nat := (showA a).bind fun q => if q.1 ≤ 59 then some q.2 else none
/-- w can be shown: so deep, so long -/
def Pr (S : Sto) (n k : Nat) (w : W) : Prop := ∃ d, readD (n + 1) S w = some d ∧ d.showable = true ∧ d.shown.length ≤ k ∧ d.depth ≤ n
def Prs (S : Sto) (n k : Nat) (ws : List W) : Prop := ∃ ds, ws.mapM (readD (n + 1) S) = some ds ∧ PyData.showableAll ds = true ∧ piled (PyData.shownAll ds) ≤ k ∧ PyData.depthAll ds ≤ n
section
variable {S : Sto}
theorem mapM_mono {α β : Type} {f g : α → Option β} : ∀ {l : List α} {r : List β}, (∀ a ∈ l, ∀ b, f a = some b → g a = some b) → l.mapM f = some r → l.mapM g = some r
  | [], r, _, h => by simpa using h
  | a :: l, r, k, h => by
    simp only [List.mapM_cons, Option.bind_eq_bind, Option.pure_def, Option.bind_eq_some_iff] at h ⊢
    obtain ⟨b, h1, bs, h2, h3⟩ := h
    exact ⟨b, k a (List.mem_cons_self ..) b h1, bs, mapM_mono (fun c hc => k c (List.mem_cons_of_mem _ hc)) h2, h3⟩
theorem readD_succ : ∀ (n : Nat) (w : W) (d : PyData), readD n S w = some d → readD (n + 1) S w = some d
  | 0, w, d, h => by cases h
  | n + 1, w, d, h => by
    have ih := readD_succ n
    cases w with
    | tup ws =>
      simp only [readD, Option.map_eq_some_iff] at h ⊢
      obtain ⟨ds, h1, rfl⟩ := h
      exact ⟨ds, mapM_mono (fun a _ b e => ih a b e) h1, rfl⟩
    | ref k =>
      simp only [readD] at h ⊢
      split at h
      · simp only [Option.map_eq_some_iff] at h ⊢
        obtain ⟨ds, h1, rfl⟩ := h
        exact ⟨ds, mapM_mono (fun a _ b e => ih a b e) h1, rfl⟩
      · simp only [Option.map_eq_some_iff] at h ⊢
        obtain ⟨ds, h1, rfl⟩ := h
        refine ⟨ds, mapM_mono (fun a _ b e => ?_) h1, rfl⟩
        simp only [Option.map_eq_some_iff] at e ⊢
        obtain ⟨c, q1, q2⟩ := e
        exact ⟨c, ih _ _ q1, q2⟩
      · cases h
    | _ => simpa [readD] using h
theorem readD_le {n m : Nat} {w : W} {d : PyData} (h : readD n S w = some d) (l : n ≤ m) : readD m S w = some d := by
  induction l with
  | refl => exact h
  | step _ ih => exact readD_succ _ _ _ ih
theorem Pr.mono {n k n' k' : Nat} {w : W} (h : Pr S n k w) (hn : n ≤ n') (hk : k ≤ k') : Pr S n' k' w := by
  obtain ⟨d, h1, h2, h3, h4⟩ := h
  exact ⟨d, readD_le h1 (by omega), h2, by omega, by omega⟩
theorem Prs.nil {n k : Nat} : Prs S n k [] := ⟨[], by simp, rfl, by show 0 ≤ k; omega, Nat.zero_le _⟩
theorem Prs.cons {n k m : Nat} {w : W} {ws : List W} (h : Pr S n k w) (h' : Prs S n m ws) : Prs S n (k + 2 + m) (w :: ws) := by
  obtain ⟨d, h1, h2, h3, h4⟩ := h
  obtain ⟨ds, q1, q2, q3, q4⟩ := h'
  refine ⟨d :: ds, ?_, ?_, ?_, ?_⟩
  · simp only [List.mapM_cons, h1, q1, Option.bind_eq_bind, Option.bind_some, Option.pure_def]
  · simp only [PyData.showableAll, h2, q2, Bool.and_self]
  · simp only [PyData.shownAll, piled_cons]
    omega
  · simp only [PyData.depthAll]
    omega
theorem Prs.mono {n k n' k' : Nat} {ws : List W} (h : Prs S n k ws) (hn : n ≤ n') (hk : k ≤ k') : Prs S n' k' ws := by
  obtain ⟨d, h1, h2, h3, h4⟩ := h
  exact ⟨d, mapM_mono (fun a _ b e => readD_le e (by omega)) h1, h2, by omega, by omega⟩
theorem Prs.all {n k : Nat} : ∀ {ws : List W}, (∀ w ∈ ws, Pr S n k w) → Prs S n (ws.length * (k + 2)) ws
  | [], _ => .nil
  | w :: ws, h => by
    have := Prs.cons (h w (List.mem_cons_self ..)) (Prs.all fun x hx => h x (List.mem_cons_of_mem _ hx))
    refine this.mono (Nat.le_refl _) ?_
    rw [List.length_cons, Nat.succ_mul]
    omega
theorem len_tuple (ts : List Str) : (tupleText ts).length ≤ piled ts + 3 := by
  unfold tupleText
  rw [strLen_append, strLen_append]
  have e1 : ((("(" : String) : Str)).length = 1 := rfl
  have e3 : (((if ts.length == 1 then ",)" else ")" : String) : Str)).length ≤ 2 := by split <;> decide
  by_cases h : ts = []
  · subst h
    have : (Str.join ", " ([] : List Str)).length = 0 := rfl
    omega
  · have := join_length_add ts h
    omega
theorem len_list (ts : List Str) : (listText ts).length ≤ piled ts + 3 := by
  unfold listText
  rw [strLen_append]
  have e3 : ((("]" : String) : Str)).length = 1 := rfl
  cases ts with
  | nil =>
    have : (textFrom 0 ("[" : Str) []).length = 1 := rfl
    omega
  | cons t r =>
    have h : (textFrom 0 ("[" : Str) (t :: r)).length = (("[" : Str) ++ (if (0 : Nat) > 0 then ", " else "" : String) ++ t).length + piled r := textFrom_length_pos r 1 _ (Nat.succ_pos 0)
    have e : ((("[" : Str) ++ (if (0 : Nat) > 0 then ", " else "" : String) ++ t)).length = 1 + t.length := by
      rw [strLen_append, strLen_append]
      simp
      rfl
    rw [h, e, piled_cons]
    omega
theorem Prs.tup {n k : Nat} {ws : List W} (h : Prs S n k ws) : Pr S (n + 1) (k + 3) (.tup ws) := by
  obtain ⟨ds, h1, h2, h3, h4⟩ := h
  refine ⟨.tuple ds, by simp only [readD, h1, Option.map_some], by simpa only [PyData.showable] using h2, ?_, by simp only [PyData.depth]; omega⟩
  simp only [PyData.shown]
  have := len_tuple (PyData.shownAll ds)
  omega
theorem Prs.lst {n k r : Nat} {ws : List W} {b : Bool} (h : Prs S n k ws) (e : S[r]? = some (.lst b ws)) : Pr S (n + 1) (k + 3) (.ref r) := by
  obtain ⟨ds, h1, h2, h3, h4⟩ := h
  refine ⟨.list ds, by simp only [readD, e, h1, Option.map_some], by simpa only [PyData.showable] using h2, ?_, by simp only [PyData.depth]; omega⟩
  simp only [PyData.shown]
  have := len_list (PyData.shownAll ds)
  omega
theorem char_len {q c : Nat} (h : c < 1114112) : (Builtin.Str.reprChar q c).length ≤ 10 := by
  have hd : (Nat.toDigits 16 c).length ≤ 6 := (Nat.length_toDigits_le_iff (by decide) (by decide)).mpr (by omega)
  have hx : ∀ k, k ≤ 8 → (List.replicate (k - ((Nat.toDigits 16 c).map Char.toNat).length) 48 ++ (Nat.toDigits 16 c).map Char.toNat).length ≤ 8 := fun k hk => by
    rw [List.length_append, List.length_replicate, List.length_map]
    omega
  unfold Builtin.Str.reprChar
  simp only
  split
  · simp
  · split
    · simp
    · split
      · simp
      · split
        · simp
        · split
          · simp
          · split
            · rw [List.length_append]
              have := hx 2 (by omega)
              simp only [List.length_cons, List.length_nil]
              omega
            · split
              · rw [List.length_append]
                have := hx 4 (by omega)
                simp only [List.length_cons, List.length_nil]
                omega
              · rw [List.length_append]
                have := hx 8 (by omega)
                simp only [List.length_cons, List.length_nil]
                omega
theorem fold_len {q : Nat} : ∀ (l : List Nat) (acc : Array Nat), (∀ c ∈ l, c < 1114112) → (List.foldl (fun out c => out ++ (Builtin.Str.reprChar q c).toArray) acc l).size ≤ acc.size + 10 * l.length
  | [], acc, _ => by simp
  | c :: l, acc, h => by
    rw [List.foldl_cons]
    refine Nat.le_trans (fold_len l _ fun c hc => h c (List.mem_cons_of_mem _ hc)) ?_
    have := char_len (q := q) (h c (List.mem_cons_self ..))
    have e : (Builtin.Str.reprChar q c).toArray.size = (Builtin.Str.reprChar q c).length := by simp
    rw [Array.size_append, e, List.length_cons]
    omega
theorem repr_len {x : Str} (h : okc x = true) : (reprText x).length ≤ 10 * x.length + 2 := by
  unfold reprText
  show (Array.push _ _).size ≤ _
  rw [Array.size_push, ← Array.foldl_toList]
  have := fold_len (q := reprQuote x) x.cps.toList #[reprQuote x] fun c hc => of_decide_eq_true (List.all_eq_true.mp h c hc)
  have e : x.length = x.cps.size := rfl
  have e2 : x.cps.toList.length = x.cps.size := by simp
  have e3 : (#[reprQuote x] : Array Nat).size = 1 := rfl
  omega
theorem len_dict (ts : List Str) : (dictText ts).length ≤ piled ts + 3 := by
  unfold dictText
  rw [strLen_append, strLen_append]
  have e1 : ((("{" : String) : Str)).length = 1 := rfl
  have e3 : ((("}" : String) : Str)).length = 1 := rfl
  by_cases h : ts = []
  · subst h
    have : (Str.join ", " ([] : List Str)).length = 0 := rfl
    omega
  · have := join_length_add ts h
    omega
theorem Prs.dicK {n : Nat} : ∀ {kvs : List (Key × W)} {k m : Nat}, Prs S n k (kvs.map (·.2)) → keysA (kvs.map (·.1)) = some m →
    ∃ ds : List (PyData × PyData), (kvs.mapM fun kv => (readD (n + 1) S kv.2).map fun d => ((match kv.1 with | .inl i => PyData.int i | .inr x => PyData.str x), d)) = some ds ∧ PyData.showableKv ds = true ∧ piled (PyData.shownKv ds) ≤ k + m ∧ PyData.depthKv ds ≤ n
  | [], k, m, h, hm => ⟨[], by simp, rfl, by show 0 ≤ _; omega, Nat.zero_le _⟩
  | (key, w) :: kvs, k, m, h, hm => by
    cases key with
    | inl i => cases hm
    | inr x =>
      simp only [List.map_cons, keysA, Option.map_eq_some_iff] at hm
      obtain ⟨m', hm', rfl⟩ := hm
      obtain ⟨ds, h1, h2, h3, h4⟩ := h
      simp only [List.map_cons, List.mapM_cons, Option.bind_eq_bind, Option.pure_def, Option.bind_eq_some_iff] at h1
      obtain ⟨d, r1, ds', r2, r3⟩ := h1
      cases r3
      simp only [PyData.showableAll, Bool.and_eq_true] at h2
      simp only [PyData.shownAll, piled_cons] at h3
      simp only [PyData.depthAll] at h4
      obtain ⟨es, q1, q2, q3, q4⟩ := Prs.dicK (n := n) (kvs := kvs) (k := piled (PyData.shownAll ds')) ⟨ds', r2, h2.2, Nat.le_refl _, by omega⟩ hm'
      refine ⟨(.str x, d) :: es, ?_, ?_, ?_, ?_⟩
      · simp only [List.mapM_cons, r1, q1, Option.map_some, Option.bind_eq_bind, Option.bind_some, Option.pure_def]
      · simp only [PyData.showableKv, Bool.and_eq_true]
        exact ⟨⟨rfl, h2.1⟩, q2⟩
      · simp only [PyData.shownKv, piled_cons, PyData.shown]
        rw [strLen_append, strLen_append]
        have e : (((": " : String) : Str)).length = 2 := rfl
        omega
      · simp only [PyData.depthKv, PyData.depth]
        omega
theorem Prs.dic {n k m r : Nat} {kvs : List (Key × W)} {b : Bool} (h : Prs S n k (kvs.map (·.2))) (hm : keysA (kvs.map (·.1)) = some m) (e : S[r]? = some (.dic b kvs)) : Pr S (n + 1) (k + m + 3) (.ref r) := by
  obtain ⟨ds, h1, h2, h3, h4⟩ := Prs.dicK h hm
  refine ⟨.dict ds, by simp only [readD, e]; exact congrArg (Option.map PyData.dict) h1, by simpa only [PyData.showable] using h2, ?_, by simp only [PyData.depth]; omega⟩
  simp only [PyData.shown]
  have := len_dict (PyData.shownKv ds)
  omega
theorem int_show {i : Int} {k : Nat} (hk : 1 ≤ k) (h : i.natAbs < 10 ^ k) (hl : k ≤ 400) : Pr S 0 (k + 1) (.int i) := by
  refine ⟨.int i, rfl, ?_, int_len hk h, Nat.le_refl _⟩
  simp only [PyData.showable, decide_eq_true_eq]
  have h1 : i.natAbs < 2 ^ 1920 := Nat.lt_of_lt_of_le h (Nat.le_trans (Nat.pow_le_pow_right (by decide) hl) (by decide +kernel))
  by_cases h0 : i.natAbs = 0
  · rw [h0]; decide
  · exact (Nat.log2_lt h0).mpr h1
variable {R : Rsc}
mutual
theorem showA_of : ∀ (a : Ab) {q : Nat × Nat} {w : W}, showA a = some q → gam R S a w → Pr S q.1 q.2 w
  | .non, q, w, h, g => by
    unfold gam at g
    subst g
    cases h
    exact ⟨.none, rfl, rfl, by decide, Nat.le_refl _⟩
  | .bl t f, q, w, h, g => by
    unfold gam at g
    obtain ⟨b, rfl, _⟩ := g
    cases h
    exact ⟨.bool b, rfl, rfl, by cases b <;> decide, Nat.le_refl _⟩
  | .int lo hi, q, w, h, g => by
    unfold gam at g
    obtain ⟨i, rfl, h1, h2⟩ := g
    cases lo with
    | none => unfold showA at h; cases h
    | some l =>
      cases hi with
      | none => unfold showA at h; cases h
      | some u =>
        have h1 : l ≤ i := h1
        have h2 : i ≤ u := h2
        unfold showA at h
        split at h
        · cases h
          exact int_show (k := 18) (by decide) (by omega) (by decide)
        · split at h
          · rename_i hb
            cases h
            refine int_show (k := 400) (by decide) ?_ (by decide)
            have : ((10 ^ 400 : Nat) : Int) = (10 : Int) ^ 400 := by norm_cast
            omega
          · cases h
  | .str x, q, w, h, g => by
    unfold gam at g
    subst g
    cases h
    exact ⟨.str x, rfl, rfl, by simp only [PyData.shown]; exact Nat.le_refl _, Nat.le_refl _⟩
  | .stx n, q, w, h, g => by
    unfold showA at h
    split at h
    · rename_i hn
      cases h
      unfold gam at g
      obtain ⟨x, rfl, h1, h2⟩ := g
      have hc : okc x = true := by
        unfold rich at h2
        simpa [Nat.not_le.mpr hn] using h2
      refine ⟨.str x, rfl, rfl, ?_, Nat.le_refl _⟩
      simp only [PyData.shown]
      have := repr_len hc
      omega
    · cases h
  | .tup as, q, w, h, g => by
    unfold gam at g
    unfold showA at h
    simp only [Option.map_eq_some_iff] at h
    obtain ⟨p, h1, rfl⟩ := h
    obtain ⟨ws, rfl, h2⟩ := g
    exact (showAs_of as h1 h2).tup
  | .tups a lo hi, q, w, h, g => by
    unfold gam at g
    unfold showA at h
    simp only [Option.map_eq_some_iff] at h
    obtain ⟨p, h1, rfl⟩ := h
    obtain ⟨ws, rfl, _, h2, h3⟩ := g
    exact ((Prs.all fun x hx => showA_of a h1 (h3 x hx)).mono (Nat.le_refl _) (Nat.mul_le_mul_right _ h2)).tup
  | .lst as, q, w, h, g => by
    unfold gam at g
    unfold showA at h
    simp only [Option.map_eq_some_iff] at h
    obtain ⟨p, h1, rfl⟩ := h
    obtain ⟨n, ws, rfl, _, e, h2⟩ := g
    exact (showAs_of as h1 h2).lst e
  | .lsts a lo hi, q, w, h, g => by
    unfold gam at g
    unfold showA at h
    simp only [Option.map_eq_some_iff] at h
    obtain ⟨p, h1, rfl⟩ := h
    obtain ⟨n, ws, rfl, _, e, _, h2, h3⟩ := g
    exact ((Prs.all fun x hx => showA_of a h1 (h3 x hx)).mono (Nat.le_refl _) (Nat.mul_le_mul_right _ h2)).lst e
  | .dic ks as, q, w, h, g => by
    unfold gam at g
    obtain ⟨n, kvs, rfl, _, e, h1, h2⟩ := g
    unfold showA at h
    simp only [Option.bind_eq_some_iff, Option.map_eq_some_iff] at h
    obtain ⟨p, hp, m, hm, rfl⟩ := h
    have ps := showAs_of as hp h2
    rw [← h1] at hm
    exact (Prs.dic ps hm e)
  | .scr _, q, w, h, g => by unfold showA at h; cases h
  | .res, q, w, h, g => by unfold showA at h; cases h
  | .or as, q, w, h, g => by
    unfold gam at g
    unfold showA at h
    exact showU_of as h g
theorem showAs_of : ∀ (as : List Ab) {q : Nat × Nat} {ws : List W}, showAs as = some q → gams R S as ws → Prs S q.1 q.2 ws
  | [], q, ws, h, g => by
    cases ws with
    | cons _ _ => unfold gams at g; exact g.elim
    | nil => exact .nil
  | a :: as, q, ws, h, g => by
    cases ws with
    | nil => unfold gams at g; exact g.elim
    | cons w ws =>
      unfold gams at g
      unfold showAs at h
      simp only [Option.bind_eq_some_iff, Option.map_eq_some_iff] at h
      obtain ⟨p, h1, r, h2, rfl⟩ := h
      exact Prs.cons ((showA_of a h1 g.1).mono (Nat.le_max_left _ _) (Nat.le_refl _)) ((showAs_of as h2 g.2).mono (Nat.le_max_right _ _) (Nat.le_refl _))
theorem showU_of : ∀ (as : List Ab) {q : Nat × Nat} {w : W}, showU as = some q → gamU R S as w → Pr S q.1 q.2 w
  | [], q, w, h, g => by unfold gamU at g; exact g.elim
  | a :: as, q, w, h, g => by
    unfold gamU at g
    unfold showU at h
    simp only [Option.bind_eq_some_iff, Option.map_eq_some_iff] at h
    obtain ⟨p, h1, r, h2, rfl⟩ := h
    rcases g with g | g
    · exact (showA_of a h1 g).mono (Nat.le_max_left _ _) (Nat.le_max_left _ _)
    · exact (showU_of as h2 g).mono (Nat.le_max_right _ _) (Nat.le_max_right _ _)
end
theorem Pr.repr {n k : Nat} {w : W} (h : Pr S n k w) (hn : n ≤ 59) (hk : k ≤ sizeLine) : ∃ d, readD 60 S w = some d ∧ reprW S w = some d.shown ∧ d.shown.length ≤ k := by
  obtain ⟨d, h1, h2, h3, h4⟩ := h
  have h1 := readD_le h1 (show n + 1 ≤ 60 by omega)
  refine ⟨d, h1, ?_, h3⟩
  unfold reprW
  rw [h1]
  simp only
  rw [if_pos ⟨h2, by omega, by omega⟩]
theorem shown_ok : ∀ R, ShowOk R shown_ := fun R S a n w h hz g => by
  unfold shown_ at h
  simp only [Option.bind_eq_some_iff] at h
  obtain ⟨q, h1, h2⟩ := h
  split at h2
  · rename_i hq
    cases h2
    obtain ⟨d, e1, e2, e3⟩ := (showA_of a h1 g).repr hq hz
    exact ⟨d.shown, e2, e3⟩
  · cases h2
end
end Co
/-! the loom of the laws: drawing -/
namespace Lo
open PySem L2 Co
/-! ### the jar -/
def jarK (l : Nat) (a b : Int) : List (Key × W) := [(.inr "far", .ref l), (.inr "stirred", .int a), (.inr "times", .int b)]
/-- the jar stands at j, its far numbers at l -/
structure Jar (j l : Nat) (S : Sto) : Prop where
  ne : j ≠ l
  at_ : ∃ a b, S[j]? = some (.dic true (jarK l a b))
  far : ∃ xs : List Int, S[l]? = some (.lst true (xs.map W.int)) ∧ xs.length ≤ 1000
def jarR (j l : Nat) : Rsc where
  own := fun n => n = j ∨ n = l
  inv := Jar j l
  w := .ref j
  lt := fun S n h o => by
    obtain ⟨_, ⟨a, b, h1⟩, ⟨xs, h2, _⟩⟩ := h
    rcases o with rfl | rfl
    · exact (List.getElem?_eq_some_iff.mp h1).1
    · exact (List.getElem?_eq_some_iff.mp h2).1
  st := fun S S' h k => by
    obtain ⟨h0, ⟨a, b, h1⟩, ⟨xs, h2, h3⟩⟩ := h
    exact ⟨h0, ⟨a, b, (k j (.inl rfl)).trans h1⟩, ⟨xs, (k l (.inr rfl)).trans h2, h3⟩⟩
theorem v_far (l : Nat) (a b : Int) : valD (jarK l a b) (.inr "far") = some (.ref l) := rfl
theorem v_sti (l : Nat) (a b : Int) : valD (jarK l a b) (.inr "stirred") = some (.int a) := rfl
theorem v_turn (l : Nat) (a b : Int) : valD (jarK l a b) (.inr "times") = some (.int b) := rfl
theorem p_turn (l : Nat) (a b c : Int) : putD (jarK l a b) (.inr "times") (.int c) = jarK l a c := rfl
theorem call_eq {G : List W} {F : List FD} {d f : Nat} {ws : List W} {S : Sto} {fd : FD} (h : F[f]? = some fd) (hl : ws.length = fd.arity) : callAt G F (d + 1) f ws S = backW (runSs G (callAt G F d) fd.body (startE fd.slots ws) S) := by
  conv => lhs; unfold callAt
  simp only [h, hl, if_true]
theorem ints_read {S : Sto} {xs : List Int} (n : Nat) : (xs.map W.int).mapM (readD (n + 1) S) = some (xs.map PyData.int) := by
  induction xs with
  | nil => rfl
  | cons x xs ih => simp only [List.map_cons, List.mapM_cons, ih]; rfl
theorem eq_nil {S : Sto} {l n : Nat} {xs : List Int} (h1 : S[l]? = some (.lst true (xs.map W.int))) (h2 : S[n]? = some (.lst true [])) : eqW S (.ref l) (.ref n) = some (xs.isEmpty) := by
  have r1 : readD 60 S (.ref l) = some (.list (xs.map PyData.int)) := by
    simp only [readD, h1, ints_read, Option.map_some]
  have r2 : readD 60 S (.ref n) = some (.list []) := by
    simp [readD, h2]
  have s1 : ∀ ys : List Int, PyData.canLayAll0 (ys.map PyData.int) = true := fun ys => by
    induction ys with
    | nil => rfl
    | cons y ys ih => simp only [List.map_cons, PyData.canLayAll0, PyData.canLay0, ih, Bool.and_self]
  have s2 : ∀ ys : List Int, PyData.depthAll (ys.map PyData.int) = 0 := fun ys => by
    induction ys with
    | nil => rfl
    | cons y ys ih => simp only [List.map_cons, PyData.depthAll, PyData.depth, ih, Nat.max_self]
  show eqD S (.ref l) (.ref n) = _
  unfold eqD
  rw [r1, r2]
  have sh1 : SeqAt.shaped (.list (xs.map PyData.int)) = true := by
    simp only [SeqAt.shaped, PyData.canLay0, s1, PyData.depth, s2]
    decide
  have sh2 : SeqAt.shaped (.list []) = true := by decide
  simp only [sh1, sh2, and_self, if_true]
  cases xs <;> rfl
theorem seq_next {G : List W} {O : Orc} {s : CS} {r : CSs} {ρ ρ' : En} {S S' : Sto} (h : runS G O s ρ S = some (.next ρ' S')) : runSs G O (.cons s r) ρ S = runSs G O r ρ' S' := by
  conv => lhs; unfold runSs
  rw [h]
  rfl
theorem seq_ret {G : List W} {O : Orc} {s : CS} {r : CSs} {ρ : En} {S S' : Sto} {w : W} (h : runS G O s ρ S = some (.ret w S')) : runSs G O (.cons s r) ρ S = some (.ret w S') := by
  conv => lhs; unfold runSs
  rw [h]
  rfl
theorem run_nil {G : List W} {O : Orc} {ρ : En} {S : Sto} : runSs G O .nil ρ S = some (.next ρ S) := by unfold runSs; rfl
theorem ife_true {G : List W} {O : Orc} {c : CE} {a b : CSs} {ρ : En} {S S' : Sto} (h : runT G O c ρ S = some (.ok true S')) : runS G O (.ife c a b) ρ S = runSs G O a ρ S' := by
  conv => lhs; unfold runS
  rw [h]
  rfl
theorem ife_false {G : List W} {O : Orc} {c : CE} {a b : CSs} {ρ : En} {S S' : Sto} (h : runT G O c ρ S = some (.ok false S')) : runS G O (.ife c a b) ρ S = runSs G O b ρ S' := by
  conv => lhs; unfold runS
  rw [h]
  rfl
theorem ix_jar {S : Sto} {j l : Nat} {a b : Int} {x : Str} {w : W} (h : S[j]? = some (.dic true (jarK l a b))) (e : valD (jarK l a b) (.inr x) = some w) : ixW S (.ref j) (.str x) = some w := by
  simp [ixW, h, keyW, e]
theorem pop_of {S : Sto} {l : Nat} {xs : List Int} {x : Int} (h : S[l]? = some (.lst true ((xs ++ [x]).map W.int))) : mthW S .pop (.ref l) [] = some (.ok (.int x) (S.set l (.lst true (xs.map W.int)))) := by
  simp [mthW, h]
theorem app_of {S : Sto} {l : Nat} {xs : List Int} {y : Int} (h : S[l]? = some (.lst true (xs.map W.int))) (hz : xs.length ≤ 1000) : mthW S .append (.ref l) [.int y] = some (.ok .non (S.set l (.lst true ((xs ++ [y]).map W.int)))) := by
  have : xs.length < sizeLine := Nat.lt_of_le_of_lt hz (by decide)
  simp [mthW, h, this]
theorem recv_of {S : Sto} {l : Nat} {m : Mt} {ws : List W} (h : S[l]? = some (.lst true ws)) (hm : m ≠ .get1) : recv S m (.ref l) = true := by
  cases m <;> first | (exact absurd rfl hm) | simp [recv, h]
theorem mod_of {S : Sto} {i k : Int} (h : k ≠ 0) : op2 S .mod (.int i) (.int k) = some (.ok (.int (i.fmod k)) S) := by
  show (if k ≠ 0 then okW (W.int (i.fmod k)) S else none) = _
  rw [if_pos h]
  rfl
theorem div_of {S : Sto} {i k : Int} (h : k ≠ 0) (h1 : k.natAbs < 1073741824) : op2 S .fdiv (.int i) (.int k) = some (.ok (.int (i.fdiv k)) S) := by
  show (if CDivN i k ∨ CDivW i k then okW (W.int (i.fdiv k)) S else none) = _
  rw [if_pos (.inl ⟨h, h1⟩)]
  rfl
theorem mul_of {S : Sto} {i k : Int} (h : (-(2 ^ 64) < i ∧ i < 2 ^ 64) ∨ (-(2 ^ 64) < k ∧ k < 2 ^ 64)) : op2 S .mul (.int i) (.int k) = some (.ok (.int (i * k)) S) := by
  show (if MulOk i k then okW (W.int (i * k)) S else none) = _
  rw [if_pos (.inl h)]
  rfl
theorem add_of {S : Sto} {i k : Int} : op2 S .add (.int i) (.int k) = some (.ok (.int (i + k)) S) := rfl
theorem int_of {S : Sto} {i : Int} : bltW S .int [.int i] = some (.ok (.int i) S) := rfl
/-- the draw from a loom -/
def DL : FD := ⟨2, 4, (.cons (.ife (.cmp .lt (.var 1) (.cst (.int 2))) (.cons (.ret (.cst (.int 0))) .nil) .nil) (.cons (.ife (.cmp .ne (.idx (.var 0) (.cst (.str "far"))) (.lst .nil)) (.cons (.asg (.name 3) (.mth .pop (.idx (.var 0) (.cst (.str "far"))) .nil)) (.cons (.ife (.cmp .ge (.var 3) (.var 1)) (.cons (.expr (.mth .append (.idx (.var 0) (.cst (.str "far"))) (.cons (.bin .fdiv (.var 3) (.var 1)) .nil))) .nil) .nil) (.cons (.ret (.bin .mod (.blt .int (.cons (.var 3) .nil)) (.var 1))) .nil))) .nil) (.cons (.setIx (.var 0) (.cst (.str "times")) (.bin .add (.idx (.var 0) (.cst (.str "times"))) (.cst (.int 1)))) (.cons (.asg (.name 2) (.bin .mod (.blt .int (.cons (.bin .add (.idx (.var 0) (.cst (.str "stirred"))) (.bin .mul (.cst (.int 2654435761)) (.idx (.var 0) (.cst (.str "times"))))) .nil)) (.cst (.int 4294967279)))) (.cons (.asg (.name 2) (.bin .mod (.blt .int (.cons (.bin .add (.bin .add (.bin .mul (.var 2) (.var 2)) (.bin .mul (.cst (.int 40503)) (.idx (.var 0) (.cst (.str "times"))))) (.cst (.int 17))) .nil)) (.cst (.int 4294967231)))) (.cons (.asg (.name 2) (.bin .mod (.blt .int (.cons (.bin .add (.bin .mul (.var 2) (.var 2)) (.idx (.var 0) (.cst (.str "stirred")))) .nil)) (.cst (.int 4294967197)))) (.cons (.ret (.bin .mod (.blt .int (.cons (.bin .fdiv (.var 2) (.cst (.int 128))) .nil)) (.var 1))) .nil)))))))⟩
theorem draw_small {G : List W} {F : List FD} {fi : Nat} (hF : F[fi]? = some DL) {d j : Nat} {S : Sto} {m : Int} (h : m < 2) : callAt G F (d + 1) fi [.ref j, .int m] S = some (.ok (.int 0) S) := by
  rw [call_eq (fd := DL) hF rfl]
  simp [DL, startE, runSs, runS, runE, runT, cmpW, h]
theorem draw_far {G : List W} {F : List FD} {fi : Nat} (hF : F[fi]? = some DL) {d j l : Nat} {S : Sto} {m a b : Int} {xs : List Int} {x : Int} (h : ¬ m < 2) (hj : S[j]? = some (.dic true (jarK l a b))) (hl : S[l]? = some (.lst true ((xs ++ [x]).map W.int))) (ne : j ≠ l) (hm : m < 1073741824) (hx : xs.length ≤ 1000) :
    ∃ ys : List Int, ys.length ≤ xs.length + 1 ∧ callAt G F (d + 1) fi [.ref j, .int m] S = some (.ok (.int (x.fmod m)) ((S ++ [MO.lst true []]).set l (MO.lst true (ys.map W.int)))) := by
  have hjl : j < S.length := (List.getElem?_eq_some_iff.mp hj).1
  have hll : l < S.length := (List.getElem?_eq_some_iff.mp hl).1
  have hj' : (S ++ [MO.lst true []])[j]? = some (.dic true (jarK l a b)) := by rw [List.getElem?_append_left hjl]; exact hj
  have hl' : (S ++ [MO.lst true []])[l]? = some (.lst true ((xs ++ [x]).map W.int)) := by rw [List.getElem?_append_left hll]; exact hl
  have hn : (S ++ [MO.lst true []])[S.length]? = some (.lst true []) := by simp
  have he := eq_nil hl' hn
  have hxe : (xs ++ [x]).isEmpty = false := by cases xs <;> rfl
  rw [hxe] at he
  generalize hS1 : S ++ [MO.lst true []] = S1 at hj' hl' he ⊢
  have hl1 : l < S1.length := (List.getElem?_eq_some_iff.mp hl').1
  have hl2 : (S1.set l (.lst true (xs.map W.int)))[l]? = some (.lst true (xs.map W.int)) := List.getElem?_set_self hl1
  have hj2 : (S1.set l (.lst true (xs.map W.int)))[j]? = some (.dic true (jarK l a b)) := by rw [List.getElem?_set_ne (Ne.symm ne)]; exact hj'
  have n1 : newL [] S = some (.ok (.ref S.length) S1) := by rw [← hS1]; rfl
  rw [call_eq (fd := DL) hF rfl]
  have c1 : runT G (callAt G F d) (.cmp .lt (.var 1) (.cst (.int 2))) (startE 4 [.ref j, .int m]) S = some (.ok false S) := by
    simp [runT, runE, startE, cmpW, h]
  have c2 : runT G (callAt G F d) (.cmp .ne (.idx (.var 0) (.cst (.str "far"))) (.lst .nil)) (startE 4 [.ref j, .int m]) S = some (.ok true S1) := by
    simp only [runT, runE, runEs, startE, List.map_cons, List.map_nil, List.cons_append, List.getElem?_cons_zero, okW_eq, Rs.bind_ok, ix_jar hj (v_far l a b), liftW_some, List.length_nil, Nat.zero_le, if_true, n1, cmpW, he, Option.map_some]
    rfl
  have c3 : runS G (callAt G F d) (.asg (.name 3) (.mth .pop (.idx (.var 0) (.cst (.str "far"))) .nil)) (startE 4 [.ref j, .int m]) S1 = some (.next [some (.ref j), some (.int m), none, some (.int x)] (S1.set l (.lst true (xs.map W.int)))) := by
    simp only [runS, runE, runEs, startE, List.map_cons, List.map_nil, List.cons_append, List.getElem?_cons_zero, okW_eq, Rs.bind_ok, ix_jar hj' (v_far l a b), liftW_some, recv_of hl' (show Mt.pop ≠ .get1 by decide), if_true, pop_of hl', thenS_ok]
    rfl
  have body : ∃ ys : List Int, ys.length ≤ xs.length + 1 ∧ runS G (callAt G F d) (.ife (.cmp .ge (.var 3) (.var 1)) (.cons (.expr (.mth .append (.idx (.var 0) (.cst (.str "far"))) (.cons (.bin .fdiv (.var 3) (.var 1)) .nil))) .nil) .nil) [some (.ref j), some (.int m), none, some (.int x)] (S1.set l (.lst true (xs.map W.int))) =
      some (.next [some (.ref j), some (.int m), none, some (.int x)] (S1.set l (.lst true (ys.map W.int)))) := by
    by_cases hge : m ≤ x
    · refine ⟨xs ++ [x.fdiv m], by simp, ?_⟩
      rw [ife_true (S' := S1.set l (.lst true (xs.map W.int))) (by simp [runT, runE, cmpW, hge])]
      have c4 : runS G (callAt G F d) (.expr (.mth .append (.idx (.var 0) (.cst (.str "far"))) (.cons (.bin .fdiv (.var 3) (.var 1)) .nil))) [some (.ref j), some (.int m), none, some (.int x)] (S1.set l (.lst true (xs.map W.int))) = some (.next [some (.ref j), some (.int m), none, some (.int x)] (S1.set l (.lst true ((xs ++ [x.fdiv m]).map W.int)))) := by
        simp only [runS, runE, runEs, List.getElem?_cons_zero, List.getElem?_cons_succ, okW_eq, Rs.bind_ok, ix_jar hj2 (v_far l a b), liftW_some, recv_of hl2 (show Mt.append ≠ .get1 by decide), if_true, div_of (show m ≠ 0 by omega) (show m.natAbs < 1073741824 by omega), app_of hl2 hx, thenS_ok, List.set_set]
      rw [seq_next c4, run_nil]
    · refine ⟨xs, by omega, ?_⟩
      rw [ife_false (S' := S1.set l (.lst true (xs.map W.int))) (by simp [runT, runE, cmpW, hge]), run_nil]
  obtain ⟨ys, hy, c5⟩ := body
  refine ⟨ys, hy, ?_⟩
  have c6 : runS G (callAt G F d) (.ret (.bin .mod (.blt .int (.cons (.var 3) .nil)) (.var 1))) [some (.ref j), some (.int m), none, some (.int x)] (S1.set l (.lst true (ys.map W.int))) = some (.ret (.int (x.fmod m)) (S1.set l (.lst true (ys.map W.int)))) := by
    simp only [runS, runE, runEs, List.getElem?_cons_zero, List.getElem?_cons_succ, okW_eq, Rs.bind_ok, int_of, mod_of (show m ≠ 0 by omega), thenS_ok]
  have c7 : runS G (callAt G F d) (.ife (.cmp .lt (.var 1) (.cst (.int 2))) (.cons (.ret (.cst (.int 0))) .nil) .nil) (startE 4 [.ref j, .int m]) S = some (.next (startE 4 [.ref j, .int m]) S) := by
    rw [ife_false c1, run_nil]
  unfold DL
  simp only
  rw [seq_next c7, seq_ret]
  · rfl
  · rw [ife_true c2, seq_next c3, seq_next c5, seq_ret c6]
theorem set_turn {S : Sto} {j l : Nat} {a b c : Int} (h : S[j]? = some (.dic true (jarK l a b))) : setW S (.ref j) (.str "times") (.int c) = some (S.set j (.dic true (jarK l a c))) := by
  have : (jarK l a b).length < sizeLine := by show 3 < sizeLine; decide
  simp only [setW, h, keyW]
  rw [if_pos this, p_turn]
theorem draw_near {G : List W} {F : List FD} {fi : Nat} (hF : F[fi]? = some DL) {d j l : Nat} {S : Sto} {m a b : Int} (h : ¬ m < 2) (hj : S[j]? = some (.dic true (jarK l a b))) (hl : S[l]? = some (.lst true [])) (hm : m < 1073741824) :
    ∃ i : Int, callAt G F (d + 1) fi [.ref j, .int m] S = some (.ok (.int (i.fmod m)) ((S ++ [MO.lst true []]).set j (MO.dic true (jarK l a (b + 1))))) := by
  have hjl : j < S.length := (List.getElem?_eq_some_iff.mp hj).1
  have hll : l < S.length := (List.getElem?_eq_some_iff.mp hl).1
  have hj' : (S ++ [MO.lst true []])[j]? = some (.dic true (jarK l a b)) := by rw [List.getElem?_append_left hjl]; exact hj
  have hl' : (S ++ [MO.lst true []])[l]? = some (.lst true (([] : List Int).map W.int)) := by rw [List.getElem?_append_left hll]; exact hl
  have hn : (S ++ [MO.lst true []])[S.length]? = some (.lst true []) := by simp
  have he := eq_nil hl' hn
  generalize hS1 : S ++ [MO.lst true []] = S1 at hj' hl' he ⊢
  have hj1 : j < S1.length := (List.getElem?_eq_some_iff.mp hj').1
  have hj2 : (S1.set j (.dic true (jarK l a (b + 1))))[j]? = some (.dic true (jarK l a (b + 1))) := List.getElem?_set_self hj1
  have n1 : newL [] S = some (.ok (.ref S.length) S1) := by rw [← hS1]; rfl
  rw [call_eq (fd := DL) hF rfl]
  have c1 : runT G (callAt G F d) (.cmp .lt (.var 1) (.cst (.int 2))) (startE 4 [.ref j, .int m]) S = some (.ok false S) := by
    simp [runT, runE, startE, cmpW, h]
  have c2 : runT G (callAt G F d) (.cmp .ne (.idx (.var 0) (.cst (.str "far"))) (.lst .nil)) (startE 4 [.ref j, .int m]) S = some (.ok false S1) := by
    simp only [runT, runE, runEs, startE, List.map_cons, List.map_nil, List.cons_append, List.getElem?_cons_zero, okW_eq, Rs.bind_ok, ix_jar hj (v_far l a b), liftW_some, List.length_nil, Nat.zero_le, if_true, n1, cmpW, he, Option.map_some]
    rfl
  have c3 : runS G (callAt G F d) (.setIx (.var 0) (.cst (.str "times")) (.bin .add (.idx (.var 0) (.cst (.str "times"))) (.cst (.int 1)))) (startE 4 [.ref j, .int m]) S1 = some (.next [some (.ref j), some (.int m), none, none] (S1.set j (.dic true (jarK l a (b + 1))))) := by
    simp only [runS, runE, startE, List.map_cons, List.map_nil, List.cons_append, List.getElem?_cons_zero, okW_eq, Rs.bind_ok, ix_jar hj' (v_turn l a b), liftW_some, add_of, thenS_ok, set_turn hj', Option.map_some]
    rfl
  generalize h1 : (a + 2654435761 * (b + 1)).fmod 4294967279 = one
  have b1 : 0 ≤ one ∧ one < 4294967279 := by
    rw [← h1]
    exact ⟨Int.fmod_nonneg_of_pos _ (by decide), Int.fmod_lt_of_pos _ (by decide)⟩
  generalize h2 : (one * one + 40503 * (b + 1) + 17).fmod 4294967231 = two
  have b2 : 0 ≤ two ∧ two < 4294967231 := by
    rw [← h2]
    exact ⟨Int.fmod_nonneg_of_pos _ (by decide), Int.fmod_lt_of_pos _ (by decide)⟩
  have c4 : runS G (callAt G F d) (.asg (.name 2) (.bin .mod (.blt .int (.cons (.bin .add (.idx (.var 0) (.cst (.str "stirred"))) (.bin .mul (.cst (.int 2654435761)) (.idx (.var 0) (.cst (.str "times"))))) .nil)) (.cst (.int 4294967279)))) [some (.ref j), some (.int m), none, none] (S1.set j (.dic true (jarK l a (b + 1)))) =
      some (.next [some (.ref j), some (.int m), some (.int one), none] (S1.set j (.dic true (jarK l a (b + 1))))) := by
    simp only [runS, runE, runEs, List.getElem?_cons_zero, List.getElem?_cons_succ, okW_eq, Rs.bind_ok, ix_jar hj2 (v_turn l a (b + 1)), ix_jar hj2 (v_sti l a (b + 1)), liftW_some, mul_of (.inl ⟨show -(2 ^ 64) < (2654435761 : Int) by decide, show (2654435761 : Int) < 2 ^ 64 by decide⟩), add_of, int_of, mod_of (show (4294967279 : Int) ≠ 0 by decide), thenS_ok, h1]
    rfl
  have c5 : runS G (callAt G F d) (.asg (.name 2) (.bin .mod (.blt .int (.cons (.bin .add (.bin .add (.bin .mul (.var 2) (.var 2)) (.bin .mul (.cst (.int 40503)) (.idx (.var 0) (.cst (.str "times"))))) (.cst (.int 17))) .nil)) (.cst (.int 4294967231)))) [some (.ref j), some (.int m), some (.int one), none] (S1.set j (.dic true (jarK l a (b + 1)))) =
      some (.next [some (.ref j), some (.int m), some (.int two), none] (S1.set j (.dic true (jarK l a (b + 1))))) := by
    simp only [runS, runE, runEs, List.getElem?_cons_zero, List.getElem?_cons_succ, okW_eq, Rs.bind_ok, ix_jar hj2 (v_turn l a (b + 1)), liftW_some, mul_of (i := one) (k := one) (.inl ⟨by omega, by omega⟩), mul_of (.inl ⟨show -(2 ^ 64) < (40503 : Int) by decide, show (40503 : Int) < 2 ^ 64 by decide⟩), add_of, int_of, mod_of (show (4294967231 : Int) ≠ 0 by decide), thenS_ok, h2]
    rfl
  generalize h3 : (two * two + a).fmod 4294967197 = three
  have c5' : runS G (callAt G F d) (.asg (.name 2) (.bin .mod (.blt .int (.cons (.bin .add (.bin .mul (.var 2) (.var 2)) (.idx (.var 0) (.cst (.str "stirred")))) .nil)) (.cst (.int 4294967197)))) [some (.ref j), some (.int m), some (.int two), none] (S1.set j (.dic true (jarK l a (b + 1)))) =
      some (.next [some (.ref j), some (.int m), some (.int three), none] (S1.set j (.dic true (jarK l a (b + 1))))) := by
    simp only [runS, runE, runEs, List.getElem?_cons_zero, List.getElem?_cons_succ, okW_eq, Rs.bind_ok, ix_jar hj2 (v_sti l a (b + 1)), liftW_some, mul_of (i := two) (k := two) (.inl ⟨by omega, by omega⟩), add_of, int_of, mod_of (show (4294967197 : Int) ≠ 0 by decide), thenS_ok, h3]
    rfl
  refine ⟨three.fdiv 128, ?_⟩
  have c6 : runS G (callAt G F d) (.ret (.bin .mod (.blt .int (.cons (.bin .fdiv (.var 2) (.cst (.int 128))) .nil)) (.var 1))) [some (.ref j), some (.int m), some (.int three), none] (S1.set j (.dic true (jarK l a (b + 1)))) =
      some (.ret (.int ((three.fdiv 128).fmod m)) (S1.set j (.dic true (jarK l a (b + 1))))) := by
    simp only [runS, runE, runEs, List.getElem?_cons_zero, List.getElem?_cons_succ, okW_eq, Rs.bind_ok, int_of, div_of (show (128 : Int) ≠ 0 by decide) (show (128 : Int).natAbs < 1073741824 by decide), mod_of (show m ≠ 0 by omega), thenS_ok]
  have c7 : runS G (callAt G F d) (.ife (.cmp .lt (.var 1) (.cst (.int 2))) (.cons (.ret (.cst (.int 0))) .nil) .nil) (startE 4 [.ref j, .int m]) S = some (.next (startE 4 [.ref j, .int m]) S) := by
    rw [ife_false c1, run_nil]
  unfold DL
  simp only
  rw [seq_next c7]
  have c8 : ∀ A, runS G (callAt G F d) (.ife (.cmp .ne (.idx (.var 0) (.cst (.str "far"))) (.lst .nil)) A .nil) (startE 4 [.ref j, .int m]) S = some (.next (startE 4 [.ref j, .int m]) S1) := fun A => by
    rw [ife_false c2, run_nil]
  rw [seq_next (c8 _), seq_next c3, seq_next c4, seq_next c5, seq_next c5', seq_ret c6]
  rfl
/-- the draw keeps to the jar -/
theorem draw_ok {G : List W} {F : List FD} {fi : Nat} (hF : F[fi]? = some DL) {d j l : Nat} {R : Rsc} (x : Ext0 (jarR j l) R) {S : Sto} {m : Int} (h0 : 0 ≤ m) (hm : m < 1073741824) (i : R.inv S) : OkE R S (.int (some 0) (some (if m ≤ 1 then 0 else m - 1))) (callAt G F (d + 1) fi [.ref j, .int m] S) := by
  by_cases hs : m < 2
  · rw [draw_small hF hs]
    refine .pure i ?_
    unfold gam
    exact ⟨0, rfl, Int.le_refl _, by show (0 : Int) ≤ _; split <;> omega⟩
  · obtain ⟨ne, ⟨a, b, hj⟩, ⟨xs, hl, hz⟩⟩ := x.inv S i
    have hjl : j < S.length := (List.getElem?_eq_some_iff.mp hj).1
    have hll : l < S.length := (List.getElem?_eq_some_iff.mp hl).1
    -- the result's place
    have res : ∀ (k : Int) (S' : Sto), Le R S S' → OkE R S (.int (some 0) (some (if m ≤ 1 then 0 else m - 1))) (some (.ok (.int (k.fmod m)) S')) := fun k S' e => by
      refine ⟨_, S', rfl, e, ?_⟩
      unfold gam
      have q1 := Int.fmod_nonneg_of_pos k (b := m) (by omega)
      have q2 := Int.fmod_lt_of_pos k (b := m) (by omega)
      exact ⟨_, rfl, q1, by show k.fmod m ≤ _; split <;> omega⟩
    -- a store that differs at p alone, one of the jar's cells, and by a new cell
    have le_ : ∀ (p : Nat) (o : MO), (jarR j l).own p → p < S.length → Jar j l ((S ++ [MO.lst true []]).set p o) → Le R S ((S ++ [MO.lst true []]).set p o) := fun p o hp hpl hJ => by
      have off : ∀ n, n < S.length → n ≠ p → ((S ++ [MO.lst true []]).set p o)[n]? = S[n]? := fun n hn hne => by
        rw [List.getElem?_set_ne (Ne.symm hne), List.getElem?_append_left hn]
      refine ⟨by simp, fun n hn no => off n hn fun e => no (x.sub n (e ▸ hp)), x.back S _ i hJ fun n o1 o2 => off n (R.lt S n i o1) fun e => o2 (e ▸ hp)⟩
    have in1 : ∀ n, n < S.length → (S ++ [MO.lst true []])[n]? = S[n]? := fun n hn => List.getElem?_append_left hn
    rcases List.eq_nil_or_concat xs with rfl | ⟨ys, y, rfl⟩
    · obtain ⟨k, e⟩ := draw_near (d := d) hF hs hj hl hm
      rw [e]
      refine res _ _ (le_ j _ (.inl rfl) hjl ⟨ne, ⟨a, b + 1, List.getElem?_set_self (by simp; omega)⟩, ⟨[], by rw [List.getElem?_set_ne ne, in1 l hll]; exact hl, by simp⟩⟩)
    · rw [List.concat_eq_append] at hl hz
      obtain ⟨zs, hzs, e⟩ := draw_far (d := d) hF hs hj hl ne hm (by simp at hz; omega)
      rw [e]
      refine res _ _ (le_ l _ (.inr rfl) hll ⟨ne, ⟨a, b, by rw [List.getElem?_set_ne (Ne.symm ne), in1 j hjl]; exact hj⟩, ⟨zs, List.getElem?_set_self (by simp; omega), by simp at hz; omega⟩⟩)
end Lo
/-! the loom of the laws: mixing -/
namespace Lo
open PySem L2 Co
def mxC : CE := .cmp .ne (.var 2) (.lst .nil)
def mxB (fi : Nat) : CSs := .cons (.expr (.mth .append (.var 3) (.cons (.mth .popAt (.var 2) (.cons (.call fi (.cons (.var 0) (.cons (.blt .len (.cons (.var 2) .nil)) .nil)) .nil []) .nil)) .nil))) .nil
def MX (fi : Nat) : FD := ⟨2, 4, .cons (.asg (.tup [.name 2, .name 3]) (.tup (.cons (.blt .list (.cons (.var 1) .nil)) (.cons (.lst .nil) .nil)))) (.cons (.whil mxC (mxB fi)) (.cons (.ret (.var 3)) .nil))⟩
def Flat (w : W) : Prop := ∃ d, (∀ S n, readD (n + 1) S w = some d) ∧ PyData.canLay0 d = true ∧ d.depth = 0
theorem Flat.str {x : Str} (h : PyData.strOk x = true) : Flat (.str x) := ⟨.str x, fun _ _ => rfl, by simpa only [PyData.canLay0] using h, rfl⟩
theorem Flat.int (x : Int) : Flat (.int x) := ⟨.int x, fun _ _ => rfl, rfl, rfl⟩
theorem flat_read {S : Sto} {n : Nat} : ∀ {ws : List W}, (∀ w ∈ ws, Flat w) → ∃ ds, ws.mapM (readD (n + 1) S) = some ds ∧ PyData.canLayAll0 ds = true ∧ PyData.depthAll ds = 0 ∧ ds.isEmpty = ws.isEmpty
  | [], _ => ⟨[], rfl, rfl, rfl, rfl⟩
  | w :: ws, h => by
    obtain ⟨d, h1, h2, h3⟩ := h w (List.mem_cons_self ..)
    obtain ⟨ds, k1, k2, k3, _⟩ := flat_read (S := S) (n := n) (ws := ws) fun w hw => h w (List.mem_cons_of_mem _ hw)
    refine ⟨d :: ds, ?_, ?_, ?_, rfl⟩
    · simp only [List.mapM_cons, h1 S n, k1]
      rfl
    · simp only [PyData.canLayAll0, h2, k2, Bool.and_self]
    · simp only [PyData.depthAll, h3, k3, Nat.max_self]
theorem eq_nilF {S : Sto} {l n : Nat} {ws : List W} (hf : ∀ w ∈ ws, Flat w) (h1 : S[l]? = some (.lst true ws)) (h2 : S[n]? = some (.lst true [])) : eqW S (.ref l) (.ref n) = some (ws.isEmpty) := by
  obtain ⟨ds, k1, k2, k3, k4⟩ := flat_read (S := S) (n := 58) hf
  have r1 : readD 60 S (.ref l) = some (.list ds) := by
    simp only [readD, h1]
    exact congrArg (Option.map PyData.list) k1
  have r2 : readD 60 S (.ref n) = some (.list []) := by
    simp [readD, h2]
  show eqD S (.ref l) (.ref n) = _
  unfold eqD
  rw [r1, r2]
  have sh1 : SeqAt.shaped (.list ds) = true := by
    simp only [SeqAt.shaped, PyData.canLay0, k2, PyData.depth, k3]
    decide
  have sh2 : SeqAt.shaped (.list []) = true := by decide
  simp only [sh1, sh2, and_self, if_true]
  rw [← k4]
  cases ds <;> rfl
theorem seqIx {i : Int} {n : Nat} (h0 : 0 ≤ i) (h1 : i < n) : seqIndex? i n = some i.toNat := by
  unfold seqIndex?
  have : ¬ i < 0 := by omega
  simp [this, h0, h1]
theorem mx_loop {G : List W} {F : List FD} {fi : Nat} (hF : F[fi]? = some DL) {d j l : Nat} {R : Rsc} (x : Ext0 (jarR j l) R) {W1 : W} {n0 n1 : Nat} (o0 : ¬ R.own n0) (o1 : ¬ R.own n1) (hne : n0 ≠ n1) {S0 : Sto} (b0 : S0.length ≤ n0) (b1 : S0.length ≤ n1) :
    ∀ (k : Nat) (rest found : List W) (S : Sto), rest.length = k → k + found.length ≤ 1000 → (∀ w ∈ rest, Flat w) → Le R S0 S → S[n0]? = some (.lst true rest) → S[n1]? = some (.lst true found) →
    ∃ S' found', whileW (runT G (callAt G F (d + 1)) mxC) (fun ρ' S' => runSs G (callAt G F (d + 1)) (mxB fi) ρ' S') [some (.ref j), some W1, some (.ref n0), some (.ref n1)] S = some (.next [some (.ref j), some W1, some (.ref n0), some (.ref n1)] S') ∧ Le R S0 S' ∧ S'[n1]? = some (.lst true found') ∧ found'.length = found.length + k ∧ ∀ w ∈ found', w ∈ found ∨ w ∈ rest := by
  intro k
  induction k with
  | zero =>
    intro rest found S hk hz hf hL c0 c1
    have hr : rest = [] := List.length_eq_zero_iff.mp hk
    subst hr
    have l0 : n0 < S.length := (List.getElem?_eq_some_iff.mp c0).1
    have l1 : n1 < S.length := (List.getElem?_eq_some_iff.mp c1).1
    have c0' : (S ++ [MO.lst true []])[n0]? = some (.lst true []) := by rw [List.getElem?_append_left l0]; exact c0
    have he := eq_nilF hf c0' (show (S ++ [MO.lst true []])[S.length]? = some (.lst true []) by simp)
    refine ⟨S ++ [MO.lst true []], found, ?_, hL.trans (.new hL.inv _), by rw [List.getElem?_append_left l1]; exact c1, by omega, fun w hw => .inl hw⟩
    rw [whileW_eq]
    have n1' : newL [] S = some (.ok (.ref S.length) (S ++ [MO.lst true []])) := rfl
    have hc : runT G (callAt G F (d + 1)) mxC [some (.ref j), some W1, some (.ref n0), some (.ref n1)] S = some (.ok false (S ++ [MO.lst true []])) := by
      simp only [mxC, runT, runE, runEs, List.getElem?_cons_zero, List.getElem?_cons_succ, okW_eq, Rs.bind_ok, List.length_nil, Nat.zero_le, if_true, n1', cmpW, he, Option.map_some, liftW_some]
      rfl
    rw [hc, thenS_ok, if_neg (by decide)]
  | succ k ih =>
    intro rest found S hk hz hf hL c0 c1
    have l0 : n0 < S.length := (List.getElem?_eq_some_iff.mp c0).1
    have l1 : n1 < S.length := (List.getElem?_eq_some_iff.mp c1).1
    have c0' : (S ++ [MO.lst true []])[n0]? = some (.lst true rest) := by rw [List.getElem?_append_left l0]; exact c0
    have c1' : (S ++ [MO.lst true []])[n1]? = some (.lst true found) := by rw [List.getElem?_append_left l1]; exact c1
    have he := eq_nilF hf c0' (show (S ++ [MO.lst true []])[S.length]? = some (.lst true []) by simp)
    have hre : rest.isEmpty = false := by cases rest with | nil => cases hk | cons _ _ => rfl
    rw [hre] at he
    have n1' : newL [] S = some (.ok (.ref S.length) (S ++ [MO.lst true []])) := rfl
    have hL1 : Le R S0 (S ++ [MO.lst true []]) := hL.trans (.new hL.inv _)
    generalize S ++ [MO.lst true []] = S1 at c0' c1' he n1' hL1
    have hc : runT G (callAt G F (d + 1)) mxC [some (.ref j), some W1, some (.ref n0), some (.ref n1)] S = some (.ok true S1) := by
      simp only [mxC, runT, runE, runEs, List.getElem?_cons_zero, List.getElem?_cons_succ, okW_eq, Rs.bind_ok, List.length_nil, Nat.zero_le, if_true, n1', cmpW, he, Option.map_some, liftW_some]
      rfl
    -- the draw
    have x2 : Ext0 (jarR j l) ((R.shut n0 (.lst true rest)).shut n1 (.lst true found)) := (x.shut o0).shut fun h => h.elim o1 fun e => hne e.symm
    have i2 : ((R.shut n0 (.lst true rest)).shut n1 (.lst true found)).inv S1 := ⟨⟨hL1.inv, c0'⟩, c1'⟩
    obtain ⟨w, S2, e2, le2, g2⟩ := draw_ok (G := G) hF (d := d) x2 (m := (rest.length : Int)) (by omega) (by omega) i2
    unfold gam at g2
    obtain ⟨i, rfl, q1, q2⟩ := g2
    have q1' : 0 ≤ i := q1
    have q2' : i ≤ (if (rest.length : Int) ≤ 1 then 0 else (rest.length : Int) - 1) := q2
    have hi : i < (rest.length : Nat) := by split at q2' <;> omega
    obtain ⟨⟨inv2, d0⟩, d1⟩ := le2.inv
    have hit : i.toNat < rest.length := by omega
    obtain ⟨y, hy⟩ : ∃ y, rest[i.toNat]? = some y := ⟨rest[i.toNat], by simp [hit]⟩
    have hlen : bltW S1 .len [.ref n0] = some (.ok (.int (rest.length : Nat)) S1) := by
      simp [bltW, lenW, itemsW, c0']
    have k0 : n0 < S2.length := (List.getElem?_eq_some_iff.mp d0).1
    have k1 : n1 < S2.length := (List.getElem?_eq_some_iff.mp d1).1
    have hpop : mthW S2 .popAt (.ref n0) [.int i] = some (.ok y (S2.set n0 (.lst true (rest.eraseIdx i.toNat)))) := by
      simp only [mthW, d0]
      rw [if_pos (by omega), seqIx q1' hi]
      simp only [hy]
      rfl
    have d1' : (S2.set n0 (.lst true (rest.eraseIdx i.toNat)))[n1]? = some (.lst true found) := by
      rw [List.getElem?_set_ne hne]
      exact d1
    have happ : mthW (S2.set n0 (.lst true (rest.eraseIdx i.toNat))) .append (.ref n1) [y] = some (.ok .non ((S2.set n0 (.lst true (rest.eraseIdx i.toNat))).set n1 (.lst true (found ++ [y])))) := by
      have : found.length < sizeLine := Nat.lt_of_le_of_lt (show found.length ≤ 1000 by omega) (by decide)
      simp [mthW, d1', this]
    have hb : runSs G (callAt G F (d + 1)) (mxB fi) [some (.ref j), some W1, some (.ref n0), some (.ref n1)] S1 = some (.next [some (.ref j), some W1, some (.ref n0), some (.ref n1)] ((S2.set n0 (.lst true (rest.eraseIdx i.toNat))).set n1 (.lst true (found ++ [y])))) := by
      unfold mxB
      rw [seq_next (ρ' := [some (.ref j), some W1, some (.ref n0), some (.ref n1)]) (S' := (S2.set n0 (.lst true (rest.eraseIdx i.toNat))).set n1 (.lst true (found ++ [y]))), run_nil]
      simp only [runS, runE, runEs, List.getElem?_cons_zero, List.getElem?_cons_succ, okW_eq, Rs.bind_ok, recv_of c1' (show Mt.append ≠ .get1 by decide), recv_of c0' (show Mt.popAt ≠ .get1 by decide), if_true, hlen, List.filterMap_nil, List.append_nil, e2, hpop, happ, thenS_ok]
    have off : ∀ n, n ≠ n0 → n ≠ n1 → ((S2.set n0 (.lst true (rest.eraseIdx i.toNat))).set n1 (.lst true (found ++ [y])))[n]? = S2[n]? := fun n h0 h1 => by
      rw [List.getElem?_set_ne (Ne.symm h1), List.getElem?_set_ne (Ne.symm h0)]
    have le4 : Le R S0 ((S2.set n0 (.lst true (rest.eraseIdx i.toNat))).set n1 (.lst true (found ++ [y]))) := by
      refine ⟨?_, fun n hn no => ?_, R.st S2 _ inv2 fun n o => off n (fun e => o0 (e ▸ o)) fun e => o1 (e ▸ o)⟩
      · rw [List.length_set, List.length_set]
        exact Nat.le_trans hL1.len le2.len
      · rw [off n (by omega) (by omega), le2.get n (Nat.lt_of_lt_of_le hn hL1.len) fun h => ?_, hL1.get n hn no]
        rcases h with (h | h) | h
        · exact no h
        · omega
        · omega
    have hlen2 : (rest.eraseIdx i.toNat).length = k := by
      rw [List.length_eraseIdx_of_lt hit]
      omega
    obtain ⟨S5, f5, r1, r2, r3, r4, r5⟩ := ih (rest.eraseIdx i.toNat) (found ++ [y]) _ hlen2 (by simp; omega) (fun w hw => hf w (List.mem_of_mem_eraseIdx hw)) le4
      (by rw [List.getElem?_set_ne (Ne.symm hne), List.getElem?_set_self k0]) (by rw [List.getElem?_set_self (by rw [List.length_set]; exact k1)])
    refine ⟨S5, f5, ?_, r2, r3, by rw [r4]; simp; omega, fun w hw => ?_⟩
    · rw [whileW_eq, hc, thenS_ok, if_pos rfl, hb, turnS_next, r1]
    · rcases r5 w hw with h | h
      · rcases List.mem_append.mp h with h | h
        · exact .inl h
        · rw [List.mem_singleton.mp h]
          exact .inr (List.mem_of_getElem? hy)
      · exact .inr (List.mem_of_mem_eraseIdx h)
/-- the items mixed -/
theorem mixed_ok {G : List W} {F : List FD} {fi mi : Nat} (hF : F[fi]? = some DL) (hM : F[mi]? = some (MX fi)) {d j l : Nat} {R : Rsc} (x : Ext0 (jarR j l) R) {S : Sto} {w : W} {ws : List W} {a : Ab} {lo hi : Nat} (i : R.inv S) (hw : itemsW S w = some ws) (hf : ∀ w ∈ ws, Flat w) (ha : ∀ w ∈ ws, gam R S a w) (h1 : lo ≤ ws.length) (h2 : ws.length ≤ hi) (h3 : ws.length ≤ 1000) :
    OkE R S (.lsts a lo hi) (callAt G F (d + 2) mi [.ref j, w] S) := by
  rw [call_eq (fd := MX fi) hM rfl]
  have hn : ∀ n, S.length ≤ n → ¬ R.own n := fun n hn o => absurd (R.lt S n i o) (by omega)
  have cut : (S ++ [MO.lst true ws, MO.lst true []]) = (S ++ [MO.lst true ws]) ++ [MO.lst true []] := by simp
  have hL : Le R S (S ++ [MO.lst true ws, MO.lst true []]) := by
    rw [cut]
    exact (Le.new i _).trans (Le.new (Le.new i _).inv _)
  obtain ⟨S5, f5, r1, r2, r3, r4, r5⟩ := mx_loop (G := G) hF (d := d) x (W1 := w) (n0 := S.length) (n1 := S.length + 1) (hn _ (Nat.le_refl _)) (hn _ (by omega)) (by omega) (S0 := S) (Nat.le_refl _) (by omega) ws.length ws [] _ rfl (by simpa using h3) hf hL (by simp) (by simp)
  have e1 : bltW S .list [w] = some (.ok (.ref S.length) (S ++ [MO.lst true ws])) := by
    simp only [bltW, hw]
    rfl
  have e2 : newL [] (S ++ [MO.lst true ws]) = some (.ok (.ref (S.length + 1)) (S ++ [MO.lst true ws, MO.lst true []])) := by
    rw [cut]
    unfold newL
    simp
  have a1 : runS G (callAt G F (d + 1)) (.asg (.tup [.name 2, .name 3]) (.tup (.cons (.blt .list (.cons (.var 1) .nil)) (.cons (.lst .nil) .nil)))) (startE 4 [.ref j, w]) S = some (.next [some (.ref j), some w, some (.ref S.length), some (.ref (S.length + 1))] (S ++ [MO.lst true ws, MO.lst true []])) := by
    have z2 : 2 ≤ sizeLine := by decide
    simp only [runS, runE, runEs, startE, List.map_cons, List.map_nil, List.cons_append, List.getElem?_cons_zero, List.getElem?_cons_succ, okW_eq, Rs.bind_ok, e1, e2, List.length_cons, List.length_nil, Nat.zero_le, z2, if_true, thenS_ok]
    rfl
  have a2 : runS G (callAt G F (d + 1)) (.whil mxC (mxB fi)) [some (.ref j), some w, some (.ref S.length), some (.ref (S.length + 1))] (S ++ [MO.lst true ws, MO.lst true []]) = some (.next [some (.ref j), some w, some (.ref S.length), some (.ref (S.length + 1))] S5) := by
    unfold runS
    exact r1
  refine ⟨.ref (S.length + 1), S5, ?_, r2, ?_⟩
  · unfold MX
    simp only
    rw [seq_next a1, seq_next a2, seq_ret (w := .ref (S.length + 1)) (S' := S5)]
    · rfl
    · simp only [runS, runE, List.getElem?_cons_zero, List.getElem?_cons_succ, okW_eq, thenS_ok]
  · unfold gam
    refine ⟨_, f5, rfl, hn _ (by omega), r3, ?_, ?_, fun y hy => ?_⟩
    · rw [r4]; simp; omega
    · rw [r4]; simp; omega
    · rcases r5 y hy with h | h
      · cases h
      · exact gam_le r2 _ _ (ha y h)
end Lo
/-! steps of the core, for laws -/
namespace Lo
open PySem L2 Co
section
variable {G : List W}
def Tyb (S : Sto) (w : W) : Prop := ∀ t, ∃ b, isT S w t = some b
theorem isi_str {S : Sto} {w : W} (h : Tyb S w) (hw : ∀ x, w ≠ .str x) : isT S w .str = some false := by
  obtain ⟨b, hb⟩ := h .str
  cases w with
  | str x => exact absurd rfl (hw x)
  | ref n =>
    simp only [isT] at hb ⊢
    split at hb
    · rfl
    · rfl
    · cases hb
  | _ => rfl
theorem get_app {S : Sto} {x : List MO} {n : Nat} {o : MO} (h : S[n]? = some o) : (S ++ x)[n]? = some o := by
  rw [List.getElem?_append_left (List.getElem?_eq_some_iff.mp h).1]
  exact h
theorem Tyb.app {S : Sto} {x : List MO} {w : W} (h : Tyb S w) : Tyb (S ++ x) w := fun t => by
  obtain ⟨b, hb⟩ := h t
  cases w with
  | ref n =>
    cases hn : S[n]? with
    | none => simp [isT, hn] at hb
    | some o =>
      refine ⟨b, ?_⟩
      rw [← hb]
      simp only [isT, hn, get_app (x := x) hn]
  | _ => exact ⟨b, hb⟩
def firstB (bad : Nat → W → Bool) : List W → Nat → Option Nat
  | [], _ => none
  | w :: ws, k => if bad k w = true then some k else firstB bad ws (k + 1)
theorem firstB_lt {bad : Nat → W → Bool} : ∀ {ws : List W} {k m : Nat}, firstB bad ws k = some m → m < k + ws.length
  | [], _, _, h => by cases h
  | w :: ws, k, m, h => by
    unfold firstB at h
    rw [List.length_cons]
    split at h
    · cases h; omega
    · have := firstB_lt h
      omega
theorem firstB_none {bad : Nat → W → Bool} : ∀ {ws : List W} {k : Nat}, firstB bad ws k = none → ∀ j w, ws[j]? = some w → bad (k + j) w = false
  | [], _, _, _, _, h => by simp at h
  | v :: ws, k, h, j, w, hw => by
    unfold firstB at h
    split at h
    · cases h
    · rename_i hb
      cases j with
      | zero =>
        simp at hw
        subst hw
        simpa using hb
      | succ j =>
        have := firstB_none h j w (by simpa using hw)
        rw [show k + (j + 1) = k + 1 + j by omega]
        exact this
theorem isi_tup {S : Sto} {w : W} (h : Tyb S w) (hw : ∀ x, w ≠ .tup x) : isT S w .tuple = some false := by
  obtain ⟨b, hb⟩ := h .tuple
  cases w with
  | tup x => exact absurd rfl (hw x)
  | ref n =>
    simp only [isT] at hb ⊢
    split at hb
    · rfl
    · rfl
    · cases hb
  | _ => rfl
theorem isi_ref {S : Sto} {n : Nat} (h : Tyb S (.ref n)) {t : Ty} (ht : t ≠ .list) (ht2 : t ≠ .dict) : isT S (.ref n) t = some false := by
  obtain ⟨b, hb⟩ := h t
  rw [hb]
  simp only [isT] at hb
  split at hb
  · cases t <;> simp_all
  · cases t <;> simp_all
  · cases hb
def isIntW : W → Bool
  | .int _ => true
  | _ => false
theorem chain3 {O : Orc} {lo hi i : Int} {a b c : CE} {ρ : En} {S : Sto} (ha : runE G O a ρ S = some (.ok (.int lo) S)) (hb : runE G O b ρ S = some (.ok (.int i) S)) (hc : runE G O c ρ S = some (.ok (.int hi) S)) : runE G O (.chain .le .le a b c) ρ S = some (.ok (.bl (decide (lo ≤ i) && decide (i ≤ hi))) S) := by
  by_cases h : lo ≤ i
  · simp [runE, ha, hb, hc, cmpW, h]
  · simp [runE, ha, hb, hc, cmpW, h]
theorem bool_or3 {O : Orc} {a b c : CE} {ρ : En} {S : Sto} {x y z : Bool} (ha : runT G O a ρ S = some (.ok x S)) (hb : x = false → runT G O b ρ S = some (.ok y S)) (hc : x = false → y = false → runT G O c ρ S = some (.ok z S)) :
    runT G O (.bool false (.cons a (.cons b (.cons c .nil)))) ρ S = some (.ok (x || y || z) S) := by
  cases x with
  | true => simp [runT, runBT, ha]
  | false =>
    cases y with
    | true => simp [runT, runBT, ha, hb rfl]
    | false => simp [runT, runBT, ha, hb rfl, hc rfl rfl]
theorem bool_and3 {O : Orc} {a b c : CE} {ρ : En} {S : Sto} {x y z : Bool} (ha : runE G O a ρ S = some (.ok (.bl x) S)) (hb : x = true → runE G O b ρ S = some (.ok (.bl y) S)) (hc : x = true → y = true → runE G O c ρ S = some (.ok (.bl z) S)) :
    runE G O (.bool true (.cons a (.cons b (.cons c .nil)))) ρ S = some (.ok (.bl (x && y && z)) S) := by
  cases x with
  | false => simp [runE, runB, ha, truW]
  | true =>
    cases y with
    | false => simp [runE, runB, ha, hb rfl, truW]
    | true => simp [runE, runB, ha, hb rfl, hc rfl rfl, truW]
theorem isi_at {O : Orc} {ρ : En} {S : Sto} {e : CE} {w : W} {t : Ty} {b : Bool} (h : runE G O e ρ S = some (.ok w S)) (hb : isT S w t = some b) : runE G O (.isi t e) ρ S = some (.ok (.bl b) S) := by
  have : bltW S (.isi t) [w] = some (.ok (.bl b) S) := by simp only [bltW, hb]; rfl
  unfold runE
  rw [h]
  exact this
theorem isiT_at {O : Orc} {ρ : En} {S : Sto} {e : CE} {w : W} {t : Ty} {b : Bool} (h : runE G O e ρ S = some (.ok w S)) (hb : isT S w t = some b) : runT G O (.not_ (.isi t e)) ρ S = some (.ok (!b) S) := by
  have e1 : runT G O (.isi t e) ρ S = (runE G O (.isi t e) ρ S).bind fun w S1 => liftW (truW S1 w) S1 := rfl
  rw [isi_at h hb] at e1
  unfold runT
  rw [e1]
  rfl
theorem call3_at {O : Orc} {f : Nat} {e1 e2 e3 : CE} {ρ : En} {S : Sto} {w1 w2 w3 r : W} (h1 : runE G O e1 ρ S = some (.ok w1 S)) (h2 : runE G O e2 ρ S = some (.ok w2 S)) (h3 : runE G O e3 ρ S = some (.ok w3 S)) (hc : O f [w1, w2, w3] S = some (.ok r S)) : runE G O (.call f (.cons e1 (.cons e2 (.cons e3 .nil))) .nil []) ρ S = some (.ok r S) := by
  simp [runE, runEs, h1, h2, h3, hc]
theorem notc_at {O : Orc} {f : Nat} {es ks : CEs} {pm : List Nat} {ρ : En} {S S' : Sto} {b : Bool} (h : runE G O (.call f es ks pm) ρ S = some (.ok (.bl b) S')) : runT G O (.not_ (.call f es ks pm)) ρ S = some (.ok (!b) S') := by
  have e1 : runT G O (.call f es ks pm) ρ S = (runE G O (.call f es ks pm) ρ S).bind fun w S1 => liftW (truW S1 w) S1 := rfl
  rw [h] at e1
  unfold runT
  rw [e1]
  rfl
theorem cst_at {O : Orc} {w : W} {ρ : En} {S : Sto} : runE G O (.cst w) ρ S = some (.ok w S) := by unfold runE; rfl
theorem readD_app {S : Sto} {x : List MO} : ∀ (n : Nat) (w : W) (d : PyData), readD n S w = some d → readD n (S ++ x) w = some d
  | 0, w, d, h => by cases h
  | n + 1, w, d, h => by
    have ih := readD_app (S := S) (x := x) n
    cases w with
    | tup ws =>
      simp only [readD, Option.map_eq_some_iff] at h ⊢
      obtain ⟨ds, h1, rfl⟩ := h
      exact ⟨ds, mapM_mono (fun a _ b e => ih a b e) h1, rfl⟩
    | ref k =>
      simp only [readD] at h
      cases hk : S[k]? with
      | none => rw [hk] at h; cases h
      | some o =>
        rw [hk] at h
        simp only [readD, get_app (x := x) hk]
        cases o with
        | lst b ws =>
          simp only [Option.map_eq_some_iff] at h ⊢
          obtain ⟨ds, h1, rfl⟩ := h
          exact ⟨ds, mapM_mono (fun a _ b e => ih a b e) h1, rfl⟩
        | dic b kvs =>
          simp only [Option.map_eq_some_iff] at h ⊢
          obtain ⟨ds, h1, rfl⟩ := h
          refine ⟨ds, mapM_mono (fun a _ b e => ?_) h1, rfl⟩
          simp only [Option.map_eq_some_iff] at e ⊢
          obtain ⟨c, q1, q2⟩ := e
          exact ⟨c, ih _ _ q1, q2⟩
    | _ => simpa [readD] using h
theorem repr_of {S : Sto} {w : W} {d : PyData} (h : readD 60 S w = some d) (h1 : d.showable = true) (h2 : d.shown.length ≤ sizeLine) (h3 : d.depth ≤ 60) : reprW S w = some d.shown := by
  unfold reprW
  rw [h]
  simp only
  rw [if_pos ⟨h1, h2, h3⟩]
theorem repr_small {S : Sto} {w : W} (h : ∃ d, readD 57 S w = some d ∧ d.showable = true ∧ d.shown.length ≤ 1000000 ∧ d.depth ≤ 57) : ∃ T, ∀ X, reprW (S ++ X) w = some T := by
  obtain ⟨d, h1, h2, h3, h4⟩ := h
  have e5 : (sizeLine : Nat) = 16777216 := by decide
  exact ⟨d.shown, fun X => repr_of (readD_le (readD_app _ _ _ h1) (by omega)) h2 (by omega) (by omega)⟩
theorem repr_tup2 (x : Str) (k : Nat) (hx : (reprText x).length ≤ 20) (hk : k ≤ 1000) : ∃ T, ∀ S, reprW S (.tup [.str x, .int (k : Nat)]) = some T := by
  have e : ∀ S, readD 60 S (.tup [.str x, .int (k : Nat)]) = some (.tuple [.str x, .int (k : Nat)]) := fun S => rfl
  have p : Pr [] 0 5 (.int (k : Nat)) := int_show (k := 4) (by decide) (by omega) (by decide)
  obtain ⟨d, p1, p2, p3, p4⟩ := p
  have : d = .int (k : Nat) := by cases p1; rfl
  subst this
  refine ⟨_, fun S => repr_of (e S) ?_ ?_ ?_⟩
  · simp only [PyData.showable, PyData.showableAll, Bool.true_and, Bool.and_true]
    simpa [PyData.showable] using p2
  · simp only [PyData.shown, PyData.shownAll]
    refine Nat.le_trans (len_tuple _) ?_
    simp only [piled_cons, piled_nil]
    have p3 : (Str.ofString (toString ((k : Nat) : Int))).length ≤ 5 := by simpa only [PyData.shown] using p3
    have e5 : (sizeLine : Nat) = 16777216 := by decide
    omega
  · show 1 ≤ 60
    decide
abbrev rp (e : CE) : CE := .blt .repr (.cons e .nil)
theorem rp_at {O : Orc} {e : CE} {ρ : En} {S S' : Sto} {w : W} {T : Str} (h : runE G O e ρ S = some (.ok w S')) (r : reprW S' w = some T) : runE G O (rp e) ρ S = some (.ok (.str T) S') := by
  have : bltW S' .repr [w] = some (.ok (.str T) S') := by simp only [bltW, r, Option.map_some, liftW_some]
  rw [blt_one, h]
  exact this
theorem ne_at {O : Orc} {a b : CE} {ρ : En} {S S' : Sto} {T : Str} (h : runE G O a ρ S = some (.ok (.str T) S')) (h2 : runE G O b ρ S' = some (.ok (.str T) S')) : runT G O (.cmp .ne a b) ρ S = some (.ok false S') := by
  have e : cmpW S' .ne (.str T) (.str T) = some false := by simp [cmpW, eqW]
  simp only [runT, h, h2, Rs.bind_ok, e, liftW_some]
theorem or3f {O : Orc} {a b c : CE} {ρ : En} {S S1 S2 S3 : Sto} (ha : runT G O a ρ S = some (.ok false S1)) (hb : runT G O b ρ S1 = some (.ok false S2)) (hc : runT G O c ρ S2 = some (.ok false S3)) : runT G O (.bool false (.cons a (.cons b (.cons c .nil)))) ρ S = some (.ok false S3) := by
  simp [runT, runBT, ha, hb, hc]
theorem tup2_at {O : Orc} {a b : CE} {ρ : En} {S S1 S2 : Sto} {x y : W} (ha : runE G O a ρ S = some (.ok x S1)) (hb : runE G O b ρ S1 = some (.ok y S2)) : runE G O (.tup (.cons a (.cons b .nil))) ρ S = some (.ok (.tup [x, y]) S2) := by
  have z2 : 2 ≤ sizeLine := by decide
  simp [runE, runEs, ha, hb, z2]
theorem var_at {O : Orc} {i : Nat} {ρ : En} {S : Sto} {w : W} (h : ρ[i]? = some (some w)) : runE G O (.var i) ρ S = some (.ok w S) := by
  simp [runE, h]
theorem asg_at {O : Orc} {t : Tg} {e : CE} {ρ ρ1 : En} {S S' : Sto} {w : W} (h : runE G O e ρ S = some (.ok w S')) (p : putT t w ρ = some ρ1) : runS G O (.asg t e) ρ S = some (.next ρ1 S') := by
  unfold runS
  rw [h]
  simp only [thenS_ok, p, Option.map_some]
def appS : CSs → CSs → CSs
  | .nil, b => b
  | .cons s r, b => .cons s (appS r b)
theorem appS_next {O : Orc} {G : List W} : ∀ (a : CSs) {b : CSs} {ρ ρ1 : En} {S S1 : Sto}, runSs G O a ρ S = some (.next ρ1 S1) → runSs G O (appS a b) ρ S = runSs G O b ρ1 S1
  | .nil, b, ρ, ρ1, S, S1, h => by rw [run_nil] at h; cases h; rfl
  | .cons s r, b, ρ, ρ1, S, S1, h => by
    show runSs G O (.cons s (appS r b)) ρ S = _
    unfold runSs at h
    conv => lhs; unfold runSs
    cases e : runS G O s ρ S with
    | none => rw [e] at h; cases h
    | some x =>
      rw [e] at h
      cases x <;> simp only [seqS_next, seqS_ret, seqS_brk, seqS_cont, seqS_ex] at h ⊢ <;> first | exact appS_next r h | cases h
theorem appS_assoc : ∀ (a b c : CSs), appS (appS a b) c = appS a (appS b c)
  | .nil, b, c => rfl
  | .cons s r, b, c => by
    show CSs.cons s (appS (appS r b) c) = CSs.cons s (appS r (appS b c))
    rw [appS_assoc r b c]
theorem jar_app {j l : Nat} {S : Sto} {X : List MO} (i : Jar j l S) : Jar j l (S ++ X) := by
  obtain ⟨q1, ⟨a, b, q2⟩, ⟨xs, q3, q4⟩⟩ := i
  exact ⟨q1, ⟨a, b, get_app q2⟩, ⟨xs, get_app q3, q4⟩⟩
theorem lst3_at {O : Orc} {a b c : CE} {ρ : En} {S S1 S2 S3 : Sto} {x y z : W} (ha : runE G O a ρ S = some (.ok x S1)) (hb : runE G O b ρ S1 = some (.ok y S2)) (hc : runE G O c ρ S2 = some (.ok z S3)) : runE G O (.lst (.cons a (.cons b (.cons c .nil)))) ρ S = some (.ok (.ref S3.length) (S3 ++ [MO.lst true [x, y, z]])) := by
  have z3 : 3 ≤ sizeLine := by decide
  simp [runE, runEs, ha, hb, hc, z3, newL]
def tybA : Ab → Bool
  | .res => false
  | .scr _ => false
  | .or _ => false
  | _ => true
def tybU (a : Ab) : Bool := (alts a).all tybA
def small (a : Ab) : Bool := match showA a with
  | some q => decide (q.1 ≤ 56) && decide (q.2 ≤ 1000000)
  | none => false
theorem tybA_of {R : Rsc} {S : Sto} {a : Ab} {w : W} (h : tybA a = true) (g : gam R S a w) : Tyb S w := by
  intro t
  cases a with
  | res => cases h
  | scr _ => cases h
  | or _ => cases h
  | non => unfold gam at g; subst g; exact ⟨_, rfl⟩
  | bl _ _ => unfold gam at g; obtain ⟨b, rfl, _⟩ := g; exact ⟨_, rfl⟩
  | int _ _ => unfold gam at g; obtain ⟨b, rfl, _⟩ := g; exact ⟨_, rfl⟩
  | str _ => unfold gam at g; subst g; exact ⟨_, rfl⟩
  | stx _ => unfold gam at g; obtain ⟨b, rfl, _⟩ := g; exact ⟨_, rfl⟩
  | tup _ => unfold gam at g; obtain ⟨b, rfl, _⟩ := g; exact ⟨_, rfl⟩
  | tups _ _ _ => unfold gam at g; obtain ⟨b, rfl, _⟩ := g; exact ⟨_, rfl⟩
  | lst _ => unfold gam at g; obtain ⟨n, ws, rfl, _, h2, _⟩ := g; simp only [isT, h2]; exact ⟨_, rfl⟩
  | lsts _ _ _ => unfold gam at g; obtain ⟨n, ws, rfl, _, h2, _⟩ := g; simp only [isT, h2]; exact ⟨_, rfl⟩
  | dic _ _ => unfold gam at g; obtain ⟨n, ws, rfl, _, h2, _⟩ := g; simp only [isT, h2]; exact ⟨_, rfl⟩
theorem tybU_of {R : Rsc} {S : Sto} {a : Ab} {w : W} (h : tybU a = true) (g : gam R S a w) : Tyb S w := by
  obtain ⟨b, hb, gb⟩ := alts_of g
  exact tybA_of (List.all_eq_true.mp h b hb) gb
theorem small_of {R : Rsc} {S : Sto} {a : Ab} {w : W} (h : small a = true) (g : gam R S a w) : ∃ d, readD 57 S w = some d ∧ d.showable = true ∧ d.shown.length ≤ 1000000 ∧ d.depth ≤ 57 := by
  unfold small at h
  split at h
  · rename_i q hq
    simp only [Bool.and_eq_true, decide_eq_true_eq] at h
    obtain ⟨d, h1, h2, h3, h4⟩ := showA_of a hq g
    exact ⟨d, readD_le h1 (by omega), h2, by omega, by omega⟩
  · cases h
def drawA : Ab → Option Ab
  | .int (some l) (some h) => if 0 ≤ l ∧ h < 1073741824 then some (.int (some 0) (some (if h ≤ 1 then 0 else h - 1))) else none
  | _ => none
def flatA : Ab → Bool
  | .str x => okc x
  | .stx n => decide (n < 65536)
  | .int _ _ => true
  | _ => false
theorem flatA_of {R : Rsc} {S : Sto} {a : Ab} {w : W} (h : flatA a = true) (g : gam R S a w) : Flat w := by
  cases a with
  | str x =>
    unfold gam at g
    subst g
    refine .str ?_
    have h' : okc x = true := h
    unfold okc at h'
    unfold PyData.strOk
    rw [← Array.all_toList]
    exact h'
  | stx n =>
    unfold gam at g
    obtain ⟨x, rfl, h1, h2⟩ := g
    have hn : n < 65536 := of_decide_eq_true h
    unfold rich at h2
    have h' : okc x = true := by simpa [Nat.not_le.mpr hn] using h2
    refine .str ?_
    unfold okc at h'
    unfold PyData.strOk
    rw [← Array.all_toList]
    exact h'
  | int _ _ =>
    unfold gam at g
    obtain ⟨i, rfl, _⟩ := g
    exact .int i
  | _ => cases h
theorem call1_at {O : Orc} {f : Nat} {e1 : CE} {ρ : En} {S S1 S2 : Sto} {w1 r : W} (h1 : runE G O e1 ρ S = some (.ok w1 S1)) (hc : O f [w1] S1 = some (.ok r S2)) : runE G O (.call f (.cons e1 .nil) .nil []) ρ S = some (.ok r S2) := by
  simp [runE, runEs, h1, hc]
theorem call2_at {O : Orc} {f : Nat} {e1 e2 : CE} {ρ : En} {S S1 S2 S3 : Sto} {w1 w2 r : W} (h1 : runE G O e1 ρ S = some (.ok w1 S1)) (h2 : runE G O e2 ρ S1 = some (.ok w2 S2)) (hc : O f [w1, w2] S2 = some (.ok r S3)) : runE G O (.call f (.cons e1 (.cons e2 .nil)) .nil []) ρ S = some (.ok r S3) := by
  simp [runE, runEs, h1, h2, hc]
theorem idx_at {O : Orc} {e : CE} {ρ : En} {S : Sto} {ws : List W} {k : Nat} {w : W} (h : runE G O e ρ S = some (.ok (.tup ws) S)) (hk : ws[k]? = some w) : runE G O (.idx e (.cst (.int (k : Nat)))) ρ S = some (.ok w S) := by
  have hl : k < ws.length := (List.getElem?_eq_some_iff.mp hk).1
  have : ixW S (.tup ws) (.int (k : Nat)) = some w := by
    show atI ws (k : Nat) = some w
    unfold atI ixN
    rw [if_pos (by omega), if_pos (by omega)]
    simpa using hk
  conv => lhs; unfold runE
  rw [h]
  simp only [Rs.bind_ok, cst_at, this, liftW_some]
theorem idxv_at {O : Orc} {e i : CE} {ρ : En} {S : Sto} {ws : List W} {k : Nat} {w : W} (h : runE G O e ρ S = some (.ok (.tup ws) S)) (hi : runE G O i ρ S = some (.ok (.int (k : Nat)) S)) (hk : ws[k]? = some w) : runE G O (.idx e i) ρ S = some (.ok w S) := by
  have hl : k < ws.length := (List.getElem?_eq_some_iff.mp hk).1
  have : ixW S (.tup ws) (.int (k : Nat)) = some w := by
    show atI ws (k : Nat) = some w
    unfold atI ixN
    rw [if_pos (by omega), if_pos (by omega)]
    simpa using hk
  conv => lhs; unfold runE
  rw [h]
  simp only [Rs.bind_ok, hi, this, liftW_some]
theorem lenT_at {O : Orc} {e : CE} {ρ : En} {S : Sto} {ws : List W} (h : runE G O e ρ S = some (.ok (.tup ws) S)) : runE G O (.blt .len (.cons e .nil)) ρ S = some (.ok (.int (ws.length : Nat)) S) := by
  have : bltW S .len [.tup ws] = some (.ok (.int (ws.length : Nat)) S) := by simp [bltW, lenW, itemsW]
  rw [blt_one, h]
  exact this
theorem cmpT_at {O : Orc} {c : Cm} {a b : CE} {ρ : En} {S : Sto} {x y : W} {r : Bool} (ha : runE G O a ρ S = some (.ok x S)) (hb : runE G O b ρ S = some (.ok y S)) (hc : cmpW S c x y = some r) : runT G O (.cmp c a b) ρ S = some (.ok r S) := by
  simp [runT, ha, hb, hc]
theorem cmpE_at {O : Orc} {c : Cm} {a b : CE} {ρ : En} {S : Sto} {x y : W} {r : Bool} (ha : runE G O a ρ S = some (.ok x S)) (hb : runE G O b ρ S = some (.ok y S)) (hc : cmpW S c x y = some r) : runE G O (.cmp c a b) ρ S = some (.ok (.bl r) S) := by
  simp [runE, ha, hb, hc]
theorem ch_at {O : Orc} {c d : Cm} {a b e : CE} {ρ : En} {S : Sto} {x y z : W} {r q : Bool} (ha : runE G O a ρ S = some (.ok x S)) (hb : runE G O b ρ S = some (.ok y S)) (he : runE G O e ρ S = some (.ok z S)) (h1 : cmpW S c x y = some r) (h2 : cmpW S d y z = some q) : runE G O (.chain c d a b e) ρ S = some (.ok (.bl (r && q)) S) := by
  cases r with
  | true => simp [runE, ha, hb, he, h1, h2]
  | false => simp [runE, ha, hb, h1]
theorem notch_at {O : Orc} {c d : Cm} {a b e : CE} {ρ : En} {S : Sto} {x y z : W} {r q : Bool} (ha : runE G O a ρ S = some (.ok x S)) (hb : runE G O b ρ S = some (.ok y S)) (he : runE G O e ρ S = some (.ok z S)) (h1 : cmpW S c x y = some r) (h2 : cmpW S d y z = some q) : runT G O (.not_ (.chain c d a b e)) ρ S = some (.ok (!(r && q)) S) := by
  cases r with
  | true => simp [runT, runE, ha, hb, he, h1, h2, truW]
  | false => simp [runT, runE, ha, hb, h1, truW]
theorem bool_or2 {O : Orc} {a b : CE} {ρ : En} {S : Sto} {x y : Bool} (ha : runT G O a ρ S = some (.ok x S)) (hb : x = false → runT G O b ρ S = some (.ok y S)) : runT G O (.bool false (.cons a (.cons b .nil))) ρ S = some (.ok (x || y) S) := by
  cases x with
  | true => simp [runT, runBT, ha]
  | false => simp [runT, runBT, ha, hb rfl]
theorem bool_and2 {O : Orc} {a b : CE} {ρ : En} {S : Sto} {x y : Bool} (ha : runE G O a ρ S = some (.ok (.bl x) S)) (hb : x = true → runE G O b ρ S = some (.ok (.bl y) S)) : runE G O (.bool true (.cons a (.cons b .nil))) ρ S = some (.ok (.bl (x && y)) S) := by
  cases x with
  | false => simp [runE, runB, ha, truW]
  | true => simp [runE, runB, ha, hb rfl, truW]
theorem ret_at {O : Orc} {e : CE} {ρ : En} {S S' : Sto} {w : W} {r : CSs} (h : runE G O e ρ S = some (.ok w S')) : runSs G O (.cons (.ret e) r) ρ S = some (.ret w S') := by
  rw [seq_ret]
  unfold runS
  rw [h]
  rfl
theorem if_go {O : Orc} {c : CE} {a r : CSs} {ρ : En} {S S' : Sto} (h : runT G O c ρ S = some (.ok false S')) : runSs G O (.cons (.ife c a .nil) r) ρ S = runSs G O r ρ S' := by
  rw [seq_next (by rw [ife_false h, run_nil])]
theorem if_ret {O : Orc} {c e : CE} {a r : CSs} {ρ : En} {S S' S'' : Sto} {w : W} (h : runT G O c ρ S = some (.ok true S')) (he : runE G O e ρ S' = some (.ok w S'')) : runSs G O (.cons (.ife c (.cons (.ret e) a) .nil) r) ρ S = some (.ret w S'') := by
  rw [seq_ret]
  rw [ife_true h, ret_at he]
end
end Lo
namespace K03
open PySem PySem.Spec PyProof.Rows L2 Co

/-! the text by places; its core -/
def top (i : Nat) : Stmt := PySem.Challenge.pw_everystart_k03_what_dice_are.main.body.getD i (.Pass ⟨0, 0, 0, 0⟩)
abbrev st0 : Stmt := top 6
abbrev N0 : List Str := ["value"]
/-- is_integer -/
def f0 : FD := ⟨1, 1, (.cons (.ret (.bool true (.cons (.isi .int (.var 0)) (.cons (.not_ (.isi .bool (.var 0))) .nil)))) .nil)⟩
abbrev st1 : Stmt := top 7
abbrev N1 : List Str := ["a", "b"]
/-- divisor -/
def f1 : FD := ⟨2, 2, (.cons (.whil (.cmp .ne (.var 1) (.cst (.int 0))) (.cons (.asg (.tup [(.name 0), (.name 1)]) (.tup (.cons (.var 1) (.cons (.bin .mod (.blt .int (.cons (.var 0) .nil)) (.var 1)) .nil)))) .nil)) (.cons (.ret (.var 0)) .nil))⟩
abbrev st2 : Stmt := top 8
abbrev N2 : List Str := ["value"]
/-- is_fraction -/
def f2 : FD := ⟨1, 1, (.cons (.ife (.bool false (.cons (.not_ (.isi .tuple (.var 0))) (.cons (.cmp .ne (.blt .len (.cons (.var 0) .nil)) (.cst (.int 2))) .nil))) (.cons (.ret (.cst (.bl false))) .nil) .nil) (.cons (.ife (.bool false (.cons (.not_ (.call 0 (.cons (.idx (.var 0) (.cst (.int 0))) .nil) .nil [])) (.cons (.not_ (.call 0 (.cons (.idx (.var 0) (.cst (.int 1))) .nil) .nil [])) (.cons (.cmp .lt (.idx (.var 0) (.cst (.int 1))) (.cst (.int 1))) .nil)))) (.cons (.ret (.cst (.bl false))) .nil) .nil) (.cons (.ret (.cmp .eq (.call 1 (.cons (.blt .abs (.cons (.idx (.var 0) (.cst (.int 0))) .nil)) (.cons (.idx (.var 0) (.cst (.int 1))) .nil)) .nil []) (.cst (.int 1)))) .nil)))⟩
abbrev st3 : Stmt := top 9
abbrev N3 : List Str := ["a", "b", "common"]
/-- lowest -/
def f3 : FD := ⟨2, 3, (.cons (.ife (.cmp .eq (.var 1) (.cst (.int 0))) (.cons .stuck .nil) .nil) (.cons (.asg (.name 2) (.call 1 (.cons (.blt .abs (.cons (.var 0) .nil)) (.cons (.blt .abs (.cons (.var 1) .nil)) .nil)) .nil [])) (.cons (.ife (.cmp .lt (.var 1) (.cst (.int 0))) (.cons (.asg (.name 2) (.bin .sub (.cst (.int 0)) (.var 2))) .nil) .nil) (.cons (.ret (.tup (.cons (.bin .fdiv (.var 0) (.var 2)) (.cons (.bin .fdiv (.var 1) (.var 2)) .nil)))) .nil))))⟩
abbrev st4 : Stmt := top 10
abbrev N4 : List Str := ["one", "other", "left", "right"]
/-- compared -/
def f4 : FD := ⟨2, 4, (.cons (.asg (.tup [(.name 2), (.name 3)]) (.tup (.cons (.bin .mul (.idx (.var 0) (.cst (.int 0))) (.idx (.var 1) (.cst (.int 1)))) (.cons (.bin .mul (.idx (.var 1) (.cst (.int 0))) (.idx (.var 0) (.cst (.int 1)))) .nil)))) (.cons (.ife (.cmp .eq (.var 2) (.var 3)) (.cons (.ret (.cst (.int 0))) .nil) .nil) (.cons (.ret (.ife (.cmp .lt (.var 2) (.var 3)) (.neg (.cst (.int 1))) (.cst (.int 1)))) .nil)))⟩
abbrev st5 : Stmt := top 11
abbrev N5 : List Str := ["one", "other"]
/-- plus -/
def f5 : FD := ⟨2, 2, (.cons (.ret (.call 3 (.cons (.bin .add (.bin .mul (.idx (.var 0) (.cst (.int 0))) (.idx (.var 1) (.cst (.int 1)))) (.bin .mul (.idx (.var 1) (.cst (.int 0))) (.idx (.var 0) (.cst (.int 1))))) (.cons (.bin .mul (.idx (.var 0) (.cst (.int 1))) (.idx (.var 1) (.cst (.int 1)))) .nil)) .nil [])) .nil)⟩
abbrev st6 : Stmt := top 13
abbrev N6 : List Str := ["value"]
/-- is_between -/
def f6 : FD := ⟨1, 1, (.cons (.ret (.bool true (.cons (.call 2 (.cons (.var 0) .nil) .nil []) (.cons (.chain .lt .lt (.cst (.int 0)) (.idx (.var 0) (.cst (.int 0))) (.idx (.var 0) (.cst (.int 1)))) .nil)))) .nil)⟩
abbrev st7 : Stmt := top 14
abbrev N7 : List Str := ["value"]
/-- is_side -/
def f7 : FD := ⟨1, 1, (.cons (.ife (.bool false (.cons (.not_ (.isi .tuple (.var 0))) (.cons (.cmp .ne (.blt .len (.cons (.var 0) .nil)) (.cst (.int 2))) .nil))) (.cons (.ret (.cst (.bl false))) .nil) .nil) (.cons (.ife (.bool false (.cons (.not_ (.call 0 (.cons (.idx (.var 0) (.cst (.int 0))) .nil) .nil [])) (.cons (.not_ (.chain .le .le (.cst (.int 0)) (.idx (.var 0) (.cst (.int 0))) (.glo 0))) .nil))) (.cons (.ret (.cst (.bl false))) .nil) .nil) (.cons (.ret (.bool true (.cons (.call 2 (.cons (.idx (.var 0) (.cst (.int 1))) .nil) .nil []) (.cons (.cmp .gt (.idx (.idx (.var 0) (.cst (.int 1))) (.cst (.int 0))) (.cst (.int 0))) .nil)))) .nil)))⟩
abbrev st8 : Stmt := top 15
abbrev N8 : List Str := ["sides", "place", "total", "side"]
/-- sides_error -/
def f8 : FD := ⟨1, 4, (.cons (.for_ (.tup [(.name 1), (.name 3)]) (.enm (.var 0)) (.cons (.ife (.not_ (.call 7 (.cons (.var 3) .nil) .nil [])) (.cons (.ret (.tup (.cons (.cst (.str "side")) (.cons (.var 1) .nil)))) .nil) .nil) .nil)) (.cons (.for_ (.name 1) (.rng2 (.cst (.int 1)) (.blt .len (.cons (.var 0) .nil))) (.cons (.ife (.cmp .le (.idx (.idx (.var 0) (.var 1)) (.cst (.int 0))) (.idx (.idx (.var 0) (.bin .sub (.var 1) (.cst (.int 1)))) (.cst (.int 0)))) (.cons (.ret (.tup (.cons (.cst (.str "order")) (.cons (.var 1) .nil)))) .nil) .nil) .nil)) (.cons (.asg (.name 2) (.tup (.cons (.cst (.int 0)) (.cons (.cst (.int 1)) .nil)))) (.cons (.for_ (.name 3) (.seq (.var 0)) (.cons (.asg (.name 2) (.call 5 (.cons (.var 2) (.cons (.idx (.var 3) (.cst (.int 1))) .nil)) .nil [])) .nil)) (.cons (.ret (.ife (.cmp .eq (.call 4 (.cons (.var 2) (.cons (.tup (.cons (.cst (.int 1)) (.cons (.cst (.int 1)) .nil))) .nil)) .nil []) (.cst (.int 0))) (.cst .non) (.cst (.str "sum")))) .nil)))))⟩
abbrev st9 : Stmt := top 16
abbrev N9 : List Str := ["value"]
/-- die_error -/
def f9 : FD := ⟨1, 1, (.cons (.ife (.bool false (.cons (.not_ (.isi .tuple (.var 0))) (.cons (.cmp .ne (.blt .len (.cons (.var 0) .nil)) (.cst (.int 2))) (.cons (.not_ (.isi .str (.idx (.var 0) (.cst (.int 0))))) .nil)))) (.cons (.ret (.cst (.str "form"))) .nil) .nil) (.cons (.ife (.cmp .eq (.idx (.var 0) (.cst (.int 0))) (.cst (.str "till"))) (.cons (.ret (.ife (.call 6 (.cons (.idx (.var 0) (.cst (.int 1))) .nil) .nil []) (.cst .non) (.cst (.str "share")))) .nil) .nil) (.cons (.ife (.bool false (.cons (.cmp .ne (.idx (.var 0) (.cst (.int 0))) (.cst (.str "die"))) (.cons (.not_ (.isi .tuple (.idx (.var 0) (.cst (.int 1))))) (.cons (.not_ (.chain .le .le (.cst (.int 1)) (.blt .len (.cons (.idx (.var 0) (.cst (.int 1))) .nil)) (.glo 1))) .nil)))) (.cons (.ret (.cst (.str "form"))) .nil) .nil) (.cons (.ret (.call 8 (.cons (.idx (.var 0) (.cst (.int 1))) .nil) .nil [])) .nil))))⟩
abbrev st10 : Stmt := top 18
abbrev N10 : List Str := ["script", "cell", "cells", "stirred"]
/-- _law_loom -/
def f10 : FD := ⟨1, 4, (.cons (.asg (.tup [(.name 2), (.name 3)]) (.tup (.cons (.comp (.bin .add (.bin .mul (.cst (.int 2)) (.blt .abs (.cons (.var 1) .nil))) (.blt .int (.cons (.cmp .lt (.var 1) (.cst (.int 0))) .nil))) (.name 1) (.seq (.slc (.var 0) .none (.some (.cst (.int 63))))) .none [1]) (.cons (.bin .add (.cst (.int 65025)) (.bin .mul (.cst (.int 7)) (.blt .len (.cons (.var 0) .nil)))) .nil)))) (.cons (.for_ (.name 1) (.seq (.var 2)) (.cons (.asg (.name 3) (.bin .mod (.blt .int (.cons (.bin .add (.bin .add (.bin .mul (.var 3) (.cst (.int 48271))) (.var 1)) (.cst (.int 11))) .nil)) (.cst (.int 4294967291)))) .nil)) (.cons (.ret (.dct (.cons (.cst (.str "far")) (.comp (.var 1) (.name 1) (.seq (.var 2)) (.some (.cmp .ge (.var 1) (.bin .pow (.cst (.int 10)) (.cst (.int 15))))) [1]) (.cons (.cst (.str "stirred")) (.var 3) (.cons (.cst (.str "times")) (.cst (.int 0)) .nil))))) .nil)))⟩
abbrev st11 : Stmt := top 19
abbrev N11 : List Str := ["loom", "many", "one", "cell"]
/-- _law_draw -/
def f11 : FD := ⟨2, 4, (.cons (.ife (.cmp .lt (.var 1) (.cst (.int 2))) (.cons (.ret (.cst (.int 0))) .nil) .nil) (.cons (.ife (.cmp .ne (.idx (.var 0) (.cst (.str "far"))) (.lst .nil)) (.cons (.asg (.name 3) (.mth .pop (.idx (.var 0) (.cst (.str "far"))) .nil)) (.cons (.ife (.cmp .ge (.var 3) (.var 1)) (.cons (.expr (.mth .append (.idx (.var 0) (.cst (.str "far"))) (.cons (.bin .fdiv (.var 3) (.var 1)) .nil))) .nil) .nil) (.cons (.ret (.bin .mod (.blt .int (.cons (.var 3) .nil)) (.var 1))) .nil))) .nil) (.cons (.setIx (.var 0) (.cst (.str "times")) (.bin .add (.idx (.var 0) (.cst (.str "times"))) (.cst (.int 1)))) (.cons (.asg (.name 2) (.bin .mod (.blt .int (.cons (.bin .add (.idx (.var 0) (.cst (.str "stirred"))) (.bin .mul (.cst (.int 2654435761)) (.idx (.var 0) (.cst (.str "times"))))) .nil)) (.cst (.int 4294967279)))) (.cons (.asg (.name 2) (.bin .mod (.blt .int (.cons (.bin .add (.bin .add (.bin .mul (.var 2) (.var 2)) (.bin .mul (.cst (.int 40503)) (.idx (.var 0) (.cst (.str "times"))))) (.cst (.int 17))) .nil)) (.cst (.int 4294967231)))) (.cons (.asg (.name 2) (.bin .mod (.blt .int (.cons (.bin .add (.bin .mul (.var 2) (.var 2)) (.idx (.var 0) (.cst (.str "stirred")))) .nil)) (.cst (.int 4294967197)))) (.cons (.ret (.bin .mod (.blt .int (.cons (.bin .fdiv (.var 2) (.cst (.int 128))) .nil)) (.var 1))) .nil)))))))⟩
abbrev st12 : Stmt := top 20
abbrev N12 : List Str := ["loom", "things"]
/-- _law_pick -/
def f12 : FD := ⟨2, 2, (.cons (.ret (.idx (.var 1) (.call 11 (.cons (.var 0) (.cons (.blt .len (.cons (.var 1) .nil)) .nil)) .nil []))) .nil)⟩
abbrev st13 : Stmt := top 21
abbrev N13 : List Str := ["loom", "things", "rest", "found"]
/-- _law_mixed -/
def f13 : FD := ⟨2, 4, (.cons (.asg (.tup [(.name 2), (.name 3)]) (.tup (.cons (.blt .list (.cons (.var 1) .nil)) (.cons (.lst .nil) .nil)))) (.cons (.whil (.cmp .ne (.var 2) (.lst .nil)) (.cons (.expr (.mth .append (.var 3) (.cons (.mth .popAt (.var 2) (.cons (.call 11 (.cons (.var 0) (.cons (.blt .len (.cons (.var 2) .nil)) .nil)) .nil []) .nil)) .nil))) .nil)) (.cons (.ret (.var 3)) .nil)))⟩
abbrev st14 : Stmt := top 22
abbrev N14 : List Str := ["a", "b"]
/-- _law_gcd -/
def f14 : FD := ⟨2, 2, (.cons (.asg (.tup [(.name 0), (.name 1)]) (.tup (.cons (.blt .abs (.cons (.var 0) .nil)) (.cons (.blt .abs (.cons (.var 1) .nil)) .nil)))) (.cons (.whil (.cmp .ne (.var 1) (.cst (.int 0))) (.cons (.asg (.tup [(.name 0), (.name 1)]) (.tup (.cons (.var 1) (.cons (.bin .mod (.blt .int (.cons (.var 0) .nil)) (.var 1)) .nil)))) .nil)) (.cons (.ret (.var 0)) .nil)))⟩
abbrev st15 : Stmt := top 23
abbrev N15 : List Str := ["a", "b", "d"]
/-- _law_frac -/
def f15 : FD := ⟨2, 3, (.cons (.asg (.name 2) (.call 14 (.cons (.var 0) (.cons (.var 1) .nil)) .nil [])) (.cons (.asg (.name 2) (.ife (.cmp .gt (.var 1) (.cst (.int 0))) (.var 2) (.neg (.var 2)))) (.cons (.ret (.tup (.cons (.bin .fdiv (.var 0) (.var 2)) (.cons (.bin .fdiv (.var 1) (.var 2)) .nil)))) .nil)))⟩
abbrev st16 : Stmt := top 24
abbrev N16 : List Str := ["one", "other"]
/-- _law_plus -/
def f16 : FD := ⟨2, 2, (.cons (.ret (.call 15 (.cons (.bin .add (.bin .mul (.idx (.var 0) (.cst (.int 0))) (.idx (.var 1) (.cst (.int 1)))) (.bin .mul (.idx (.var 1) (.cst (.int 0))) (.idx (.var 0) (.cst (.int 1))))) (.cons (.bin .mul (.idx (.var 0) (.cst (.int 1))) (.idx (.var 1) (.cst (.int 1)))) .nil)) .nil [])) .nil)⟩
abbrev st17 : Stmt := top 25
abbrev N17 : List Str := ["loom", "most", "b"]
/-- _law_share -/
def f17 : FD := ⟨2, 3, (.cons (.asg (.name 2) (.bin .add (.cst (.int 2)) (.call 11 (.cons (.var 0) (.cons (.bin .sub (.var 1) (.cst (.int 1))) .nil)) .nil []))) (.cons (.ret (.call 15 (.cons (.bin .add (.cst (.int 1)) (.call 11 (.cons (.var 0) (.cons (.bin .sub (.var 2) (.cst (.int 1))) .nil)) .nil [])) (.cons (.var 2) .nil)) .nil [])) .nil))⟩
abbrev st18 : Stmt := top 26
abbrev N18 : List Str := ["loom", "shown", "parts", "own", "number", "part"]
/-- _law_die -/
def f18 : FD := ⟨1, 6, (.cons (.ife (.cmp .eq (.call 11 (.cons (.var 0) (.cons (.cst (.int 4)) .nil)) .nil []) (.cst (.int 0))) (.cons (.ret (.tup (.cons (.cst (.str "till")) (.cons (.call 17 (.cons (.var 0) (.cons (.call 12 (.cons (.var 0) (.cons (.lst (.cons (.cst (.int 2)) (.cons (.cst (.int 3)) (.cons (.cst (.int 5)) (.cons (.cst (.int 12)) .nil))))) .nil)) .nil []) .nil)) .nil []) .nil)))) .nil) .nil) (.cons (.asg (.name 1) (.blt .sorted (.cons (.slc (.call 13 (.cons (.var 0) (.cons (.blt .lrng (.cons (.cst (.int 10)) .nil)) .nil)) .nil []) .none (.some (.call 12 (.cons (.var 0) (.cons (.lst (.cons (.cst (.int 1)) (.cons (.cst (.int 2)) (.cons (.cst (.int 2)) (.cons (.cst (.int 2)) (.cons (.cst (.int 3)) (.cons (.cst (.int 4)) (.cons (.cst (.int 6)) .nil)))))))) .nil)) .nil []))) .nil))) (.cons (.asg (.name 2) (.comp (.bin .add (.cst (.int 1)) (.call 11 (.cons (.var 0) (.cons (.cst (.int 4)) .nil)) .nil [])) (.name 3) (.seq (.var 1)) .none [3])) (.cons (.ret (.tup (.cons (.cst (.str "die")) (.cons (.blt .tuple (.cons (.comp (.tup (.cons (.var 4) (.cons (.call 15 (.cons (.var 5) (.cons (.blt .sum (.cons (.var 2) .nil)) .nil)) .nil []) .nil))) (.tup [(.name 4), (.name 5)]) (.zip (.var 1) (.var 2)) .none [4, 5]) .nil)) .nil)))) .nil))))⟩
abbrev st19 : Stmt := top 27
abbrev N19 : List Str := ["loom", "some"]
/-- _law_odd -/
def f19 : FD := ⟨1, 2, (.cons (.asg (.name 1) (.lst (.cons (.cst .non) (.cons (.cst (.bl true)) (.cons (.cst (.bl false)) (.cons (.cst (.int 0)) (.cons (.cst (.int 1)) (.cons (.neg (.cst (.int 1))) (.cons (.cst (.int 2)) (.cons (.bin .pow (.cst (.int 10)) (.cst (.int 40))) (.cons (.cst (.str "")) (.cons (.cst (.str "a")) (.cons (.cst (.str "die")) (.cons (.cst (.str "till")) (.cons (.tup .nil) (.cons (.lst .nil) (.cons (.dct .nil) (.cons (.tup (.cons (.cst (.int 0)) .nil)) (.cons (.lst (.cons (.cst (.int 1)) .nil)) (.cons (.tup (.cons (.cst (.int 1)) (.cons (.cst (.int 2)) .nil))) (.cons (.lst (.cons (.tup (.cons (.cst (.int 1)) (.cons (.cst (.int 2)) .nil))) .nil)) .nil))))))))))))))))))))) (.cons (.ret (.call 12 (.cons (.var 0) (.cons (.bin .add (.var 1) (.lst (.cons (.dct (.cons (.cst (.str "a")) (.cst (.int 1)) .nil)) (.cons (.tup (.cons (.cst .non) (.cons (.cst .non) .nil))) (.cons (.tup (.cons (.cst (.str "die")) .nil)) (.cons (.tup (.cons (.tup .nil) .nil)) (.cons (.tup (.cons (.cst (.str "x")) (.cons (.tup .nil) .nil))) (.cons (.cst (.str "x: skip")) (.cons (.tup (.cons (.cst (.str "less")) (.cons (.cst (.int 0)) .nil))) .nil))))))))) .nil)) .nil [])) .nil))⟩
abbrev st20 : Stmt := top 28
abbrev N20 : List Str := ["value", "low", "high"]
/-- _law_is_whole -/
def f20 : FD := ⟨3, 3, (.cons (.ret (.bool true (.cons (.isi .int (.var 0)) (.cons (.not_ (.isi .bool (.var 0))) (.cons (.chain .le .le (.var 1) (.var 0) (.var 2)) .nil))))) .nil)⟩
abbrev st21 : Stmt := top 29
abbrev N21 : List Str := ["value", "is_open", "item"]
/-- _law_is_share -/
def f21 : FD := ⟨2, 3, (.cons (.ife (.bool false (.cons (.not_ (.isi .tuple (.var 0))) (.cons (.cmp .ne (.blt .len (.cons (.var 0) .nil)) (.cst (.int 2))) .nil))) (.cons (.ret (.cst (.bl false))) .nil) .nil) (.cons (.for_ (.name 2) (.seq (.var 0)) (.cons (.ife (.bool false (.cons (.not_ (.isi .int (.var 2))) (.cons (.isi .bool (.var 2)) (.cons (.cmp .lt (.var 2) (.cst (.int 1))) .nil)))) (.cons (.ret (.cst (.bl false))) .nil) .nil) .nil)) (.cons (.ret (.bool true (.cons (.cmp .eq (.call 14 (.cons (.idx (.var 0) (.cst (.int 0))) (.cons (.idx (.var 0) (.cst (.int 1))) .nil)) .nil []) (.cst (.int 1))) (.cons (.bool false (.cons (.cmp .lt (.idx (.var 0) (.cst (.int 0))) (.idx (.var 0) (.cst (.int 1)))) (.cons (.not_ (.var 1)) .nil))) .nil)))) .nil)))⟩
abbrev st22 : Stmt := top 30
abbrev N22 : List Str := ["sides", "place", "total", "own"]
/-- _law_sides_slip -/
def f22 : FD := ⟨1, 4, (.cons (.for_ (.tup [(.name 1), (.name 3)]) (.enm (.var 0)) (.cons (.ife (.bool false (.cons (.not_ (.isi .tuple (.var 3))) (.cons (.cmp .ne (.blt .len (.cons (.var 3) .nil)) (.cst (.int 2))) .nil))) (.cons (.ret (.tup (.cons (.cst (.str "side")) (.cons (.var 1) .nil)))) .nil) .nil) (.cons (.ife (.bool false (.cons (.not_ (.call 20 (.cons (.idx (.var 3) (.cst (.int 0))) (.cons (.cst (.int 0)) (.cons (.cst (.int 9)) .nil))) .nil [])) (.cons (.not_ (.call 21 (.cons (.idx (.var 3) (.cst (.int 1))) (.cons (.cst (.bl false)) .nil)) .nil [])) .nil))) (.cons (.ret (.tup (.cons (.cst (.str "side")) (.cons (.var 1) .nil)))) .nil) .nil) .nil))) (.cons (.for_ (.name 1) (.rng2 (.cst (.int 1)) (.blt .len (.cons (.var 0) .nil))) (.cons (.ife (.cmp .le (.idx (.idx (.var 0) (.var 1)) (.cst (.int 0))) (.idx (.idx (.var 0) (.bin .sub (.var 1) (.cst (.int 1)))) (.cst (.int 0)))) (.cons (.ret (.tup (.cons (.cst (.str "order")) (.cons (.var 1) .nil)))) .nil) .nil) .nil)) (.cons (.asg (.name 2) (.tup (.cons (.cst (.int 0)) (.cons (.cst (.int 1)) .nil)))) (.cons (.for_ (.name 3) (.seq (.var 0)) (.cons (.asg (.name 2) (.call 16 (.cons (.var 2) (.cons (.idx (.var 3) (.cst (.int 1))) .nil)) .nil [])) .nil)) (.cons (.ret (.ife (.cmp .eq (.var 2) (.tup (.cons (.cst (.int 1)) (.cons (.cst (.int 1)) .nil)))) (.cst .non) (.cst (.str "sum")))) .nil)))))⟩
abbrev st23 : Stmt := top 31
abbrev N23 : List Str := ["value"]
/-- _law_die_slip -/
def f23 : FD := ⟨1, 1, (.cons (.ife (.bool false (.cons (.not_ (.isi .tuple (.var 0))) (.cons (.cmp .ne (.blt .len (.cons (.var 0) .nil)) (.cst (.int 2))) (.cons (.not_ (.isi .str (.idx (.var 0) (.cst (.int 0))))) .nil)))) (.cons (.ret (.cst (.str "form"))) .nil) .nil) (.cons (.ife (.cmp .eq (.idx (.var 0) (.cst (.int 0))) (.cst (.str "till"))) (.cons (.ret (.ife (.call 21 (.cons (.idx (.var 0) (.cst (.int 1))) (.cons (.cst (.bl true)) .nil)) .nil []) (.cst .non) (.cst (.str "share")))) .nil) .nil) (.cons (.ife (.bool false (.cons (.cmp .ne (.idx (.var 0) (.cst (.int 0))) (.cst (.str "die"))) (.cons (.not_ (.isi .tuple (.idx (.var 0) (.cst (.int 1))))) (.cons (.not_ (.chain .le .le (.cst (.int 1)) (.blt .len (.cons (.idx (.var 0) (.cst (.int 1))) .nil)) (.cst (.int 6)))) .nil)))) (.cons (.ret (.cst (.str "form"))) .nil) .nil) (.cons (.ret (.call 22 (.cons (.idx (.var 0) (.cst (.int 1))) .nil) .nil [])) .nil))))⟩
abbrev st24 : Stmt := top 32
abbrev N24 : List Str := ["loom", "side", "odd", "number", "share"]
/-- _law_bent_side -/
def f24 : FD := ⟨2, 5, (.cons (.asg (.tup [(.name 3), (.name 4)]) (.var 1)) (.cons (.asg (.name 2) (.lst (.cons (.tup (.cons (.bin .add (.var 3) (.cst (.int 1))) (.cons (.var 4) .nil))) (.cons (.tup (.cons (.bin .sub (.var 3) (.cst (.int 1))) (.cons (.var 4) .nil))) (.cons (.tup (.cons (.cst (.int 10)) (.cons (.var 4) .nil))) (.cons (.tup (.cons (.cst (.bl true)) (.cons (.var 4) .nil))) (.cons (.tup (.cons (.var 3) (.cons (.tup (.cons (.bin .mul (.idx (.var 4) (.cst (.int 0))) (.cst (.int 2))) (.cons (.bin .mul (.idx (.var 4) (.cst (.int 1))) (.cst (.int 2))) .nil))) .nil))) .nil))))))) (.cons (.asg (.name 2) (.bin .add (.var 2) (.lst (.cons (.tup (.cons (.var 3) (.cons (.tup (.cons (.cst (.int 0)) (.cons (.cst (.int 1)) .nil))) .nil))) (.cons (.tup (.cons (.var 3) (.cons (.tup (.cons (.neg (.cst (.int 1))) (.cons (.cst (.int 2)) .nil))) .nil))) (.cons (.tup (.cons (.var 3) (.cons (.blt .list (.cons (.var 4) .nil)) .nil))) (.cons (.lst (.cons (.var 3) (.cons (.var 4) .nil))) (.cons (.tup (.cons (.var 3) .nil)) (.cons (.var 3) (.cons (.cst .non) .nil)))))))))) (.cons (.asg (.name 2) (.bin .add (.var 2) (.lst (.cons (.tup (.cons (.var 3) (.cons (.var 4) (.cons (.cst (.int 0)) .nil)))) (.cons (.tup (.cons (.blt .str (.cons (.var 3) .nil)) (.cons (.var 4) .nil))) (.cons (.tup (.cons (.var 3) (.cons (.tup (.cons (.idx (.var 4) (.cst (.int 0))) (.cons (.bin .add (.idx (.var 4) (.cst (.int 1))) (.cst (.int 1))) .nil))) .nil))) .nil)))))) (.cons (.asg (.name 2) (.bin .add (.var 2) (.lst (.cons (.tup (.cons (.var 3) (.cons (.cst (.int 1)) .nil))) (.cons (.tup (.cons (.var 3) (.cons (.blt .rev (.cons (.var 4) .nil)) .nil))) .nil))))) (.cons (.asg (.name 2) (.bin .add (.var 2) (.lst (.cons (.tup (.cons (.var 3) (.cons (.tup (.cons (.cst (.bl true)) (.cons (.cst (.int 2)) .nil))) .nil))) (.cons (.tup (.cons (.var 3) (.cons (.tup (.cons (.cst (.int 1)) (.cons (.cst (.bl true)) .nil))) .nil))) (.cons (.tup (.cons (.var 4) (.cons (.var 3) .nil))) (.cons (.tup (.cons (.var 3) (.cons (.tup (.cons (.cst (.int 1)) (.cons (.cst (.int 0)) .nil))) .nil))) (.cons (.tup (.cons (.cst (.int 0)) (.cons (.var 4) .nil))) .nil)))))))) (.cons (.ret (.call 12 (.cons (.var 0) (.cons (.var 2) .nil)) .nil [])) .nil)))))))⟩
abbrev st25 : Stmt := top 33
abbrev N25 : List Str := ["loom", "die", "odd", "some", "sides", "spot", "side", "number"]
/-- _law_bent -/
def f25 : FD := ⟨2, 8, (.cons (.ife (.cmp .eq (.idx (.var 1) (.cst (.int 0))) (.cst (.str "till"))) (.cons (.asg (.name 2) (.lst (.cons (.tup (.cons (.cst (.int 0)) (.cons (.cst (.int 1)) .nil))) (.cons (.tup (.cons (.cst (.int 1)) (.cons (.cst (.int 1)) .nil))) (.cons (.tup (.cons (.cst (.int 2)) (.cons (.cst (.int 4)) .nil))) (.cons (.tup (.cons (.cst (.int 3)) (.cons (.cst (.int 2)) .nil))) (.cons (.tup (.cons (.neg (.cst (.int 1))) (.cons (.cst (.int 2)) .nil))) (.cons (.cst (.int 1)) (.cons (.cst .non) (.cons (.lst (.cons (.cst (.int 1)) (.cons (.cst (.int 2)) .nil))) (.cons (.tup (.cons (.cst (.bl true)) (.cons (.cst (.int 2)) .nil))) (.cons (.tup (.cons (.cst (.int 1)) (.cons (.cst (.int 2)) (.cons (.cst (.int 3)) .nil)))) (.cons (.tup (.cons (.cst (.int 1)) .nil)) (.cons (.cst (.str "1/2")) (.cons (.tup (.cons (.tup (.cons (.cst (.int 1)) (.cons (.cst (.int 2)) .nil))) .nil)) .nil))))))))))))))) (.cons (.asg (.name 3) (.lst (.cons (.tup (.cons (.cst (.str "till")) (.cons (.call 12 (.cons (.var 0) (.cons (.var 2) .nil)) .nil []) .nil))) (.cons (.tup (.cons (.cst (.str "till")) .nil)) (.cons (.tup (.cons (.cst (.str "Till")) (.cons (.idx (.var 1) (.cst (.int 1))) .nil))) (.cons (.tup (.cons (.cst (.str "till")) (.cons (.idx (.var 1) (.cst (.int 1))) (.cons (.cst (.int 0)) .nil)))) (.cons (.blt .list (.cons (.var 1) .nil)) .nil))))))) (.cons (.ret (.call 12 (.cons (.var 0) (.cons (.var 3) .nil)) .nil [])) .nil))) .nil) (.cons (.asg (.tup [(.name 4), (.name 5), (.name 6)]) (.tup (.cons (.idx (.var 1) (.cst (.int 1))) (.cons (.call 11 (.cons (.var 0) (.cons (.blt .len (.cons (.idx (.var 1) (.cst (.int 1))) .nil)) .nil)) .nil []) (.cons (.call 11 (.cons (.var 0) (.cons (.cst (.int 9)) .nil)) .nil []) .nil))))) (.cons (.ife (.cmp .lt (.var 6) (.cst (.int 5))) (.cons (.asg (.name 4) (.bin .add (.bin .add (.slc (.var 4) .none (.some (.var 5))) (.tup (.cons (.call 24 (.cons (.var 0) (.cons (.idx (.var 4) (.var 5)) .nil)) .nil []) .nil))) (.slc (.var 4) (.some (.bin .add (.var 5) (.cst (.int 1)))) .none))) .nil) .nil) (.cons (.ife (.cmp .in_ (.var 6) (.tup (.cons (.cst (.int 3)) (.cons (.cst (.int 4)) .nil)))) (.cons (.asg (.name 5) (.call 11 (.cons (.var 0) (.cons (.blt .len (.cons (.var 4) .nil)) .nil)) .nil [])) (.cons (.asg (.name 2) (.lst (.cons (.call 19 (.cons (.var 0) .nil) .nil []) (.cons (.tup (.cons (.cst (.int 9)) (.cons (.tup (.cons (.cst (.int 1)) (.cons (.cst (.int 2)) .nil))) .nil))) (.cons (.tup (.cons (.cst (.int 0)) (.cons (.tup (.cons (.cst (.int 1)) (.cons (.cst (.int 3)) .nil))) .nil))) .nil))))) (.cons (.asg (.name 4) (.bin .add (.bin .add (.slc (.var 4) .none (.some (.var 5))) (.tup (.cons (.call 12 (.cons (.var 0) (.cons (.var 2) .nil)) .nil []) .nil))) (.slc (.var 4) (.some (.bin .add (.var 5) (.cst (.int 1)))) .none))) .nil))) .nil) (.cons (.ife (.cmp .eq (.var 6) (.cst (.int 5))) (.cons (.asg (.name 4) (.call 12 (.cons (.var 0) (.cons (.lst (.cons (.blt .rev (.cons (.var 4) .nil)) (.cons (.bin .add (.var 4) (.var 4)) (.cons (.slc (.var 4) (.some (.cst (.int 1))) .none) (.cons (.bin .mul (.slc (.var 4) .none (.some (.cst (.int 1)))) (.cst (.int 2))) (.cons (.blt .list (.cons (.var 4) .nil)) (.cons (.bin .mul (.tup (.cons (.tup (.cons (.cst (.int 9)) (.cons (.tup (.cons (.cst (.int 1)) (.cons (.cst (.int 9)) .nil))) .nil))) .nil)) (.cst (.int 7))) .nil))))))) .nil)) .nil [])) .nil) .nil) (.cons (.ife (.cmp .eq (.var 6) (.cst (.int 6))) (.cons (.asg (.name 4) (.blt .tuple (.cons (.comp (.tup (.cons (.var 7) (.cons (.tup (.cons (.cst (.int 1)) (.cons (.cst (.int 7)) .nil))) .nil))) (.name 7) (.rng1 (.bin .sub (.cst (.int 7)) (.call 11 (.cons (.var 0) (.cons (.cst (.int 2)) .nil)) .nil []))) .none [7]) .nil))) .nil) .nil) (.cons (.ife (.cmp .eq (.var 6) (.cst (.int 7))) (.cons (.asg (.name 3) (.lst (.cons (.tup (.cons (.cst (.str "Die")) (.cons (.var 4) .nil))) (.cons (.tup (.cons (.var 4) (.cons (.cst (.str "die")) .nil))) (.cons (.lst (.cons (.cst (.str "die")) (.cons (.var 4) .nil))) (.cons (.tup (.cons (.cst (.str "die")) (.cons (.var 4) (.cons (.cst (.int 0)) .nil)))) (.cons (.tup (.cons (.cst (.str "till")) (.cons (.var 4) .nil))) (.cons (.tup (.cons (.cst (.str "die")) .nil)) (.cons (.var 4) .nil))))))))) (.cons (.ret (.call 12 (.cons (.var 0) (.cons (.var 3) .nil)) .nil [])) .nil)) .nil) (.cons (.ret (.tup (.cons (.cst (.str "die")) (.cons (.var 4) .nil)))) .nil))))))))⟩
abbrev st26 : Stmt := top 34
abbrev N26 : List Str := ["script", "loom", "turn", "far", "below", "near", "six", "die", "values", "one", "other", "sides", "nth", "value", "told", "stood", "due", "again", "number"]
/-- law -/
def f26 : FD := ⟨1, 19, (.cons (.asg (.name 1) (.call 10 (.cons (.var 0) .nil) .nil [])) (.cons (.for_ (.name 2) (.rng1 (.cst (.int 9))) (.cons (.asg (.name 7) (.call 18 (.cons (.var 1) .nil) .nil [])) (.cons (.asg (.name 8) (.bin .add (.lst (.cons (.var 7) (.cons (.call 19 (.cons (.var 1) .nil) .nil []) .nil))) (.comp (.call 25 (.cons (.var 1) (.cons (.var 7) .nil)) .nil []) (.name 17) (.rng1 (.cst (.int 3))) .none [17]))) (.cons (.for_ (.tup [(.name 12), (.name 13)]) (.enm (.var 8)) (.cons (.asg (.tup [(.name 15), (.name 16)]) (.tup (.cons (.blt .repr (.cons (.var 13) .nil)) (.cons (.blt .repr (.cons (.call 23 (.cons (.var 13) .nil) .nil []) .nil)) .nil)))) (.cons (.asg (.name 14) (.ife (.cmp .eq (.var 12) (.var 2)) (.call 9 .nil (.cons (.var 13) .nil) [0]) (.call 9 (.cons (.var 13) .nil) .nil []))) (.cons (.ife (.bool false (.cons (.cmp .ne (.blt .repr (.cons (.var 14) .nil)) (.var 16)) (.cons (.cmp .ne (.blt .repr (.cons (.call 9 (.cons (.var 13) .nil) .nil []) .nil)) (.var 16)) (.cons (.cmp .ne (.blt .repr (.cons (.var 13) .nil)) (.var 15)) .nil)))) (.cons (.ret (.cst (.bl false))) .nil) .nil) .nil)))) .nil)))) (.cons (.asg (.name 3) (.blt .int (.cons (.bin .add (.cst (.str "1")) (.bin .mul (.cst (.str "0")) (.call 12 (.cons (.var 1) (.cons (.lst (.cons (.cst (.int 9)) (.cons (.cst (.int 20)) (.cons (.cst (.int 60)) (.cons (.cst (.int 398)) .nil))))) .nil)) .nil []))) .nil))) (.cons (.asg (.name 4) (.bin .add (.bin .mul (.cst (.int 2)) (.var 3)) (.cst (.int 1)))) (.cons (.asg (.name 5) (.lst (.cons (.tup (.cons (.tup (.cons (.cst (.int 1)) (.cons (.cst (.int 2)) .nil))) (.cons (.tup (.cons (.var 3) (.cons (.var 4) .nil))) .nil))) (.cons (.tup (.cons (.tup (.cons (.cst (.int 1)) (.cons (.cst (.int 2)) .nil))) (.cons (.tup (.cons (.bin .add (.var 3) (.cst (.int 1))) (.cons (.var 4) .nil))) .nil))) (.cons (.tup (.cons (.tup (.cons (.var 3) (.cons (.var 4) .nil))) (.cons (.tup (.cons (.bin .add (.var 3) (.cst (.int 1))) (.cons (.var 4) .nil))) .nil))) .nil))))) (.cons (.for_ (.tup [(.name 9), (.name 10)]) (.seq (.var 5)) (.cons (.asg (.name 11) (.tup (.cons (.tup (.cons (.cst (.int 0)) (.cons (.var 9) .nil))) (.cons (.tup (.cons (.cst (.int 1)) (.cons (.var 10) .nil))) .nil)))) (.cons (.ife (.cmp .ne (.blt .repr (.cons (.call 9 (.cons (.tup (.cons (.cst (.str "die")) (.cons (.var 11) .nil))) .nil) .nil []) .nil)) (.blt .repr (.cons (.call 23 (.cons (.tup (.cons (.cst (.str "die")) (.cons (.var 11) .nil))) .nil) .nil []) .nil))) (.cons (.ret (.cst (.bl false))) .nil) .nil) .nil))) (.cons (.asg (.name 6) (.tup (.cons (.cst (.str "die")) (.cons (.blt .tuple (.cons (.comp (.tup (.cons (.var 18) (.cons (.tup (.cons (.cst (.int 1)) (.cons (.cst (.int 6)) .nil))) .nil))) (.name 18) (.rng2 (.cst (.int 4)) (.cst (.int 10))) .none [18]) .nil)) .nil)))) (.cons (.ret (.cmp .eq (.blt .repr (.cons (.lst (.cons (.call 9 (.cons (.var 6) .nil) .nil []) (.cons (.call 9 (.cons (.tup (.cons (.cst (.str "die")) (.cons (.bin .add (.idx (.var 6) (.cst (.int 1))) (.tup (.cons (.tup (.cons (.cst (.int 9)) (.cons (.tup (.cons (.cst (.int 1)) (.cons (.cst (.int 6)) .nil))) .nil))) .nil))) .nil))) .nil) .nil []) .nil))) .nil)) (.blt .repr (.cons (.lst (.cons (.cst .non) (.cons (.cst (.str "form")) .nil))) .nil)))) .nil))))))))⟩
def Fs : List FD := [f0, f1, f2, f3, f4, f5, f6, f7, f8, f9, f10, f11, f12, f13, f14, f15, f16, f17, f18, f19, f20, f21, f22, f23, f24, f25, f26]
def P : Sta := { fns := [("is_integer", ["value"]), ("divisor", ["a", "b"]), ("is_fraction", ["value"]), ("lowest", ["a", "b"]), ("compared", ["one", "other"]), ("plus", ["one", "other"]), ("is_between", ["value"]), ("is_side", ["value"]), ("sides_error", ["sides"]), ("die_error", ["value"]), ("_law_loom", ["script"]), ("_law_draw", ["loom", "many"]), ("_law_pick", ["loom", "things"]), ("_law_mixed", ["loom", "things"]), ("_law_gcd", ["a", "b"]), ("_law_frac", ["a", "b"]), ("_law_plus", ["one", "other"]), ("_law_share", ["loom", "most"]), ("_law_die", ["loom"]), ("_law_odd", ["loom"]), ("_law_is_whole", ["value", "low", "high"]), ("_law_is_share", ["value", "is_open"]), ("_law_sides_slip", ["sides"]), ("_law_die_slip", ["value"]), ("_law_bent_side", ["loom", "side"]), ("_law_bent", ["loom", "die"]), ("law", ["script"])], glos := ["MAX_SIDE", "MAX_SIDES"], kws := [(9, 0, ["value"], [0])] }
def G : List W := [(.int 9), (.int 6)]
theorem sta : StaOk P := by
  intro f n ks perm x ps h1 h2
  have key : (P.kws.all fun q => match P.fns[q.1]? with | some (_, ps) => decide (ps.length = q.2.1 + q.2.2.2.length) && q.2.2.2.all (fun i => decide (i < q.2.2.1.length)) | none => true) = true := by decide +kernel
  have := List.all_eq_true.mp key _ h1
  simp only [h2, Bool.and_eq_true, decide_eq_true_eq, List.all_eq_true] at this
  exact this
theorem sc0 : FnScope N0 ["value"] (defScope st0) := ⟨rfl, rfl, rfl, by decide +kernel, rfl, by decide +kernel, by decide +kernel⟩
theorem ok0 : okSs P N0 (defScope st0) f0.body (defBody st0) = true := by decide +kernel
theorem sc1 : FnScope N1 ["a", "b"] (defScope st1) := ⟨rfl, rfl, rfl, by decide +kernel, rfl, by decide +kernel, by decide +kernel⟩
theorem ok1 : okSs P N1 (defScope st1) f1.body (defBody st1) = true := by decide +kernel
theorem sc2 : FnScope N2 ["value"] (defScope st2) := ⟨rfl, rfl, rfl, by decide +kernel, rfl, by decide +kernel, by decide +kernel⟩
theorem ok2 : okSs P N2 (defScope st2) f2.body (defBody st2) = true := by decide +kernel
theorem sc3 : FnScope N3 ["a", "b"] (defScope st3) := ⟨rfl, rfl, rfl, by decide +kernel, rfl, by decide +kernel, by decide +kernel⟩
theorem ok3 : okSs P N3 (defScope st3) f3.body (defBody st3) = true := by decide +kernel
theorem sc4 : FnScope N4 ["one", "other"] (defScope st4) := ⟨rfl, rfl, rfl, by decide +kernel, rfl, by decide +kernel, by decide +kernel⟩
theorem ok4 : okSs P N4 (defScope st4) f4.body (defBody st4) = true := by decide +kernel
theorem sc5 : FnScope N5 ["one", "other"] (defScope st5) := ⟨rfl, rfl, rfl, by decide +kernel, rfl, by decide +kernel, by decide +kernel⟩
theorem ok5 : okSs P N5 (defScope st5) f5.body (defBody st5) = true := by decide +kernel
theorem sc6 : FnScope N6 ["value"] (defScope st6) := ⟨rfl, rfl, rfl, by decide +kernel, rfl, by decide +kernel, by decide +kernel⟩
theorem ok6 : okSs P N6 (defScope st6) f6.body (defBody st6) = true := by decide +kernel
theorem sc7 : FnScope N7 ["value"] (defScope st7) := ⟨rfl, rfl, rfl, by decide +kernel, rfl, by decide +kernel, by decide +kernel⟩
theorem ok7 : okSs P N7 (defScope st7) f7.body (defBody st7) = true := by decide +kernel
theorem sc8 : FnScope N8 ["sides"] (defScope st8) := ⟨rfl, rfl, rfl, by decide +kernel, rfl, by decide +kernel, by decide +kernel⟩
theorem ok8 : okSs P N8 (defScope st8) f8.body (defBody st8) = true := by decide +kernel
theorem sc9 : FnScope N9 ["value"] (defScope st9) := ⟨rfl, rfl, rfl, by decide +kernel, rfl, by decide +kernel, by decide +kernel⟩
theorem ok9 : okSs P N9 (defScope st9) f9.body (defBody st9) = true := by decide +kernel
theorem sc10 : FnScope N10 ["script"] (defScope st10) := ⟨rfl, rfl, rfl, by decide +kernel, rfl, by decide +kernel, by decide +kernel⟩
theorem ok10 : okSs P N10 (defScope st10) f10.body (defBody st10) = true := by decide +kernel
theorem sc11 : FnScope N11 ["loom", "many"] (defScope st11) := ⟨rfl, rfl, rfl, by decide +kernel, rfl, by decide +kernel, by decide +kernel⟩
theorem ok11 : okSs P N11 (defScope st11) f11.body (defBody st11) = true := by decide +kernel
theorem sc12 : FnScope N12 ["loom", "things"] (defScope st12) := ⟨rfl, rfl, rfl, by decide +kernel, rfl, by decide +kernel, by decide +kernel⟩
theorem ok12 : okSs P N12 (defScope st12) f12.body (defBody st12) = true := by decide +kernel
theorem sc13 : FnScope N13 ["loom", "things"] (defScope st13) := ⟨rfl, rfl, rfl, by decide +kernel, rfl, by decide +kernel, by decide +kernel⟩
theorem ok13 : okSs P N13 (defScope st13) f13.body (defBody st13) = true := by decide +kernel
theorem sc14 : FnScope N14 ["a", "b"] (defScope st14) := ⟨rfl, rfl, rfl, by decide +kernel, rfl, by decide +kernel, by decide +kernel⟩
theorem ok14 : okSs P N14 (defScope st14) f14.body (defBody st14) = true := by decide +kernel
theorem sc15 : FnScope N15 ["a", "b"] (defScope st15) := ⟨rfl, rfl, rfl, by decide +kernel, rfl, by decide +kernel, by decide +kernel⟩
theorem ok15 : okSs P N15 (defScope st15) f15.body (defBody st15) = true := by decide +kernel
theorem sc16 : FnScope N16 ["one", "other"] (defScope st16) := ⟨rfl, rfl, rfl, by decide +kernel, rfl, by decide +kernel, by decide +kernel⟩
theorem ok16 : okSs P N16 (defScope st16) f16.body (defBody st16) = true := by decide +kernel
theorem sc17 : FnScope N17 ["loom", "most"] (defScope st17) := ⟨rfl, rfl, rfl, by decide +kernel, rfl, by decide +kernel, by decide +kernel⟩
theorem ok17 : okSs P N17 (defScope st17) f17.body (defBody st17) = true := by decide +kernel
theorem sc18 : FnScope N18 ["loom"] (defScope st18) := ⟨rfl, rfl, rfl, by decide +kernel, rfl, by decide +kernel, by decide +kernel⟩
theorem ok18 : okSs P N18 (defScope st18) f18.body (defBody st18) = true := by decide +kernel
theorem sc19 : FnScope N19 ["loom"] (defScope st19) := ⟨rfl, rfl, rfl, by decide +kernel, rfl, by decide +kernel, by decide +kernel⟩
theorem ok19 : okSs P N19 (defScope st19) f19.body (defBody st19) = true := by decide +kernel
theorem sc20 : FnScope N20 ["value", "low", "high"] (defScope st20) := ⟨rfl, rfl, rfl, by decide +kernel, rfl, by decide +kernel, by decide +kernel⟩
theorem ok20 : okSs P N20 (defScope st20) f20.body (defBody st20) = true := by decide +kernel
theorem sc21 : FnScope N21 ["value", "is_open"] (defScope st21) := ⟨rfl, rfl, rfl, by decide +kernel, rfl, by decide +kernel, by decide +kernel⟩
theorem ok21 : okSs P N21 (defScope st21) f21.body (defBody st21) = true := by decide +kernel
theorem sc22 : FnScope N22 ["sides"] (defScope st22) := ⟨rfl, rfl, rfl, by decide +kernel, rfl, by decide +kernel, by decide +kernel⟩
theorem ok22 : okSs P N22 (defScope st22) f22.body (defBody st22) = true := by decide +kernel
theorem sc23 : FnScope N23 ["value"] (defScope st23) := ⟨rfl, rfl, rfl, by decide +kernel, rfl, by decide +kernel, by decide +kernel⟩
theorem ok23 : okSs P N23 (defScope st23) f23.body (defBody st23) = true := by decide +kernel
theorem sc24 : FnScope N24 ["loom", "side"] (defScope st24) := ⟨rfl, rfl, rfl, by decide +kernel, rfl, by decide +kernel, by decide +kernel⟩
theorem ok24 : okSs P N24 (defScope st24) f24.body (defBody st24) = true := by decide +kernel
theorem sc25 : FnScope N25 ["loom", "die"] (defScope st25) := ⟨rfl, rfl, rfl, by decide +kernel, rfl, by decide +kernel, by decide +kernel⟩
theorem ok25 : okSs P N25 (defScope st25) f25.body (defBody st25) = true := by decide +kernel
theorem sc26 : FnScope N26 ["script"] (defScope st26) := ⟨rfl, rfl, rfl, by decide +kernel, rfl, by decide +kernel, by decide +kernel⟩
theorem ok26 : okSs P N26 (defScope st26) f26.body (defBody st26) = true := by decide +kernel
theorem def0 {K : PySem.W.Frag} {h : Heap} {mg : Str → Option Value} {f : Addr} {od an : Option Addr} {sl : Array (Option Value)} {oc kV dc pm cd ct : Value} (X : K.In h) (g : h.Ns mainGlobals mg)
    (a : PySem.W.nsIn K mainGlobals "is_integer" = some (some (.ref f))) (l : K.lookup f = some ⟨oc, od, .func (PySem.W.fnOf "is_integer" "is_integer" (defArgs st0) (defBody st0) (defScope st0) .none kV dc pm an cd ct), sl⟩) (c : PySem.W.codeIn K cd "is_integer" = true) (k : PySem.W.keepIn K (.ref f) = true) :
    ∃ fd, DefOk K mg P Fs 0 "is_integer" ["value"] f fd := by
  have F := fun_mk (st := st0) l c k
  refine ⟨_, PySem.W.mg_of X g a, k, ⟨"is_integer", oc, od, st0, kV, dc, pm, an, cd, ct, sl, N0, f0, rfl, l, c, sc0, rfl, rfl, rfl, ok0⟩, F.binds (ps := ["value"]) (fun _ _ _ _ _ _ us hl => match us, hl with | [_], _ => rfl), ?_⟩
  intro n ks perm hm s us ws kin h1 h2
  have hm : (0, n, ks, perm) ∈ P.kws := hm
  simp only [P, List.mem_cons, List.not_mem_nil, or_false, Prod.mk.injEq] at hm
  exfalso
  omega
theorem def1 {K : PySem.W.Frag} {h : Heap} {mg : Str → Option Value} {f : Addr} {od an : Option Addr} {sl : Array (Option Value)} {oc kV dc pm cd ct : Value} (X : K.In h) (g : h.Ns mainGlobals mg)
    (a : PySem.W.nsIn K mainGlobals "divisor" = some (some (.ref f))) (l : K.lookup f = some ⟨oc, od, .func (PySem.W.fnOf "divisor" "divisor" (defArgs st1) (defBody st1) (defScope st1) .none kV dc pm an cd ct), sl⟩) (c : PySem.W.codeIn K cd "divisor" = true) (k : PySem.W.keepIn K (.ref f) = true) :
    ∃ fd, DefOk K mg P Fs 1 "divisor" ["a", "b"] f fd := by
  have F := fun_mk (st := st1) l c k
  refine ⟨_, PySem.W.mg_of X g a, k, ⟨"divisor", oc, od, st1, kV, dc, pm, an, cd, ct, sl, N1, f1, rfl, l, c, sc1, rfl, rfl, rfl, ok1⟩, F.binds (ps := ["a", "b"]) (fun _ _ _ _ _ _ us hl => match us, hl with | [_, _], _ => rfl), ?_⟩
  intro n ks perm hm s us ws kin h1 h2
  have hm : (1, n, ks, perm) ∈ P.kws := hm
  simp only [P, List.mem_cons, List.not_mem_nil, or_false, Prod.mk.injEq] at hm
  exfalso
  omega
theorem def2 {K : PySem.W.Frag} {h : Heap} {mg : Str → Option Value} {f : Addr} {od an : Option Addr} {sl : Array (Option Value)} {oc kV dc pm cd ct : Value} (X : K.In h) (g : h.Ns mainGlobals mg)
    (a : PySem.W.nsIn K mainGlobals "is_fraction" = some (some (.ref f))) (l : K.lookup f = some ⟨oc, od, .func (PySem.W.fnOf "is_fraction" "is_fraction" (defArgs st2) (defBody st2) (defScope st2) .none kV dc pm an cd ct), sl⟩) (c : PySem.W.codeIn K cd "is_fraction" = true) (k : PySem.W.keepIn K (.ref f) = true) :
    ∃ fd, DefOk K mg P Fs 2 "is_fraction" ["value"] f fd := by
  have F := fun_mk (st := st2) l c k
  refine ⟨_, PySem.W.mg_of X g a, k, ⟨"is_fraction", oc, od, st2, kV, dc, pm, an, cd, ct, sl, N2, f2, rfl, l, c, sc2, rfl, rfl, rfl, ok2⟩, F.binds (ps := ["value"]) (fun _ _ _ _ _ _ us hl => match us, hl with | [_], _ => rfl), ?_⟩
  intro n ks perm hm s us ws kin h1 h2
  have hm : (2, n, ks, perm) ∈ P.kws := hm
  simp only [P, List.mem_cons, List.not_mem_nil, or_false, Prod.mk.injEq] at hm
  exfalso
  omega
theorem def3 {K : PySem.W.Frag} {h : Heap} {mg : Str → Option Value} {f : Addr} {od an : Option Addr} {sl : Array (Option Value)} {oc kV dc pm cd ct : Value} (X : K.In h) (g : h.Ns mainGlobals mg)
    (a : PySem.W.nsIn K mainGlobals "lowest" = some (some (.ref f))) (l : K.lookup f = some ⟨oc, od, .func (PySem.W.fnOf "lowest" "lowest" (defArgs st3) (defBody st3) (defScope st3) .none kV dc pm an cd ct), sl⟩) (c : PySem.W.codeIn K cd "lowest" = true) (k : PySem.W.keepIn K (.ref f) = true) :
    ∃ fd, DefOk K mg P Fs 3 "lowest" ["a", "b"] f fd := by
  have F := fun_mk (st := st3) l c k
  refine ⟨_, PySem.W.mg_of X g a, k, ⟨"lowest", oc, od, st3, kV, dc, pm, an, cd, ct, sl, N3, f3, rfl, l, c, sc3, rfl, rfl, rfl, ok3⟩, F.binds (ps := ["a", "b"]) (fun _ _ _ _ _ _ us hl => match us, hl with | [_, _], _ => rfl), ?_⟩
  intro n ks perm hm s us ws kin h1 h2
  have hm : (3, n, ks, perm) ∈ P.kws := hm
  simp only [P, List.mem_cons, List.not_mem_nil, or_false, Prod.mk.injEq] at hm
  exfalso
  omega
theorem def4 {K : PySem.W.Frag} {h : Heap} {mg : Str → Option Value} {f : Addr} {od an : Option Addr} {sl : Array (Option Value)} {oc kV dc pm cd ct : Value} (X : K.In h) (g : h.Ns mainGlobals mg)
    (a : PySem.W.nsIn K mainGlobals "compared" = some (some (.ref f))) (l : K.lookup f = some ⟨oc, od, .func (PySem.W.fnOf "compared" "compared" (defArgs st4) (defBody st4) (defScope st4) .none kV dc pm an cd ct), sl⟩) (c : PySem.W.codeIn K cd "compared" = true) (k : PySem.W.keepIn K (.ref f) = true) :
    ∃ fd, DefOk K mg P Fs 4 "compared" ["one", "other"] f fd := by
  have F := fun_mk (st := st4) l c k
  refine ⟨_, PySem.W.mg_of X g a, k, ⟨"compared", oc, od, st4, kV, dc, pm, an, cd, ct, sl, N4, f4, rfl, l, c, sc4, rfl, rfl, rfl, ok4⟩, F.binds (ps := ["one", "other"]) (fun _ _ _ _ _ _ us hl => match us, hl with | [_, _], _ => rfl), ?_⟩
  intro n ks perm hm s us ws kin h1 h2
  have hm : (4, n, ks, perm) ∈ P.kws := hm
  simp only [P, List.mem_cons, List.not_mem_nil, or_false, Prod.mk.injEq] at hm
  exfalso
  omega
theorem def5 {K : PySem.W.Frag} {h : Heap} {mg : Str → Option Value} {f : Addr} {od an : Option Addr} {sl : Array (Option Value)} {oc kV dc pm cd ct : Value} (X : K.In h) (g : h.Ns mainGlobals mg)
    (a : PySem.W.nsIn K mainGlobals "plus" = some (some (.ref f))) (l : K.lookup f = some ⟨oc, od, .func (PySem.W.fnOf "plus" "plus" (defArgs st5) (defBody st5) (defScope st5) .none kV dc pm an cd ct), sl⟩) (c : PySem.W.codeIn K cd "plus" = true) (k : PySem.W.keepIn K (.ref f) = true) :
    ∃ fd, DefOk K mg P Fs 5 "plus" ["one", "other"] f fd := by
  have F := fun_mk (st := st5) l c k
  refine ⟨_, PySem.W.mg_of X g a, k, ⟨"plus", oc, od, st5, kV, dc, pm, an, cd, ct, sl, N5, f5, rfl, l, c, sc5, rfl, rfl, rfl, ok5⟩, F.binds (ps := ["one", "other"]) (fun _ _ _ _ _ _ us hl => match us, hl with | [_, _], _ => rfl), ?_⟩
  intro n ks perm hm s us ws kin h1 h2
  have hm : (5, n, ks, perm) ∈ P.kws := hm
  simp only [P, List.mem_cons, List.not_mem_nil, or_false, Prod.mk.injEq] at hm
  exfalso
  omega
theorem def6 {K : PySem.W.Frag} {h : Heap} {mg : Str → Option Value} {f : Addr} {od an : Option Addr} {sl : Array (Option Value)} {oc kV dc pm cd ct : Value} (X : K.In h) (g : h.Ns mainGlobals mg)
    (a : PySem.W.nsIn K mainGlobals "is_between" = some (some (.ref f))) (l : K.lookup f = some ⟨oc, od, .func (PySem.W.fnOf "is_between" "is_between" (defArgs st6) (defBody st6) (defScope st6) .none kV dc pm an cd ct), sl⟩) (c : PySem.W.codeIn K cd "is_between" = true) (k : PySem.W.keepIn K (.ref f) = true) :
    ∃ fd, DefOk K mg P Fs 6 "is_between" ["value"] f fd := by
  have F := fun_mk (st := st6) l c k
  refine ⟨_, PySem.W.mg_of X g a, k, ⟨"is_between", oc, od, st6, kV, dc, pm, an, cd, ct, sl, N6, f6, rfl, l, c, sc6, rfl, rfl, rfl, ok6⟩, F.binds (ps := ["value"]) (fun _ _ _ _ _ _ us hl => match us, hl with | [_], _ => rfl), ?_⟩
  intro n ks perm hm s us ws kin h1 h2
  have hm : (6, n, ks, perm) ∈ P.kws := hm
  simp only [P, List.mem_cons, List.not_mem_nil, or_false, Prod.mk.injEq] at hm
  exfalso
  omega
theorem def7 {K : PySem.W.Frag} {h : Heap} {mg : Str → Option Value} {f : Addr} {od an : Option Addr} {sl : Array (Option Value)} {oc kV dc pm cd ct : Value} (X : K.In h) (g : h.Ns mainGlobals mg)
    (a : PySem.W.nsIn K mainGlobals "is_side" = some (some (.ref f))) (l : K.lookup f = some ⟨oc, od, .func (PySem.W.fnOf "is_side" "is_side" (defArgs st7) (defBody st7) (defScope st7) .none kV dc pm an cd ct), sl⟩) (c : PySem.W.codeIn K cd "is_side" = true) (k : PySem.W.keepIn K (.ref f) = true) :
    ∃ fd, DefOk K mg P Fs 7 "is_side" ["value"] f fd := by
  have F := fun_mk (st := st7) l c k
  refine ⟨_, PySem.W.mg_of X g a, k, ⟨"is_side", oc, od, st7, kV, dc, pm, an, cd, ct, sl, N7, f7, rfl, l, c, sc7, rfl, rfl, rfl, ok7⟩, F.binds (ps := ["value"]) (fun _ _ _ _ _ _ us hl => match us, hl with | [_], _ => rfl), ?_⟩
  intro n ks perm hm s us ws kin h1 h2
  have hm : (7, n, ks, perm) ∈ P.kws := hm
  simp only [P, List.mem_cons, List.not_mem_nil, or_false, Prod.mk.injEq] at hm
  exfalso
  omega
theorem def8 {K : PySem.W.Frag} {h : Heap} {mg : Str → Option Value} {f : Addr} {od an : Option Addr} {sl : Array (Option Value)} {oc kV dc pm cd ct : Value} (X : K.In h) (g : h.Ns mainGlobals mg)
    (a : PySem.W.nsIn K mainGlobals "sides_error" = some (some (.ref f))) (l : K.lookup f = some ⟨oc, od, .func (PySem.W.fnOf "sides_error" "sides_error" (defArgs st8) (defBody st8) (defScope st8) .none kV dc pm an cd ct), sl⟩) (c : PySem.W.codeIn K cd "sides_error" = true) (k : PySem.W.keepIn K (.ref f) = true) :
    ∃ fd, DefOk K mg P Fs 8 "sides_error" ["sides"] f fd := by
  have F := fun_mk (st := st8) l c k
  refine ⟨_, PySem.W.mg_of X g a, k, ⟨"sides_error", oc, od, st8, kV, dc, pm, an, cd, ct, sl, N8, f8, rfl, l, c, sc8, rfl, rfl, rfl, ok8⟩, F.binds (ps := ["sides"]) (fun _ _ _ _ _ _ us hl => match us, hl with | [_], _ => rfl), ?_⟩
  intro n ks perm hm s us ws kin h1 h2
  have hm : (8, n, ks, perm) ∈ P.kws := hm
  simp only [P, List.mem_cons, List.not_mem_nil, or_false, Prod.mk.injEq] at hm
  exfalso
  omega
theorem def9 {K : PySem.W.Frag} {h : Heap} {mg : Str → Option Value} {f : Addr} {od an : Option Addr} {sl : Array (Option Value)} {oc kV dc pm cd ct : Value} (X : K.In h) (g : h.Ns mainGlobals mg)
    (a : PySem.W.nsIn K mainGlobals "die_error" = some (some (.ref f))) (l : K.lookup f = some ⟨oc, od, .func (PySem.W.fnOf "die_error" "die_error" (defArgs st9) (defBody st9) (defScope st9) .none kV dc pm an cd ct), sl⟩) (c : PySem.W.codeIn K cd "die_error" = true) (k : PySem.W.keepIn K (.ref f) = true) :
    ∃ fd, DefOk K mg P Fs 9 "die_error" ["value"] f fd := by
  have F := fun_mk (st := st9) l c k
  refine ⟨_, PySem.W.mg_of X g a, k, ⟨"die_error", oc, od, st9, kV, dc, pm, an, cd, ct, sl, N9, f9, rfl, l, c, sc9, rfl, rfl, rfl, ok9⟩, F.binds (ps := ["value"]) (fun _ _ _ _ _ _ us hl => match us, hl with | [_], _ => rfl), ?_⟩
  intro n ks perm hm s us ws kin h1 h2
  have hm : (9, n, ks, perm) ∈ P.kws := hm
  simp only [P, List.mem_cons, List.not_mem_nil, or_false, Prod.mk.injEq] at hm
  have hm : (n = 0 ∧ ks = (["value"] : List Str) ∧ perm = [0]) := ⟨hm.2.1, hm.2.2.1, hm.2.2.2⟩
  rcases hm with ⟨rfl, rfl, rfl⟩
  · exact match us, ws, h1, h2 with | [], [_], _, _ => .of_eq rfl
theorem def10 {K : PySem.W.Frag} {h : Heap} {mg : Str → Option Value} {f : Addr} {od an : Option Addr} {sl : Array (Option Value)} {oc kV dc pm cd ct : Value} (X : K.In h) (g : h.Ns mainGlobals mg)
    (a : PySem.W.nsIn K mainGlobals "_law_loom" = some (some (.ref f))) (l : K.lookup f = some ⟨oc, od, .func (PySem.W.fnOf "_law_loom" "_law_loom" (defArgs st10) (defBody st10) (defScope st10) .none kV dc pm an cd ct), sl⟩) (c : PySem.W.codeIn K cd "_law_loom" = true) (k : PySem.W.keepIn K (.ref f) = true) :
    ∃ fd, DefOk K mg P Fs 10 "_law_loom" ["script"] f fd := by
  have F := fun_mk (st := st10) l c k
  refine ⟨_, PySem.W.mg_of X g a, k, ⟨"_law_loom", oc, od, st10, kV, dc, pm, an, cd, ct, sl, N10, f10, rfl, l, c, sc10, rfl, rfl, rfl, ok10⟩, F.binds (ps := ["script"]) (fun _ _ _ _ _ _ us hl => match us, hl with | [_], _ => rfl), ?_⟩
  intro n ks perm hm s us ws kin h1 h2
  have hm : (10, n, ks, perm) ∈ P.kws := hm
  simp only [P, List.mem_cons, List.not_mem_nil, or_false, Prod.mk.injEq] at hm
  exfalso
  omega
theorem def11 {K : PySem.W.Frag} {h : Heap} {mg : Str → Option Value} {f : Addr} {od an : Option Addr} {sl : Array (Option Value)} {oc kV dc pm cd ct : Value} (X : K.In h) (g : h.Ns mainGlobals mg)
    (a : PySem.W.nsIn K mainGlobals "_law_draw" = some (some (.ref f))) (l : K.lookup f = some ⟨oc, od, .func (PySem.W.fnOf "_law_draw" "_law_draw" (defArgs st11) (defBody st11) (defScope st11) .none kV dc pm an cd ct), sl⟩) (c : PySem.W.codeIn K cd "_law_draw" = true) (k : PySem.W.keepIn K (.ref f) = true) :
    ∃ fd, DefOk K mg P Fs 11 "_law_draw" ["loom", "many"] f fd := by
  have F := fun_mk (st := st11) l c k
  refine ⟨_, PySem.W.mg_of X g a, k, ⟨"_law_draw", oc, od, st11, kV, dc, pm, an, cd, ct, sl, N11, f11, rfl, l, c, sc11, rfl, rfl, rfl, ok11⟩, F.binds (ps := ["loom", "many"]) (fun _ _ _ _ _ _ us hl => match us, hl with | [_, _], _ => rfl), ?_⟩
  intro n ks perm hm s us ws kin h1 h2
  have hm : (11, n, ks, perm) ∈ P.kws := hm
  simp only [P, List.mem_cons, List.not_mem_nil, or_false, Prod.mk.injEq] at hm
  exfalso
  omega
theorem def12 {K : PySem.W.Frag} {h : Heap} {mg : Str → Option Value} {f : Addr} {od an : Option Addr} {sl : Array (Option Value)} {oc kV dc pm cd ct : Value} (X : K.In h) (g : h.Ns mainGlobals mg)
    (a : PySem.W.nsIn K mainGlobals "_law_pick" = some (some (.ref f))) (l : K.lookup f = some ⟨oc, od, .func (PySem.W.fnOf "_law_pick" "_law_pick" (defArgs st12) (defBody st12) (defScope st12) .none kV dc pm an cd ct), sl⟩) (c : PySem.W.codeIn K cd "_law_pick" = true) (k : PySem.W.keepIn K (.ref f) = true) :
    ∃ fd, DefOk K mg P Fs 12 "_law_pick" ["loom", "things"] f fd := by
  have F := fun_mk (st := st12) l c k
  refine ⟨_, PySem.W.mg_of X g a, k, ⟨"_law_pick", oc, od, st12, kV, dc, pm, an, cd, ct, sl, N12, f12, rfl, l, c, sc12, rfl, rfl, rfl, ok12⟩, F.binds (ps := ["loom", "things"]) (fun _ _ _ _ _ _ us hl => match us, hl with | [_, _], _ => rfl), ?_⟩
  intro n ks perm hm s us ws kin h1 h2
  have hm : (12, n, ks, perm) ∈ P.kws := hm
  simp only [P, List.mem_cons, List.not_mem_nil, or_false, Prod.mk.injEq] at hm
  exfalso
  omega
theorem def13 {K : PySem.W.Frag} {h : Heap} {mg : Str → Option Value} {f : Addr} {od an : Option Addr} {sl : Array (Option Value)} {oc kV dc pm cd ct : Value} (X : K.In h) (g : h.Ns mainGlobals mg)
    (a : PySem.W.nsIn K mainGlobals "_law_mixed" = some (some (.ref f))) (l : K.lookup f = some ⟨oc, od, .func (PySem.W.fnOf "_law_mixed" "_law_mixed" (defArgs st13) (defBody st13) (defScope st13) .none kV dc pm an cd ct), sl⟩) (c : PySem.W.codeIn K cd "_law_mixed" = true) (k : PySem.W.keepIn K (.ref f) = true) :
    ∃ fd, DefOk K mg P Fs 13 "_law_mixed" ["loom", "things"] f fd := by
  have F := fun_mk (st := st13) l c k
  refine ⟨_, PySem.W.mg_of X g a, k, ⟨"_law_mixed", oc, od, st13, kV, dc, pm, an, cd, ct, sl, N13, f13, rfl, l, c, sc13, rfl, rfl, rfl, ok13⟩, F.binds (ps := ["loom", "things"]) (fun _ _ _ _ _ _ us hl => match us, hl with | [_, _], _ => rfl), ?_⟩
  intro n ks perm hm s us ws kin h1 h2
  have hm : (13, n, ks, perm) ∈ P.kws := hm
  simp only [P, List.mem_cons, List.not_mem_nil, or_false, Prod.mk.injEq] at hm
  exfalso
  omega
theorem def14 {K : PySem.W.Frag} {h : Heap} {mg : Str → Option Value} {f : Addr} {od an : Option Addr} {sl : Array (Option Value)} {oc kV dc pm cd ct : Value} (X : K.In h) (g : h.Ns mainGlobals mg)
    (a : PySem.W.nsIn K mainGlobals "_law_gcd" = some (some (.ref f))) (l : K.lookup f = some ⟨oc, od, .func (PySem.W.fnOf "_law_gcd" "_law_gcd" (defArgs st14) (defBody st14) (defScope st14) .none kV dc pm an cd ct), sl⟩) (c : PySem.W.codeIn K cd "_law_gcd" = true) (k : PySem.W.keepIn K (.ref f) = true) :
    ∃ fd, DefOk K mg P Fs 14 "_law_gcd" ["a", "b"] f fd := by
  have F := fun_mk (st := st14) l c k
  refine ⟨_, PySem.W.mg_of X g a, k, ⟨"_law_gcd", oc, od, st14, kV, dc, pm, an, cd, ct, sl, N14, f14, rfl, l, c, sc14, rfl, rfl, rfl, ok14⟩, F.binds (ps := ["a", "b"]) (fun _ _ _ _ _ _ us hl => match us, hl with | [_, _], _ => rfl), ?_⟩
  intro n ks perm hm s us ws kin h1 h2
  have hm : (14, n, ks, perm) ∈ P.kws := hm
  simp only [P, List.mem_cons, List.not_mem_nil, or_false, Prod.mk.injEq] at hm
  exfalso
  omega
theorem def15 {K : PySem.W.Frag} {h : Heap} {mg : Str → Option Value} {f : Addr} {od an : Option Addr} {sl : Array (Option Value)} {oc kV dc pm cd ct : Value} (X : K.In h) (g : h.Ns mainGlobals mg)
    (a : PySem.W.nsIn K mainGlobals "_law_frac" = some (some (.ref f))) (l : K.lookup f = some ⟨oc, od, .func (PySem.W.fnOf "_law_frac" "_law_frac" (defArgs st15) (defBody st15) (defScope st15) .none kV dc pm an cd ct), sl⟩) (c : PySem.W.codeIn K cd "_law_frac" = true) (k : PySem.W.keepIn K (.ref f) = true) :
    ∃ fd, DefOk K mg P Fs 15 "_law_frac" ["a", "b"] f fd := by
  have F := fun_mk (st := st15) l c k
  refine ⟨_, PySem.W.mg_of X g a, k, ⟨"_law_frac", oc, od, st15, kV, dc, pm, an, cd, ct, sl, N15, f15, rfl, l, c, sc15, rfl, rfl, rfl, ok15⟩, F.binds (ps := ["a", "b"]) (fun _ _ _ _ _ _ us hl => match us, hl with | [_, _], _ => rfl), ?_⟩
  intro n ks perm hm s us ws kin h1 h2
  have hm : (15, n, ks, perm) ∈ P.kws := hm
  simp only [P, List.mem_cons, List.not_mem_nil, or_false, Prod.mk.injEq] at hm
  exfalso
  omega
theorem def16 {K : PySem.W.Frag} {h : Heap} {mg : Str → Option Value} {f : Addr} {od an : Option Addr} {sl : Array (Option Value)} {oc kV dc pm cd ct : Value} (X : K.In h) (g : h.Ns mainGlobals mg)
    (a : PySem.W.nsIn K mainGlobals "_law_plus" = some (some (.ref f))) (l : K.lookup f = some ⟨oc, od, .func (PySem.W.fnOf "_law_plus" "_law_plus" (defArgs st16) (defBody st16) (defScope st16) .none kV dc pm an cd ct), sl⟩) (c : PySem.W.codeIn K cd "_law_plus" = true) (k : PySem.W.keepIn K (.ref f) = true) :
    ∃ fd, DefOk K mg P Fs 16 "_law_plus" ["one", "other"] f fd := by
  have F := fun_mk (st := st16) l c k
  refine ⟨_, PySem.W.mg_of X g a, k, ⟨"_law_plus", oc, od, st16, kV, dc, pm, an, cd, ct, sl, N16, f16, rfl, l, c, sc16, rfl, rfl, rfl, ok16⟩, F.binds (ps := ["one", "other"]) (fun _ _ _ _ _ _ us hl => match us, hl with | [_, _], _ => rfl), ?_⟩
  intro n ks perm hm s us ws kin h1 h2
  have hm : (16, n, ks, perm) ∈ P.kws := hm
  simp only [P, List.mem_cons, List.not_mem_nil, or_false, Prod.mk.injEq] at hm
  exfalso
  omega
theorem def17 {K : PySem.W.Frag} {h : Heap} {mg : Str → Option Value} {f : Addr} {od an : Option Addr} {sl : Array (Option Value)} {oc kV dc pm cd ct : Value} (X : K.In h) (g : h.Ns mainGlobals mg)
    (a : PySem.W.nsIn K mainGlobals "_law_share" = some (some (.ref f))) (l : K.lookup f = some ⟨oc, od, .func (PySem.W.fnOf "_law_share" "_law_share" (defArgs st17) (defBody st17) (defScope st17) .none kV dc pm an cd ct), sl⟩) (c : PySem.W.codeIn K cd "_law_share" = true) (k : PySem.W.keepIn K (.ref f) = true) :
    ∃ fd, DefOk K mg P Fs 17 "_law_share" ["loom", "most"] f fd := by
  have F := fun_mk (st := st17) l c k
  refine ⟨_, PySem.W.mg_of X g a, k, ⟨"_law_share", oc, od, st17, kV, dc, pm, an, cd, ct, sl, N17, f17, rfl, l, c, sc17, rfl, rfl, rfl, ok17⟩, F.binds (ps := ["loom", "most"]) (fun _ _ _ _ _ _ us hl => match us, hl with | [_, _], _ => rfl), ?_⟩
  intro n ks perm hm s us ws kin h1 h2
  have hm : (17, n, ks, perm) ∈ P.kws := hm
  simp only [P, List.mem_cons, List.not_mem_nil, or_false, Prod.mk.injEq] at hm
  exfalso
  omega
theorem def18 {K : PySem.W.Frag} {h : Heap} {mg : Str → Option Value} {f : Addr} {od an : Option Addr} {sl : Array (Option Value)} {oc kV dc pm cd ct : Value} (X : K.In h) (g : h.Ns mainGlobals mg)
    (a : PySem.W.nsIn K mainGlobals "_law_die" = some (some (.ref f))) (l : K.lookup f = some ⟨oc, od, .func (PySem.W.fnOf "_law_die" "_law_die" (defArgs st18) (defBody st18) (defScope st18) .none kV dc pm an cd ct), sl⟩) (c : PySem.W.codeIn K cd "_law_die" = true) (k : PySem.W.keepIn K (.ref f) = true) :
    ∃ fd, DefOk K mg P Fs 18 "_law_die" ["loom"] f fd := by
  have F := fun_mk (st := st18) l c k
  refine ⟨_, PySem.W.mg_of X g a, k, ⟨"_law_die", oc, od, st18, kV, dc, pm, an, cd, ct, sl, N18, f18, rfl, l, c, sc18, rfl, rfl, rfl, ok18⟩, F.binds (ps := ["loom"]) (fun _ _ _ _ _ _ us hl => match us, hl with | [_], _ => rfl), ?_⟩
  intro n ks perm hm s us ws kin h1 h2
  have hm : (18, n, ks, perm) ∈ P.kws := hm
  simp only [P, List.mem_cons, List.not_mem_nil, or_false, Prod.mk.injEq] at hm
  exfalso
  omega
theorem def19 {K : PySem.W.Frag} {h : Heap} {mg : Str → Option Value} {f : Addr} {od an : Option Addr} {sl : Array (Option Value)} {oc kV dc pm cd ct : Value} (X : K.In h) (g : h.Ns mainGlobals mg)
    (a : PySem.W.nsIn K mainGlobals "_law_odd" = some (some (.ref f))) (l : K.lookup f = some ⟨oc, od, .func (PySem.W.fnOf "_law_odd" "_law_odd" (defArgs st19) (defBody st19) (defScope st19) .none kV dc pm an cd ct), sl⟩) (c : PySem.W.codeIn K cd "_law_odd" = true) (k : PySem.W.keepIn K (.ref f) = true) :
    ∃ fd, DefOk K mg P Fs 19 "_law_odd" ["loom"] f fd := by
  have F := fun_mk (st := st19) l c k
  refine ⟨_, PySem.W.mg_of X g a, k, ⟨"_law_odd", oc, od, st19, kV, dc, pm, an, cd, ct, sl, N19, f19, rfl, l, c, sc19, rfl, rfl, rfl, ok19⟩, F.binds (ps := ["loom"]) (fun _ _ _ _ _ _ us hl => match us, hl with | [_], _ => rfl), ?_⟩
  intro n ks perm hm s us ws kin h1 h2
  have hm : (19, n, ks, perm) ∈ P.kws := hm
  simp only [P, List.mem_cons, List.not_mem_nil, or_false, Prod.mk.injEq] at hm
  exfalso
  omega
theorem def20 {K : PySem.W.Frag} {h : Heap} {mg : Str → Option Value} {f : Addr} {od an : Option Addr} {sl : Array (Option Value)} {oc kV dc pm cd ct : Value} (X : K.In h) (g : h.Ns mainGlobals mg)
    (a : PySem.W.nsIn K mainGlobals "_law_is_whole" = some (some (.ref f))) (l : K.lookup f = some ⟨oc, od, .func (PySem.W.fnOf "_law_is_whole" "_law_is_whole" (defArgs st20) (defBody st20) (defScope st20) .none kV dc pm an cd ct), sl⟩) (c : PySem.W.codeIn K cd "_law_is_whole" = true) (k : PySem.W.keepIn K (.ref f) = true) :
    ∃ fd, DefOk K mg P Fs 20 "_law_is_whole" ["value", "low", "high"] f fd := by
  have F := fun_mk (st := st20) l c k
  refine ⟨_, PySem.W.mg_of X g a, k, ⟨"_law_is_whole", oc, od, st20, kV, dc, pm, an, cd, ct, sl, N20, f20, rfl, l, c, sc20, rfl, rfl, rfl, ok20⟩, F.binds (ps := ["value", "low", "high"]) (fun _ _ _ _ _ _ us hl => match us, hl with | [_, _, _], _ => rfl), ?_⟩
  intro n ks perm hm s us ws kin h1 h2
  have hm : (20, n, ks, perm) ∈ P.kws := hm
  simp only [P, List.mem_cons, List.not_mem_nil, or_false, Prod.mk.injEq] at hm
  exfalso
  omega
theorem def21 {K : PySem.W.Frag} {h : Heap} {mg : Str → Option Value} {f : Addr} {od an : Option Addr} {sl : Array (Option Value)} {oc kV dc pm cd ct : Value} (X : K.In h) (g : h.Ns mainGlobals mg)
    (a : PySem.W.nsIn K mainGlobals "_law_is_share" = some (some (.ref f))) (l : K.lookup f = some ⟨oc, od, .func (PySem.W.fnOf "_law_is_share" "_law_is_share" (defArgs st21) (defBody st21) (defScope st21) .none kV dc pm an cd ct), sl⟩) (c : PySem.W.codeIn K cd "_law_is_share" = true) (k : PySem.W.keepIn K (.ref f) = true) :
    ∃ fd, DefOk K mg P Fs 21 "_law_is_share" ["value", "is_open"] f fd := by
  have F := fun_mk (st := st21) l c k
  refine ⟨_, PySem.W.mg_of X g a, k, ⟨"_law_is_share", oc, od, st21, kV, dc, pm, an, cd, ct, sl, N21, f21, rfl, l, c, sc21, rfl, rfl, rfl, ok21⟩, F.binds (ps := ["value", "is_open"]) (fun _ _ _ _ _ _ us hl => match us, hl with | [_, _], _ => rfl), ?_⟩
  intro n ks perm hm s us ws kin h1 h2
  have hm : (21, n, ks, perm) ∈ P.kws := hm
  simp only [P, List.mem_cons, List.not_mem_nil, or_false, Prod.mk.injEq] at hm
  exfalso
  omega
theorem def22 {K : PySem.W.Frag} {h : Heap} {mg : Str → Option Value} {f : Addr} {od an : Option Addr} {sl : Array (Option Value)} {oc kV dc pm cd ct : Value} (X : K.In h) (g : h.Ns mainGlobals mg)
    (a : PySem.W.nsIn K mainGlobals "_law_sides_slip" = some (some (.ref f))) (l : K.lookup f = some ⟨oc, od, .func (PySem.W.fnOf "_law_sides_slip" "_law_sides_slip" (defArgs st22) (defBody st22) (defScope st22) .none kV dc pm an cd ct), sl⟩) (c : PySem.W.codeIn K cd "_law_sides_slip" = true) (k : PySem.W.keepIn K (.ref f) = true) :
    ∃ fd, DefOk K mg P Fs 22 "_law_sides_slip" ["sides"] f fd := by
  have F := fun_mk (st := st22) l c k
  refine ⟨_, PySem.W.mg_of X g a, k, ⟨"_law_sides_slip", oc, od, st22, kV, dc, pm, an, cd, ct, sl, N22, f22, rfl, l, c, sc22, rfl, rfl, rfl, ok22⟩, F.binds (ps := ["sides"]) (fun _ _ _ _ _ _ us hl => match us, hl with | [_], _ => rfl), ?_⟩
  intro n ks perm hm s us ws kin h1 h2
  have hm : (22, n, ks, perm) ∈ P.kws := hm
  simp only [P, List.mem_cons, List.not_mem_nil, or_false, Prod.mk.injEq] at hm
  exfalso
  omega
theorem def23 {K : PySem.W.Frag} {h : Heap} {mg : Str → Option Value} {f : Addr} {od an : Option Addr} {sl : Array (Option Value)} {oc kV dc pm cd ct : Value} (X : K.In h) (g : h.Ns mainGlobals mg)
    (a : PySem.W.nsIn K mainGlobals "_law_die_slip" = some (some (.ref f))) (l : K.lookup f = some ⟨oc, od, .func (PySem.W.fnOf "_law_die_slip" "_law_die_slip" (defArgs st23) (defBody st23) (defScope st23) .none kV dc pm an cd ct), sl⟩) (c : PySem.W.codeIn K cd "_law_die_slip" = true) (k : PySem.W.keepIn K (.ref f) = true) :
    ∃ fd, DefOk K mg P Fs 23 "_law_die_slip" ["value"] f fd := by
  have F := fun_mk (st := st23) l c k
  refine ⟨_, PySem.W.mg_of X g a, k, ⟨"_law_die_slip", oc, od, st23, kV, dc, pm, an, cd, ct, sl, N23, f23, rfl, l, c, sc23, rfl, rfl, rfl, ok23⟩, F.binds (ps := ["value"]) (fun _ _ _ _ _ _ us hl => match us, hl with | [_], _ => rfl), ?_⟩
  intro n ks perm hm s us ws kin h1 h2
  have hm : (23, n, ks, perm) ∈ P.kws := hm
  simp only [P, List.mem_cons, List.not_mem_nil, or_false, Prod.mk.injEq] at hm
  exfalso
  omega
theorem def24 {K : PySem.W.Frag} {h : Heap} {mg : Str → Option Value} {f : Addr} {od an : Option Addr} {sl : Array (Option Value)} {oc kV dc pm cd ct : Value} (X : K.In h) (g : h.Ns mainGlobals mg)
    (a : PySem.W.nsIn K mainGlobals "_law_bent_side" = some (some (.ref f))) (l : K.lookup f = some ⟨oc, od, .func (PySem.W.fnOf "_law_bent_side" "_law_bent_side" (defArgs st24) (defBody st24) (defScope st24) .none kV dc pm an cd ct), sl⟩) (c : PySem.W.codeIn K cd "_law_bent_side" = true) (k : PySem.W.keepIn K (.ref f) = true) :
    ∃ fd, DefOk K mg P Fs 24 "_law_bent_side" ["loom", "side"] f fd := by
  have F := fun_mk (st := st24) l c k
  refine ⟨_, PySem.W.mg_of X g a, k, ⟨"_law_bent_side", oc, od, st24, kV, dc, pm, an, cd, ct, sl, N24, f24, rfl, l, c, sc24, rfl, rfl, rfl, ok24⟩, F.binds (ps := ["loom", "side"]) (fun _ _ _ _ _ _ us hl => match us, hl with | [_, _], _ => rfl), ?_⟩
  intro n ks perm hm s us ws kin h1 h2
  have hm : (24, n, ks, perm) ∈ P.kws := hm
  simp only [P, List.mem_cons, List.not_mem_nil, or_false, Prod.mk.injEq] at hm
  exfalso
  omega
theorem def25 {K : PySem.W.Frag} {h : Heap} {mg : Str → Option Value} {f : Addr} {od an : Option Addr} {sl : Array (Option Value)} {oc kV dc pm cd ct : Value} (X : K.In h) (g : h.Ns mainGlobals mg)
    (a : PySem.W.nsIn K mainGlobals "_law_bent" = some (some (.ref f))) (l : K.lookup f = some ⟨oc, od, .func (PySem.W.fnOf "_law_bent" "_law_bent" (defArgs st25) (defBody st25) (defScope st25) .none kV dc pm an cd ct), sl⟩) (c : PySem.W.codeIn K cd "_law_bent" = true) (k : PySem.W.keepIn K (.ref f) = true) :
    ∃ fd, DefOk K mg P Fs 25 "_law_bent" ["loom", "die"] f fd := by
  have F := fun_mk (st := st25) l c k
  refine ⟨_, PySem.W.mg_of X g a, k, ⟨"_law_bent", oc, od, st25, kV, dc, pm, an, cd, ct, sl, N25, f25, rfl, l, c, sc25, rfl, rfl, rfl, ok25⟩, F.binds (ps := ["loom", "die"]) (fun _ _ _ _ _ _ us hl => match us, hl with | [_, _], _ => rfl), ?_⟩
  intro n ks perm hm s us ws kin h1 h2
  have hm : (25, n, ks, perm) ∈ P.kws := hm
  simp only [P, List.mem_cons, List.not_mem_nil, or_false, Prod.mk.injEq] at hm
  exfalso
  omega
theorem def26 {K : PySem.W.Frag} {h : Heap} {mg : Str → Option Value} {f : Addr} {od an : Option Addr} {sl : Array (Option Value)} {oc kV dc pm cd ct : Value} (X : K.In h) (g : h.Ns mainGlobals mg)
    (a : PySem.W.nsIn K mainGlobals "law" = some (some (.ref f))) (l : K.lookup f = some ⟨oc, od, .func (PySem.W.fnOf "law" "law" (defArgs st26) (defBody st26) (defScope st26) .none kV dc pm an cd ct), sl⟩) (c : PySem.W.codeIn K cd "law" = true) (k : PySem.W.keepIn K (.ref f) = true) :
    ∃ fd, DefOk K mg P Fs 26 "law" ["script"] f fd := by
  have F := fun_mk (st := st26) l c k
  refine ⟨_, PySem.W.mg_of X g a, k, ⟨"law", oc, od, st26, kV, dc, pm, an, cd, ct, sl, N26, f26, rfl, l, c, sc26, rfl, rfl, rfl, ok26⟩, F.binds (ps := ["script"]) (fun _ _ _ _ _ _ us hl => match us, hl with | [_], _ => rfl), ?_⟩
  intro n ks perm hm s us ws kin h1 h2
  have hm : (26, n, ks, perm) ∈ P.kws := hm
  simp only [P, List.mem_cons, List.not_mem_nil, or_false, Prod.mk.injEq] at hm
  exfalso
  omega
theorem all_mk {K : PySem.W.Frag} {h : Heap} {mg : Str → Option Value} (X : K.In h) (g : h.Ns mainGlobals mg) {p0 : Addr} {od0 an0 : Option Addr} {sl0 : Array (Option Value)} {oc0 kV0 dc0 pm0 cd0 ct0 : Value} {p1 : Addr} {od1 an1 : Option Addr} {sl1 : Array (Option Value)} {oc1 kV1 dc1 pm1 cd1 ct1 : Value} {p2 : Addr} {od2 an2 : Option Addr} {sl2 : Array (Option Value)} {oc2 kV2 dc2 pm2 cd2 ct2 : Value} {p3 : Addr} {od3 an3 : Option Addr} {sl3 : Array (Option Value)} {oc3 kV3 dc3 pm3 cd3 ct3 : Value} {p4 : Addr} {od4 an4 : Option Addr} {sl4 : Array (Option Value)} {oc4 kV4 dc4 pm4 cd4 ct4 : Value} {p5 : Addr} {od5 an5 : Option Addr} {sl5 : Array (Option Value)} {oc5 kV5 dc5 pm5 cd5 ct5 : Value} {p6 : Addr} {od6 an6 : Option Addr} {sl6 : Array (Option Value)} {oc6 kV6 dc6 pm6 cd6 ct6 : Value} {p7 : Addr} {od7 an7 : Option Addr} {sl7 : Array (Option Value)} {oc7 kV7 dc7 pm7 cd7 ct7 : Value} {p8 : Addr} {od8 an8 : Option Addr} {sl8 : Array (Option Value)} {oc8 kV8 dc8 pm8 cd8 ct8 : Value} {p9 : Addr} {od9 an9 : Option Addr} {sl9 : Array (Option Value)} {oc9 kV9 dc9 pm9 cd9 ct9 : Value} {p10 : Addr} {od10 an10 : Option Addr} {sl10 : Array (Option Value)} {oc10 kV10 dc10 pm10 cd10 ct10 : Value} {p11 : Addr} {od11 an11 : Option Addr} {sl11 : Array (Option Value)} {oc11 kV11 dc11 pm11 cd11 ct11 : Value} {p12 : Addr} {od12 an12 : Option Addr} {sl12 : Array (Option Value)} {oc12 kV12 dc12 pm12 cd12 ct12 : Value} {p13 : Addr} {od13 an13 : Option Addr} {sl13 : Array (Option Value)} {oc13 kV13 dc13 pm13 cd13 ct13 : Value} {p14 : Addr} {od14 an14 : Option Addr} {sl14 : Array (Option Value)} {oc14 kV14 dc14 pm14 cd14 ct14 : Value} {p15 : Addr} {od15 an15 : Option Addr} {sl15 : Array (Option Value)} {oc15 kV15 dc15 pm15 cd15 ct15 : Value} {p16 : Addr} {od16 an16 : Option Addr} {sl16 : Array (Option Value)} {oc16 kV16 dc16 pm16 cd16 ct16 : Value} {p17 : Addr} {od17 an17 : Option Addr} {sl17 : Array (Option Value)} {oc17 kV17 dc17 pm17 cd17 ct17 : Value} {p18 : Addr} {od18 an18 : Option Addr} {sl18 : Array (Option Value)} {oc18 kV18 dc18 pm18 cd18 ct18 : Value} {p19 : Addr} {od19 an19 : Option Addr} {sl19 : Array (Option Value)} {oc19 kV19 dc19 pm19 cd19 ct19 : Value} {p20 : Addr} {od20 an20 : Option Addr} {sl20 : Array (Option Value)} {oc20 kV20 dc20 pm20 cd20 ct20 : Value} {p21 : Addr} {od21 an21 : Option Addr} {sl21 : Array (Option Value)} {oc21 kV21 dc21 pm21 cd21 ct21 : Value} {p22 : Addr} {od22 an22 : Option Addr} {sl22 : Array (Option Value)} {oc22 kV22 dc22 pm22 cd22 ct22 : Value} {p23 : Addr} {od23 an23 : Option Addr} {sl23 : Array (Option Value)} {oc23 kV23 dc23 pm23 cd23 ct23 : Value} {p24 : Addr} {od24 an24 : Option Addr} {sl24 : Array (Option Value)} {oc24 kV24 dc24 pm24 cd24 ct24 : Value} {p25 : Addr} {od25 an25 : Option Addr} {sl25 : Array (Option Value)} {oc25 kV25 dc25 pm25 cd25 ct25 : Value} {p26 : Addr} {od26 an26 : Option Addr} {sl26 : Array (Option Value)} {oc26 kV26 dc26 pm26 cd26 ct26 : Value} {tk0 : Tok} {tk1 : Tok}
    (a0 : PySem.W.nsIn K mainGlobals "is_integer" = some (some (.ref p0))) (l0 : K.lookup p0 = some ⟨oc0, od0, .func (PySem.W.fnOf "is_integer" "is_integer" (defArgs st0) (defBody st0) (defScope st0) .none kV0 dc0 pm0 an0 cd0 ct0), sl0⟩) (c0 : PySem.W.codeIn K cd0 "is_integer" = true) (k0 : PySem.W.keepIn K (.ref p0) = true)
    (a1 : PySem.W.nsIn K mainGlobals "divisor" = some (some (.ref p1))) (l1 : K.lookup p1 = some ⟨oc1, od1, .func (PySem.W.fnOf "divisor" "divisor" (defArgs st1) (defBody st1) (defScope st1) .none kV1 dc1 pm1 an1 cd1 ct1), sl1⟩) (c1 : PySem.W.codeIn K cd1 "divisor" = true) (k1 : PySem.W.keepIn K (.ref p1) = true)
    (a2 : PySem.W.nsIn K mainGlobals "is_fraction" = some (some (.ref p2))) (l2 : K.lookup p2 = some ⟨oc2, od2, .func (PySem.W.fnOf "is_fraction" "is_fraction" (defArgs st2) (defBody st2) (defScope st2) .none kV2 dc2 pm2 an2 cd2 ct2), sl2⟩) (c2 : PySem.W.codeIn K cd2 "is_fraction" = true) (k2 : PySem.W.keepIn K (.ref p2) = true)
    (a3 : PySem.W.nsIn K mainGlobals "lowest" = some (some (.ref p3))) (l3 : K.lookup p3 = some ⟨oc3, od3, .func (PySem.W.fnOf "lowest" "lowest" (defArgs st3) (defBody st3) (defScope st3) .none kV3 dc3 pm3 an3 cd3 ct3), sl3⟩) (c3 : PySem.W.codeIn K cd3 "lowest" = true) (k3 : PySem.W.keepIn K (.ref p3) = true)
    (a4 : PySem.W.nsIn K mainGlobals "compared" = some (some (.ref p4))) (l4 : K.lookup p4 = some ⟨oc4, od4, .func (PySem.W.fnOf "compared" "compared" (defArgs st4) (defBody st4) (defScope st4) .none kV4 dc4 pm4 an4 cd4 ct4), sl4⟩) (c4 : PySem.W.codeIn K cd4 "compared" = true) (k4 : PySem.W.keepIn K (.ref p4) = true)
    (a5 : PySem.W.nsIn K mainGlobals "plus" = some (some (.ref p5))) (l5 : K.lookup p5 = some ⟨oc5, od5, .func (PySem.W.fnOf "plus" "plus" (defArgs st5) (defBody st5) (defScope st5) .none kV5 dc5 pm5 an5 cd5 ct5), sl5⟩) (c5 : PySem.W.codeIn K cd5 "plus" = true) (k5 : PySem.W.keepIn K (.ref p5) = true)
    (a6 : PySem.W.nsIn K mainGlobals "is_between" = some (some (.ref p6))) (l6 : K.lookup p6 = some ⟨oc6, od6, .func (PySem.W.fnOf "is_between" "is_between" (defArgs st6) (defBody st6) (defScope st6) .none kV6 dc6 pm6 an6 cd6 ct6), sl6⟩) (c6 : PySem.W.codeIn K cd6 "is_between" = true) (k6 : PySem.W.keepIn K (.ref p6) = true)
    (a7 : PySem.W.nsIn K mainGlobals "is_side" = some (some (.ref p7))) (l7 : K.lookup p7 = some ⟨oc7, od7, .func (PySem.W.fnOf "is_side" "is_side" (defArgs st7) (defBody st7) (defScope st7) .none kV7 dc7 pm7 an7 cd7 ct7), sl7⟩) (c7 : PySem.W.codeIn K cd7 "is_side" = true) (k7 : PySem.W.keepIn K (.ref p7) = true)
    (a8 : PySem.W.nsIn K mainGlobals "sides_error" = some (some (.ref p8))) (l8 : K.lookup p8 = some ⟨oc8, od8, .func (PySem.W.fnOf "sides_error" "sides_error" (defArgs st8) (defBody st8) (defScope st8) .none kV8 dc8 pm8 an8 cd8 ct8), sl8⟩) (c8 : PySem.W.codeIn K cd8 "sides_error" = true) (k8 : PySem.W.keepIn K (.ref p8) = true)
    (a9 : PySem.W.nsIn K mainGlobals "die_error" = some (some (.ref p9))) (l9 : K.lookup p9 = some ⟨oc9, od9, .func (PySem.W.fnOf "die_error" "die_error" (defArgs st9) (defBody st9) (defScope st9) .none kV9 dc9 pm9 an9 cd9 ct9), sl9⟩) (c9 : PySem.W.codeIn K cd9 "die_error" = true) (k9 : PySem.W.keepIn K (.ref p9) = true)
    (a10 : PySem.W.nsIn K mainGlobals "_law_loom" = some (some (.ref p10))) (l10 : K.lookup p10 = some ⟨oc10, od10, .func (PySem.W.fnOf "_law_loom" "_law_loom" (defArgs st10) (defBody st10) (defScope st10) .none kV10 dc10 pm10 an10 cd10 ct10), sl10⟩) (c10 : PySem.W.codeIn K cd10 "_law_loom" = true) (k10 : PySem.W.keepIn K (.ref p10) = true)
    (a11 : PySem.W.nsIn K mainGlobals "_law_draw" = some (some (.ref p11))) (l11 : K.lookup p11 = some ⟨oc11, od11, .func (PySem.W.fnOf "_law_draw" "_law_draw" (defArgs st11) (defBody st11) (defScope st11) .none kV11 dc11 pm11 an11 cd11 ct11), sl11⟩) (c11 : PySem.W.codeIn K cd11 "_law_draw" = true) (k11 : PySem.W.keepIn K (.ref p11) = true)
    (a12 : PySem.W.nsIn K mainGlobals "_law_pick" = some (some (.ref p12))) (l12 : K.lookup p12 = some ⟨oc12, od12, .func (PySem.W.fnOf "_law_pick" "_law_pick" (defArgs st12) (defBody st12) (defScope st12) .none kV12 dc12 pm12 an12 cd12 ct12), sl12⟩) (c12 : PySem.W.codeIn K cd12 "_law_pick" = true) (k12 : PySem.W.keepIn K (.ref p12) = true)
    (a13 : PySem.W.nsIn K mainGlobals "_law_mixed" = some (some (.ref p13))) (l13 : K.lookup p13 = some ⟨oc13, od13, .func (PySem.W.fnOf "_law_mixed" "_law_mixed" (defArgs st13) (defBody st13) (defScope st13) .none kV13 dc13 pm13 an13 cd13 ct13), sl13⟩) (c13 : PySem.W.codeIn K cd13 "_law_mixed" = true) (k13 : PySem.W.keepIn K (.ref p13) = true)
    (a14 : PySem.W.nsIn K mainGlobals "_law_gcd" = some (some (.ref p14))) (l14 : K.lookup p14 = some ⟨oc14, od14, .func (PySem.W.fnOf "_law_gcd" "_law_gcd" (defArgs st14) (defBody st14) (defScope st14) .none kV14 dc14 pm14 an14 cd14 ct14), sl14⟩) (c14 : PySem.W.codeIn K cd14 "_law_gcd" = true) (k14 : PySem.W.keepIn K (.ref p14) = true)
    (a15 : PySem.W.nsIn K mainGlobals "_law_frac" = some (some (.ref p15))) (l15 : K.lookup p15 = some ⟨oc15, od15, .func (PySem.W.fnOf "_law_frac" "_law_frac" (defArgs st15) (defBody st15) (defScope st15) .none kV15 dc15 pm15 an15 cd15 ct15), sl15⟩) (c15 : PySem.W.codeIn K cd15 "_law_frac" = true) (k15 : PySem.W.keepIn K (.ref p15) = true)
    (a16 : PySem.W.nsIn K mainGlobals "_law_plus" = some (some (.ref p16))) (l16 : K.lookup p16 = some ⟨oc16, od16, .func (PySem.W.fnOf "_law_plus" "_law_plus" (defArgs st16) (defBody st16) (defScope st16) .none kV16 dc16 pm16 an16 cd16 ct16), sl16⟩) (c16 : PySem.W.codeIn K cd16 "_law_plus" = true) (k16 : PySem.W.keepIn K (.ref p16) = true)
    (a17 : PySem.W.nsIn K mainGlobals "_law_share" = some (some (.ref p17))) (l17 : K.lookup p17 = some ⟨oc17, od17, .func (PySem.W.fnOf "_law_share" "_law_share" (defArgs st17) (defBody st17) (defScope st17) .none kV17 dc17 pm17 an17 cd17 ct17), sl17⟩) (c17 : PySem.W.codeIn K cd17 "_law_share" = true) (k17 : PySem.W.keepIn K (.ref p17) = true)
    (a18 : PySem.W.nsIn K mainGlobals "_law_die" = some (some (.ref p18))) (l18 : K.lookup p18 = some ⟨oc18, od18, .func (PySem.W.fnOf "_law_die" "_law_die" (defArgs st18) (defBody st18) (defScope st18) .none kV18 dc18 pm18 an18 cd18 ct18), sl18⟩) (c18 : PySem.W.codeIn K cd18 "_law_die" = true) (k18 : PySem.W.keepIn K (.ref p18) = true)
    (a19 : PySem.W.nsIn K mainGlobals "_law_odd" = some (some (.ref p19))) (l19 : K.lookup p19 = some ⟨oc19, od19, .func (PySem.W.fnOf "_law_odd" "_law_odd" (defArgs st19) (defBody st19) (defScope st19) .none kV19 dc19 pm19 an19 cd19 ct19), sl19⟩) (c19 : PySem.W.codeIn K cd19 "_law_odd" = true) (k19 : PySem.W.keepIn K (.ref p19) = true)
    (a20 : PySem.W.nsIn K mainGlobals "_law_is_whole" = some (some (.ref p20))) (l20 : K.lookup p20 = some ⟨oc20, od20, .func (PySem.W.fnOf "_law_is_whole" "_law_is_whole" (defArgs st20) (defBody st20) (defScope st20) .none kV20 dc20 pm20 an20 cd20 ct20), sl20⟩) (c20 : PySem.W.codeIn K cd20 "_law_is_whole" = true) (k20 : PySem.W.keepIn K (.ref p20) = true)
    (a21 : PySem.W.nsIn K mainGlobals "_law_is_share" = some (some (.ref p21))) (l21 : K.lookup p21 = some ⟨oc21, od21, .func (PySem.W.fnOf "_law_is_share" "_law_is_share" (defArgs st21) (defBody st21) (defScope st21) .none kV21 dc21 pm21 an21 cd21 ct21), sl21⟩) (c21 : PySem.W.codeIn K cd21 "_law_is_share" = true) (k21 : PySem.W.keepIn K (.ref p21) = true)
    (a22 : PySem.W.nsIn K mainGlobals "_law_sides_slip" = some (some (.ref p22))) (l22 : K.lookup p22 = some ⟨oc22, od22, .func (PySem.W.fnOf "_law_sides_slip" "_law_sides_slip" (defArgs st22) (defBody st22) (defScope st22) .none kV22 dc22 pm22 an22 cd22 ct22), sl22⟩) (c22 : PySem.W.codeIn K cd22 "_law_sides_slip" = true) (k22 : PySem.W.keepIn K (.ref p22) = true)
    (a23 : PySem.W.nsIn K mainGlobals "_law_die_slip" = some (some (.ref p23))) (l23 : K.lookup p23 = some ⟨oc23, od23, .func (PySem.W.fnOf "_law_die_slip" "_law_die_slip" (defArgs st23) (defBody st23) (defScope st23) .none kV23 dc23 pm23 an23 cd23 ct23), sl23⟩) (c23 : PySem.W.codeIn K cd23 "_law_die_slip" = true) (k23 : PySem.W.keepIn K (.ref p23) = true)
    (a24 : PySem.W.nsIn K mainGlobals "_law_bent_side" = some (some (.ref p24))) (l24 : K.lookup p24 = some ⟨oc24, od24, .func (PySem.W.fnOf "_law_bent_side" "_law_bent_side" (defArgs st24) (defBody st24) (defScope st24) .none kV24 dc24 pm24 an24 cd24 ct24), sl24⟩) (c24 : PySem.W.codeIn K cd24 "_law_bent_side" = true) (k24 : PySem.W.keepIn K (.ref p24) = true)
    (a25 : PySem.W.nsIn K mainGlobals "_law_bent" = some (some (.ref p25))) (l25 : K.lookup p25 = some ⟨oc25, od25, .func (PySem.W.fnOf "_law_bent" "_law_bent" (defArgs st25) (defBody st25) (defScope st25) .none kV25 dc25 pm25 an25 cd25 ct25), sl25⟩) (c25 : PySem.W.codeIn K cd25 "_law_bent" = true) (k25 : PySem.W.keepIn K (.ref p25) = true)
    (a26 : PySem.W.nsIn K mainGlobals "law" = some (some (.ref p26))) (l26 : K.lookup p26 = some ⟨oc26, od26, .func (PySem.W.fnOf "law" "law" (defArgs st26) (defBody st26) (defScope st26) .none kV26 dc26 pm26 an26 cd26 ct26), sl26⟩) (c26 : PySem.W.codeIn K cd26 "law" = true) (k26 : PySem.W.keepIn K (.ref p26) = true)
    (z0 : PySem.W.nsIn K mainGlobals "len" = some none)
    (z1 : PySem.W.nsIn K mainGlobals "int" = some none)
    (z2 : PySem.W.nsIn K mainGlobals "tuple" = some none)
    (z3 : PySem.W.nsIn K mainGlobals "list" = some none)
    (z4 : PySem.W.nsIn K mainGlobals "repr" = some none)
    (z5 : PySem.W.nsIn K mainGlobals "abs" = some none)
    (z6 : PySem.W.nsIn K mainGlobals "max" = some none)
    (z7 : PySem.W.nsIn K mainGlobals "min" = some none)
    (z8 : PySem.W.nsIn K mainGlobals "str" = some none)
    (z9 : PySem.W.nsIn K mainGlobals "sum" = some none)
    (z10 : PySem.W.nsIn K mainGlobals "isinstance" = some none)
    (z11 : PySem.W.nsIn K mainGlobals "bool" = some none)
    (z12 : PySem.W.nsIn K mainGlobals "dict" = some none)
    (z13 : PySem.W.nsIn K mainGlobals "range" = some none)
    (z14 : PySem.W.nsIn K mainGlobals "enumerate" = some none)
    (z15 : PySem.W.nsIn K mainGlobals "zip" = some none)
    (z16 : PySem.W.nsIn K mainGlobals "sorted" = some none)
    (g0 : PySem.W.nsIn K mainGlobals "MAX_SIDE" = some (some (.int 9 tk0)))
    (g1 : PySem.W.nsIn K mainGlobals "MAX_SIDES" = some (some (.int 6 tk1)))
    : ModOk K mg P G Fs := by
  refine ⟨sta, ?_, ?_, ?_⟩
  · intro x hx
    simp only [bltNames, List.mem_cons, List.not_mem_nil, or_false] at hx
    rcases hx with rfl | rfl | rfl | rfl | rfl | rfl | rfl | rfl | rfl | rfl | rfl | rfl | rfl | rfl | rfl | rfl | rfl
    · exact PySem.W.mg_none_of X g z0
    · exact PySem.W.mg_none_of X g z1
    · exact PySem.W.mg_none_of X g z2
    · exact PySem.W.mg_none_of X g z3
    · exact PySem.W.mg_none_of X g z4
    · exact PySem.W.mg_none_of X g z5
    · exact PySem.W.mg_none_of X g z6
    · exact PySem.W.mg_none_of X g z7
    · exact PySem.W.mg_none_of X g z8
    · exact PySem.W.mg_none_of X g z9
    · exact PySem.W.mg_none_of X g z10
    · exact PySem.W.mg_none_of X g z11
    · exact PySem.W.mg_none_of X g z12
    · exact PySem.W.mg_none_of X g z13
    · exact PySem.W.mg_none_of X g z14
    · exact PySem.W.mg_none_of X g z15
    · exact PySem.W.mg_none_of X g z16
  · intro i x h
    match i, h with
    | 0, h => cases h; exact ⟨_, rfl, .int _, _, PySem.W.mg_of X g g0, ⟨_, rfl⟩, fun m H => .int _⟩
    | 1, h => cases h; exact ⟨_, rfl, .int _, _, PySem.W.mg_of X g g1, ⟨_, rfl⟩, fun m H => .int _⟩
    | i + 2, h => exact absurd h (by show (none : Option Str) ≠ _; intro z; cases z)
  · intro i x ps h
    match i, h with
    | 0, h =>
      have h : some (("is_integer" : Str), (["value"] : List Str)) = some (x, ps) := h
      cases h
      exact ⟨_, def0 X g a0 l0 c0 k0⟩
    | 1, h =>
      have h : some (("divisor" : Str), (["a", "b"] : List Str)) = some (x, ps) := h
      cases h
      exact ⟨_, def1 X g a1 l1 c1 k1⟩
    | 2, h =>
      have h : some (("is_fraction" : Str), (["value"] : List Str)) = some (x, ps) := h
      cases h
      exact ⟨_, def2 X g a2 l2 c2 k2⟩
    | 3, h =>
      have h : some (("lowest" : Str), (["a", "b"] : List Str)) = some (x, ps) := h
      cases h
      exact ⟨_, def3 X g a3 l3 c3 k3⟩
    | 4, h =>
      have h : some (("compared" : Str), (["one", "other"] : List Str)) = some (x, ps) := h
      cases h
      exact ⟨_, def4 X g a4 l4 c4 k4⟩
    | 5, h =>
      have h : some (("plus" : Str), (["one", "other"] : List Str)) = some (x, ps) := h
      cases h
      exact ⟨_, def5 X g a5 l5 c5 k5⟩
    | 6, h =>
      have h : some (("is_between" : Str), (["value"] : List Str)) = some (x, ps) := h
      cases h
      exact ⟨_, def6 X g a6 l6 c6 k6⟩
    | 7, h =>
      have h : some (("is_side" : Str), (["value"] : List Str)) = some (x, ps) := h
      cases h
      exact ⟨_, def7 X g a7 l7 c7 k7⟩
    | 8, h =>
      have h : some (("sides_error" : Str), (["sides"] : List Str)) = some (x, ps) := h
      cases h
      exact ⟨_, def8 X g a8 l8 c8 k8⟩
    | 9, h =>
      have h : some (("die_error" : Str), (["value"] : List Str)) = some (x, ps) := h
      cases h
      exact ⟨_, def9 X g a9 l9 c9 k9⟩
    | 10, h =>
      have h : some (("_law_loom" : Str), (["script"] : List Str)) = some (x, ps) := h
      cases h
      exact ⟨_, def10 X g a10 l10 c10 k10⟩
    | 11, h =>
      have h : some (("_law_draw" : Str), (["loom", "many"] : List Str)) = some (x, ps) := h
      cases h
      exact ⟨_, def11 X g a11 l11 c11 k11⟩
    | 12, h =>
      have h : some (("_law_pick" : Str), (["loom", "things"] : List Str)) = some (x, ps) := h
      cases h
      exact ⟨_, def12 X g a12 l12 c12 k12⟩
    | 13, h =>
      have h : some (("_law_mixed" : Str), (["loom", "things"] : List Str)) = some (x, ps) := h
      cases h
      exact ⟨_, def13 X g a13 l13 c13 k13⟩
    | 14, h =>
      have h : some (("_law_gcd" : Str), (["a", "b"] : List Str)) = some (x, ps) := h
      cases h
      exact ⟨_, def14 X g a14 l14 c14 k14⟩
    | 15, h =>
      have h : some (("_law_frac" : Str), (["a", "b"] : List Str)) = some (x, ps) := h
      cases h
      exact ⟨_, def15 X g a15 l15 c15 k15⟩
    | 16, h =>
      have h : some (("_law_plus" : Str), (["one", "other"] : List Str)) = some (x, ps) := h
      cases h
      exact ⟨_, def16 X g a16 l16 c16 k16⟩
    | 17, h =>
      have h : some (("_law_share" : Str), (["loom", "most"] : List Str)) = some (x, ps) := h
      cases h
      exact ⟨_, def17 X g a17 l17 c17 k17⟩
    | 18, h =>
      have h : some (("_law_die" : Str), (["loom"] : List Str)) = some (x, ps) := h
      cases h
      exact ⟨_, def18 X g a18 l18 c18 k18⟩
    | 19, h =>
      have h : some (("_law_odd" : Str), (["loom"] : List Str)) = some (x, ps) := h
      cases h
      exact ⟨_, def19 X g a19 l19 c19 k19⟩
    | 20, h =>
      have h : some (("_law_is_whole" : Str), (["value", "low", "high"] : List Str)) = some (x, ps) := h
      cases h
      exact ⟨_, def20 X g a20 l20 c20 k20⟩
    | 21, h =>
      have h : some (("_law_is_share" : Str), (["value", "is_open"] : List Str)) = some (x, ps) := h
      cases h
      exact ⟨_, def21 X g a21 l21 c21 k21⟩
    | 22, h =>
      have h : some (("_law_sides_slip" : Str), (["sides"] : List Str)) = some (x, ps) := h
      cases h
      exact ⟨_, def22 X g a22 l22 c22 k22⟩
    | 23, h =>
      have h : some (("_law_die_slip" : Str), (["value"] : List Str)) = some (x, ps) := h
      cases h
      exact ⟨_, def23 X g a23 l23 c23 k23⟩
    | 24, h =>
      have h : some (("_law_bent_side" : Str), (["loom", "side"] : List Str)) = some (x, ps) := h
      cases h
      exact ⟨_, def24 X g a24 l24 c24 k24⟩
    | 25, h =>
      have h : some (("_law_bent" : Str), (["loom", "die"] : List Str)) = some (x, ps) := h
      cases h
      exact ⟨_, def25 X g a25 l25 c25 k25⟩
    | 26, h =>
      have h : some (("law" : Str), (["script"] : List Str)) = some (x, ps) := h
      cases h
      exact ⟨_, def26 X g a26 l26 c26 k26⟩
    | i + 27, h => exact absurd h (by show (none : Option (Str × List Str)) ≠ _; intro z; cases z)
end K03
namespace K03
open PySem L2 Co Lo
theorem isInt_run {d : Nat} {S : Sto} {w : W} (h : Tyb S w) : callAt G Fs (d + 1) 0 [w] S = some (.ok (.bl (isIntW w)) S) := by
  rw [call_eq (fd := f0) rfl rfl]
  cases w with
  | ref n =>
    have e1 := isi_ref h (t := .int) (by decide) (by decide)
    simp [f0, startE, runSs, runS, runE, runB, bltW, truW, e1, isIntW]
  | _ => simp [f0, startE, runSs, runS, runE, runB, bltW, truW, isT, isIntW]
def frac : W → Bool
  | .tup [.int a, .int b] => decide (1 ≤ b) && (Nat.gcd a.natAbs b.natAbs == 1)
  | _ => false
def Tyb2 (S : Sto) (w : W) : Prop := Tyb S w ∧ ∀ x y, w = .tup [x, y] → Tyb S x ∧ Tyb S y
abbrev gC : CE := .cmp .ne (.var 1) (.cst (.int 0))
abbrev gB : CSs := .cons (.asg (.tup [.name 0, .name 1]) (.tup (.cons (.var 1) (.cons (.bin .mod (.blt .int (.cons (.var 0) .nil)) (.var 1)) .nil)))) .nil
theorem gcd_loop {G : List W} {O : Orc} {S : Sto} : ∀ (n m : Nat), whileW (runT G O gC) (fun ρ' S' => runSs G O gB ρ' S') [some (.int (m : Nat)), some (.int (n : Nat))] S = some (.next [some (.int (Nat.gcd m n : Nat)), some (.int 0)] S) := by
  intro n
  induction n using Nat.strongRecOn with
  | ind n ih =>
    intro m
    rw [whileW_eq]
    by_cases hn : n = 0
    · subst hn
      simp [runT, runE, cmpW, eqW]
    · have hc : runT G O gC [some (.int (m : Nat)), some (.int (n : Nat))] S = some (.ok true S) := by
        simp [runT, runE, cmpW, eqW, hn]
      have hm : ((m : Int).fmod (n : Int)) = ((m % n : Nat) : Int) := by
        rw [Int.fmod_eq_emod_of_nonneg _ (by omega)]
        simp
      have hb : runSs G O gB [some (.int (m : Nat)), some (.int (n : Nat))] S = some (.next [some (.int (n : Nat)), some (.int ((m % n : Nat) : Int))] S) := by
        have hn' : (n : Int) ≠ 0 := by omega
        have h2 : 2 ≤ sizeLine := by decide
        simp only [runSs, runS, runE, runEs, List.getElem?_cons_zero, List.getElem?_cons_succ, okW_eq, Rs.bind_ok, int_of, mod_of hn', List.length_cons, List.length_nil, h2, if_true, thenS_ok, hm]
        rfl
      rw [hc, thenS_ok, if_pos rfl, hb, turnS_next, ih (m % n) (Nat.mod_lt _ (by omega)), Nat.gcd_comm m n, Nat.gcd_rec n m, Nat.gcd_comm]
theorem gcd_run {d f : Nat} {fd : FD} (hf : Fs[f]? = some fd) (ha : fd.arity = 2) (hs : fd.slots = 2) (hb : fd.body = .cons (.whil gC gB) (.cons (.ret (.var 0)) .nil)) {S : Sto} {m n : Nat} : callAt G Fs (d + 1) f [.int (m : Nat), .int (n : Nat)] S = some (.ok (.int (Nat.gcd m n : Nat)) S) := by
  rw [call_eq hf (by rw [ha]; rfl), hs, hb]
  have c1 : runS G (callAt G Fs d) (.whil gC gB) (startE 2 [.int (m : Nat), .int (n : Nat)]) S = some (.next [some (.int (Nat.gcd m n : Nat)), some (.int 0)] S) := by
    unfold runS
    exact gcd_loop n m
  rw [seq_next c1, seq_ret]
  · rfl
  · simp only [runS, runE, List.getElem?_cons_zero, okW_eq, thenS_ok]
theorem gcd1 {d : Nat} {S : Sto} {m n : Nat} : callAt G Fs (d + 1) 1 [.int (m : Nat), .int (n : Nat)] S = some (.ok (.int (Nat.gcd m n : Nat)) S) := gcd_run (fd := f1) rfl rfl rfl rfl
theorem abs_nat (a : Int) : (if a < 0 then -a else a) = ((a.natAbs : Nat) : Int) := by split <;> omega
theorem frac_run {d : Nat} {S : Sto} {w : W} (h : Tyb2 S w) : callAt G Fs (d + 2) 2 [w] S = some (.ok (.bl (frac w)) S) := by
  rw [call_eq (fd := f2) rfl rfl]
  cases w with
  | ref n =>
    have e1 := isi_ref h.1 (t := .tuple) (by decide) (by decide)
    simp [f2, startE, runSs, runS, runE, runT, runBT, bltW, truW, e1, frac]
  | tup ws =>
    match ws, h with
    | [], _ => simp [f2, startE, runSs, runS, runE, runEs, runT, runBT, bltW, truW, isT, frac, cmpW, eqW, lenW, itemsW]
    | [x], _ => simp [f2, startE, runSs, runS, runE, runEs, runT, runBT, bltW, truW, isT, frac, cmpW, eqW, lenW, itemsW]
    | x :: y :: z :: r, _ =>
      have : ¬ ((r.length : Int) + 1 + 1 + 1 = 2) := by omega
      simp [f2, startE, runSs, runS, runE, runEs, runT, runBT, bltW, truW, isT, frac, cmpW, eqW, lenW, itemsW, this]
    | [x, y], h =>
      obtain ⟨h1, h2⟩ := h.2 x y rfl
      have i1 := isInt_run (d := d) h1
      have i2 := isInt_run (d := d) h2
      have a0 : atI [x, y] 0 = some x := rfl
      have a1 : atI [x, y] 1 = some y := rfl
      have c1 : runT G (callAt G Fs (d + 1)) (.bool false (.cons (.not_ (.isi .tuple (.var 0))) (.cons (.cmp .ne (.blt .len (.cons (.var 0) .nil)) (.cst (.int 2))) .nil))) (startE 1 [.tup [x, y]]) S = some (.ok false S) := by
        simp [startE, runE, runEs, runT, runBT, bltW, truW, isT, cmpW, eqW, lenW, itemsW]
      unfold f2
      simp only
      rw [seq_next (by rw [ife_false c1, run_nil])]
      by_cases hx : isIntW x = true
      · by_cases hy : isIntW y = true
        · cases x <;> first | (cases hx; done) | skip
          cases y <;> first | (cases hy; done) | skip
          rename_i a b
          by_cases hb : b < 1
          · have c2 : runT G (callAt G Fs (d + 1)) (.bool false (.cons (.not_ (.call 0 (.cons (.idx (.var 0) (.cst (.int 0))) .nil) .nil [])) (.cons (.not_ (.call 0 (.cons (.idx (.var 0) (.cst (.int 1))) .nil) .nil [])) (.cons (.cmp .lt (.idx (.var 0) (.cst (.int 1))) (.cst (.int 1))) .nil)))) (startE 1 [.tup [.int a, .int b]]) S = some (.ok true S) := by
              simp [startE, runE, runEs, runT, runBT, truW, cmpW, ixW, a0, a1, i1, i2, isIntW, hb]
            rw [seq_ret (S' := S) (w := .bl false) (by rw [ife_true c2, seq_ret]; simp [runS, runE])]
            have : ¬ (1 ≤ b) := by omega
            simp [frac, this]
          · have c2 : runT G (callAt G Fs (d + 1)) (.bool false (.cons (.not_ (.call 0 (.cons (.idx (.var 0) (.cst (.int 0))) .nil) .nil [])) (.cons (.not_ (.call 0 (.cons (.idx (.var 0) (.cst (.int 1))) .nil) .nil [])) (.cons (.cmp .lt (.idx (.var 0) (.cst (.int 1))) (.cst (.int 1))) .nil)))) (startE 1 [.tup [.int a, .int b]]) S = some (.ok false S) := by
              simp [startE, runE, runEs, runT, runBT, truW, cmpW, ixW, a0, a1, i1, i2, isIntW, hb]
            rw [seq_next (by rw [ife_false c2, run_nil])]
            have gg := gcd1 (d := d) (S := S) (m := a.natAbs) (n := b.natAbs)
            have e2 : ((b.natAbs : Nat) : Int) = b := by omega
            rw [e2] at gg
            have p1 : (1 ≤ b) := by omega
            rw [seq_ret (S' := S) (w := .bl (decide (((Nat.gcd a.natAbs b.natAbs : Nat) : Int) = 1)))]
            · simp only [backW_ret, frac, p1, decide_true, Bool.true_and]
              congr 3
              rw [Bool.eq_iff_iff]
              simp
              omega
            · simp [runS, runE, runEs, startE, bltW, ixW, a0, a1, abs_nat, gg, cmpW, eqW]
        · have hy' : isIntW y = false := by simpa using hy
          have c2 : runT G (callAt G Fs (d + 1)) (.bool false (.cons (.not_ (.call 0 (.cons (.idx (.var 0) (.cst (.int 0))) .nil) .nil [])) (.cons (.not_ (.call 0 (.cons (.idx (.var 0) (.cst (.int 1))) .nil) .nil [])) (.cons (.cmp .lt (.idx (.var 0) (.cst (.int 1))) (.cst (.int 1))) .nil)))) (startE 1 [.tup [x, y]]) S = some (.ok true S) := by
            simp [startE, runE, runEs, runT, runBT, truW, ixW, a0, a1, i1, i2, hx, hy']
          rw [seq_ret (S' := S) (w := .bl false) (by rw [ife_true c2, seq_ret]; simp [runS, runE])]
          cases x <;> cases y <;> first | rfl | (cases hy'; done)
      · have hx' : isIntW x = false := by simpa using hx
        have c2 : runT G (callAt G Fs (d + 1)) (.bool false (.cons (.not_ (.call 0 (.cons (.idx (.var 0) (.cst (.int 0))) .nil) .nil [])) (.cons (.not_ (.call 0 (.cons (.idx (.var 0) (.cst (.int 1))) .nil) .nil [])) (.cons (.cmp .lt (.idx (.var 0) (.cst (.int 1))) (.cst (.int 1))) .nil)))) (startE 1 [.tup [x, y]]) S = some (.ok true S) := by
          simp [startE, runE, runEs, runT, runBT, truW, ixW, a0, a1, i1, i2, hx']
        rw [seq_ret (S' := S) (w := .bl false) (by rw [ife_true c2, seq_ret]; simp [runS, runE])]
        cases x <;> first | rfl | (cases hx'; done)
  | _ => simp [f2, startE, runSs, runS, runE, runT, runBT, bltW, truW, isT, frac]
theorem gcd14 {d : Nat} {S : Sto} {a b : Int} : callAt G Fs (d + 1) 14 [.int a, .int b] S = some (.ok (.int (Nat.gcd a.natAbs b.natAbs : Nat)) S) := by
  rw [call_eq (fd := f14) rfl rfl]
  unfold f14
  simp only
  have v0 : (startE 2 [.int a, .int b])[0]? = some (some (.int a)) := rfl
  have v1 : (startE 2 [.int a, .int b])[1]? = some (some (.int b)) := rfl
  have ab : ∀ (i : Int), bltW S .abs [.int i] = some (.ok (.int ((i.natAbs : Nat) : Int)) S) := fun i => by
    show some (R.ok (W.int (if i < 0 then -i else i)) S) = _
    rw [abs_nat]
  have s1 : runS G (callAt G Fs d) (.asg (.tup [(.name 0), (.name 1)]) (.tup (.cons (.blt .abs (.cons (.var 0) .nil)) (.cons (.blt .abs (.cons (.var 1) .nil)) .nil)))) (startE 2 [.int a, .int b]) S = some (.next [some (.int (a.natAbs : Nat)), some (.int (b.natAbs : Nat))] S) := by
    refine asg_at (w := .tup [.int (a.natAbs : Nat), .int (b.natAbs : Nat)]) (tup2_at (S1 := S) ?_ ?_) rfl
    · rw [blt_one, var_at v0]
      exact ab a
    · rw [blt_one, var_at v1]
      exact ab b
  have s2 : runS G (callAt G Fs d) (.whil gC gB) [some (.int (a.natAbs : Nat)), some (.int (b.natAbs : Nat))] S = some (.next [some (.int (Nat.gcd a.natAbs b.natAbs : Nat)), some (.int 0)] S) := by
    unfold runS
    exact gcd_loop _ _
  rw [seq_next s1, seq_next s2, ret_at (var_at rfl)]
  rfl
/-! ### shares -/
def posW : W → Bool
  | .int i => decide (1 ≤ i)
  | _ => false
def shareW (k : Bool) : W → Bool
  | .tup [.int a, .int b] => decide (1 ≤ a) && decide (1 ≤ b) && (Nat.gcd a.natAbs b.natAbs == 1) && (decide (a < b) || !k)
  | _ => false
abbrev iB : CSs := .cons (.ife (.bool false (.cons (.not_ (.isi .int (.var 2))) (.cons (.isi .bool (.var 2)) (.cons (.cmp .lt (.var 2) (.cst (.int 1))) .nil)))) (.cons (.ret (.cst (.bl false))) .nil) .nil) .nil
theorem isiP_at {O : Orc} {ρ : En} {S : Sto} {e : CE} {w : W} {t : Ty} {b : Bool} (h : runE G O e ρ S = some (.ok w S)) (hb : isT S w t = some b) : runT G O (.isi t e) ρ S = some (.ok b S) := by
  have e1 : runT G O (.isi t e) ρ S = (runE G O (.isi t e) ρ S).bind fun w S1 => liftW (truW S1 w) S1 := rfl
  rw [isi_at h hb] at e1
  rw [e1]
  rfl
theorem item_at {O : Orc} {S : Sto} {V k w : W} (h : Tyb S w) : runSs G O iB [some V, some k, some w] S = if posW w = true then some (.next [some V, some k, some w] S) else some (.ret (.bl false) S) := by
  have v2 : runE G O (.var 2) [some V, some k, some w] S = some (.ok w S) := var_at rfl
  have ct : runT G O (.bool false (.cons (.not_ (.isi .int (.var 2))) (.cons (.isi .bool (.var 2)) (.cons (.cmp .lt (.var 2) (.cst (.int 1))) .nil)))) [some V, some k, some w] S = some (.ok (!posW w) S) := by
    cases w with
    | int i =>
      have := bool_or3 (z := decide (i < 1)) (isiT_at (t := .int) (b := true) v2 rfl) (fun _ => isiP_at (t := .bool) (b := false) v2 rfl) (fun _ _ => cmpT_at (c := .lt) (y := .int 1) (r := decide (i < 1)) v2 cst_at rfl)
      rw [this]
      congr 2
      show (!true || false || decide (i < 1)) = !decide (1 ≤ i)
      rw [Bool.eq_iff_iff]
      simp
    | bl b =>
      have := bool_or3 (y := true) (z := true) (c := .cmp .lt (.var 2) (.cst (.int 1))) (isiT_at (t := .int) (b := true) v2 rfl) (fun _ => isiP_at (t := .bool) (b := true) v2 rfl) (fun _ q => by cases q)
      exact this
    | ref n =>
      have := bool_or3 (y := true) (z := true) (b := .isi .bool (.var 2)) (c := .cmp .lt (.var 2) (.cst (.int 1))) (isiT_at v2 (isi_ref h (t := .int) (by decide) (by decide))) (fun q => by cases q) (fun q => by cases q)
      exact this
    | non =>
      have := bool_or3 (y := true) (z := true) (b := .isi .bool (.var 2)) (c := .cmp .lt (.var 2) (.cst (.int 1))) (isiT_at (t := .int) (b := false) v2 rfl) (fun q => by cases q) (fun q => by cases q)
      exact this
    | str _ =>
      have := bool_or3 (y := true) (z := true) (b := .isi .bool (.var 2)) (c := .cmp .lt (.var 2) (.cst (.int 1))) (isiT_at (t := .int) (b := false) v2 rfl) (fun q => by cases q) (fun q => by cases q)
      exact this
    | tup _ =>
      have := bool_or3 (y := true) (z := true) (b := .isi .bool (.var 2)) (c := .cmp .lt (.var 2) (.cst (.int 1))) (isiT_at (t := .int) (b := false) v2 rfl) (fun q => by cases q) (fun q => by cases q)
      exact this
  cases hp : posW w with
  | true =>
    rw [hp] at ct
    rw [if_go ct, run_nil, if_pos rfl]
  | false =>
    rw [hp] at ct
    rw [if_ret ct cst_at, if_neg (by decide)]
theorem put2 {V k : W} {x : Option W} {w : W} : putT (.name 2) w [some V, some k, x] = some [some V, some k, some w] := by simp [putT]
theorem len2_at {O : Orc} {e : CE} {ρ : En} {S : Sto} {ws : List W} (h : runE G O e ρ S = some (.ok (.tup ws) S)) : runT G O (.cmp .ne (.blt .len (.cons e .nil)) (.cst (.int 2))) ρ S = some (.ok (!decide (ws.length = 2)) S) := by
  refine cmpT_at (lenT_at h) cst_at ?_
  show some (!decide (((ws.length : Nat) : Int) = 2)) = _
  congr 2
  rw [decide_eq_decide]
  omega
theorem two_of {S : Sto} {w : W} (hw : ¬ ∃ x y, w = .tup [x, y]) : (∃ ws, w = .tup ws ∧ ws.length ≠ 2) ∨ ∀ ws, w ≠ .tup ws := by
  by_cases h : ∃ ws, w = .tup ws
  · obtain ⟨ws, rfl⟩ := h
    refine .inl ⟨ws, rfl, fun e => ?_⟩
    match ws, e with
    | [x, y], _ => exact hw ⟨x, y, rfl⟩
  · exact .inr fun ws e => h ⟨ws, e⟩
/-- no pair -/
def noPair : W → Bool
  | .tup [_, _] => false
  | _ => true
theorem noPair_of {w : W} (hw : ¬ ∃ x y, w = .tup [x, y]) : noPair w = true := by
  unfold noPair
  split
  · exact absurd ⟨_, _, rfl⟩ hw
  · rfl
/-- the first look: a pair or not -/
theorem pair_at {O : Orc} {e : CE} {ρ : En} {S : Sto} {w : W} (h : runE G O e ρ S = some (.ok w S)) (ht : Tyb S w) : runT G O (.bool false (.cons (.not_ (.isi .tuple e)) (.cons (.cmp .ne (.blt .len (.cons e .nil)) (.cst (.int 2))) .nil))) ρ S = some (.ok (noPair w) S) := by
  by_cases hw : ∃ x y, w = .tup [x, y]
  · obtain ⟨x, y, rfl⟩ := hw
    exact bool_or2 (isiT_at (t := .tuple) (b := true) h rfl) (fun _ => len2_at h)
  · rw [noPair_of hw]
    rcases two_of (S := S) hw with ⟨ws, rfl, hl⟩ | hn
    · have := bool_or2 (isiT_at (t := .tuple) (b := true) h rfl) (fun _ => len2_at h)
      rw [this, decide_eq_false hl]
      rfl
    · exact bool_or2 (y := true) (isiT_at h (isi_tup ht hn)) (fun q => by cases q)
theorem share21 {d : Nat} {S : Sto} {w : W} {k : Bool} (h : Tyb2 S w) : callAt G Fs (d + 2) 21 [w, .bl k] S = some (.ok (.bl (shareW k w)) S) := by
  rw [call_eq (fd := f21) rfl rfl]
  unfold f21
  simp only
  have st : startE 3 [w, .bl k] = [some w, some (.bl k), none] := rfl
  rw [st]
  have v0 : runE G (callAt G Fs (d + 1)) (.var 0) [some w, some (.bl k), none] S = some (.ok w S) := var_at rfl
  have t1 := pair_at v0 h.1
  by_cases hw : ∃ x y, w = .tup [x, y]
  · obtain ⟨x, y, rfl⟩ := hw
    obtain ⟨hx, hy⟩ := h.2 x y rfl
    rw [if_go t1]
    have i1 := item_at (O := callAt G Fs (d + 1)) (V := .tup [x, y]) (k := .bl k) hx
    have i2 := item_at (O := callAt G Fs (d + 1)) (V := .tup [x, y]) (k := .bl k) hy
    have hst : ∀ S, Itr.stays ⟨[x, y], []⟩ S := fun S n ws q => by cases q
    have lp : runS G (callAt G Fs (d + 1)) (.for_ (.name 2) (.seq (.var 0)) iB) [some (.tup [x, y]), some (.bl k), none] S = forL (putT (.name 2)) (fun ρ' S' => runSs G (callAt G Fs (d + 1)) iB ρ' S') (Itr.stays ⟨[x, y], []⟩) [x, y] [some (.tup [x, y]), some (.bl k), none] S := by
      simp only [runS, runI, runE, List.getElem?_cons_zero, okW_eq, Rs.bind_ok, thenS_ok]
    have nosh : (posW x && posW y) = false → shareW k (.tup [x, y]) = false := fun q => by
      cases x <;> cases y <;> first | rfl | skip
      rename_i a b
      show (decide (1 ≤ a) && decide (1 ≤ b) && (Nat.gcd a.natAbs b.natAbs == 1) && (decide (a < b) || !k)) = false
      have q' : (decide (1 ≤ a) && decide (1 ≤ b)) = false := q
      rw [q']
      rfl
    by_cases px : posW x = true
    · by_cases py : posW y = true
      · cases x <;> first | (cases px; done) | skip
        cases y <;> first | (cases py; done) | skip
        rename_i a b
        rw [if_pos px] at i1
        rw [if_pos py] at i2
        have lr : forL (putT (.name 2)) (fun ρ' S' => runSs G (callAt G Fs (d + 1)) iB ρ' S') (Itr.stays ⟨[.int a, .int b], []⟩) [.int a, .int b] [some (.tup [.int a, .int b]), some (.bl k), none] S = some (.next [some (.tup [.int a, .int b]), some (.bl k), some (.int b)] S) := by
          unfold forL
          rw [if_pos (hst S)]
          simp only [put2, i1, turnS_next]
          unfold forL
          rw [if_pos (hst S)]
          simp only [put2, i2, turnS_next]
          unfold forL
          rw [if_pos (hst S)]
        rw [seq_next (lp.trans lr)]
        have u0 : runE G (callAt G Fs (d + 1)) (.var 0) [some (.tup [.int a, .int b]), some (.bl k), some (.int b)] S = some (.ok (.tup [.int a, .int b]) S) := var_at rfl
        have x0 : runE G (callAt G Fs (d + 1)) (.idx (.var 0) (.cst (.int 0))) [some (.tup [.int a, .int b]), some (.bl k), some (.int b)] S = some (.ok (.int a) S) := idx_at (k := 0) u0 rfl
        have x1 : runE G (callAt G Fs (d + 1)) (.idx (.var 0) (.cst (.int 1))) [some (.tup [.int a, .int b]), some (.bl k), some (.int b)] S = some (.ok (.int b) S) := idx_at (k := 1) u0 rfl
        have gc := call2_at x0 x1 (gcd14 (d := d) (S := S) (a := a) (b := b))
        have c1 : cmpW S .eq (.int (Nat.gcd a.natAbs b.natAbs : Nat)) (.int 1) = some (Nat.gcd a.natAbs b.natAbs == 1) := by
          show some (decide (((Nat.gcd a.natAbs b.natAbs : Nat) : Int) = 1)) = _
          congr 1
          rw [Bool.eq_iff_iff]
          simp
          omega
        have e2 : runE G (callAt G Fs (d + 1)) (.bool false (.cons (.cmp .lt (.idx (.var 0) (.cst (.int 0))) (.idx (.var 0) (.cst (.int 1)))) (.cons (.not_ (.var 1)) .nil))) [some (.tup [.int a, .int b]), some (.bl k), some (.int b)] S = some (.ok (.bl (decide (a < b) || !k)) S) := by
          have cl := cmpE_at (c := .lt) (r := decide (a < b)) x0 x1 rfl
          have nk : runE G (callAt G Fs (d + 1)) (.not_ (.var 1)) [some (.tup [.int a, .int b]), some (.bl k), some (.int b)] S = some (.ok (.bl (!k)) S) := by simp [runE, truW]
          conv => lhs; unfold runE
          unfold runB
          rw [cl]
          simp only [Rs.bind_ok, truW]
          by_cases hab : a < b
          · simp [hab]
          · rw [if_pos (by simp [hab])]
            unfold runB
            rw [nk]
            simp [hab]
        have fin := bool_and2 (cmpE_at gc cst_at c1) (fun _ => e2)
        rw [ret_at fin]
        have px' : 1 ≤ a := of_decide_eq_true px
        have py' : 1 ≤ b := of_decide_eq_true py
        show some _ = some _
        congr 3
        show ((Nat.gcd a.natAbs b.natAbs == 1) && (decide (a < b) || !k)) = (decide (1 ≤ a) && decide (1 ≤ b) && (Nat.gcd a.natAbs b.natAbs == 1) && (decide (a < b) || !k))
        rw [decide_eq_true px', decide_eq_true py']
        rfl
      · rw [if_pos px] at i1
        rw [if_neg py] at i2
        have lr : forL (putT (.name 2)) (fun ρ' S' => runSs G (callAt G Fs (d + 1)) iB ρ' S') (Itr.stays ⟨[x, y], []⟩) [x, y] [some (.tup [x, y]), some (.bl k), none] S = some (.ret (.bl false) S) := by
          unfold forL
          rw [if_pos (hst S)]
          simp only [put2, i1, turnS_next]
          unfold forL
          rw [if_pos (hst S)]
          simp only [put2, i2, turnS_ret]
        rw [seq_ret (lp.trans lr), nosh (by simp [py])]
        rfl
    · rw [if_neg px] at i1
      have lr : forL (putT (.name 2)) (fun ρ' S' => runSs G (callAt G Fs (d + 1)) iB ρ' S') (Itr.stays ⟨[x, y], []⟩) [x, y] [some (.tup [x, y]), some (.bl k), none] S = some (.ret (.bl false) S) := by
        unfold forL
        rw [if_pos (hst S)]
        simp only [put2, i1, turnS_ret]
      rw [seq_ret (lp.trans lr), nosh (by simp [px])]
      rfl
  · have e0 := noPair_of hw
    have e1 : shareW k w = false := by
      unfold shareW
      split
      · exact absurd ⟨_, _, rfl⟩ hw
      · rfl
    rw [e0] at t1
    rw [if_ret t1 cst_at, e1]
    rfl
end K03
namespace K03
open PySem L2 Co Lo
/-! ### sides -/
theorem cmpi_lt {S : Sto} {i j : Int} : cmpW S .lt (.int i) (.int j) = some (decide (i < j)) := rfl
theorem cmpi_le {S : Sto} {i j : Int} : cmpW S .le (.int i) (.int j) = some (decide (i ≤ j)) := rfl
theorem cmpi_gt {S : Sto} {i j : Int} : cmpW S .gt (.int i) (.int j) = some (decide (j < i)) := rfl
theorem frac_form {w : W} (h : frac w = true) : ∃ a b : Int, w = .tup [.int a, .int b] ∧ 1 ≤ b ∧ (Nat.gcd a.natAbs b.natAbs == 1) = true := by
  unfold frac at h
  split at h
  · rename_i a b
    simp only [Bool.and_eq_true, decide_eq_true_eq] at h
    exact ⟨a, b, rfl, h.1, h.2⟩
  · cases h
theorem share_form {k : Bool} {w : W} (h : shareW k w = true) : ∃ a b : Int, w = .tup [.int a, .int b] ∧ 1 ≤ a ∧ 1 ≤ b ∧ (Nat.gcd a.natAbs b.natAbs == 1) = true ∧ (decide (a < b) || !k) = true := by
  unfold shareW at h
  split at h
  · rename_i a b
    simp only [Bool.and_eq_true, decide_eq_true_eq] at h
    exact ⟨a, b, rfl, h.1.1.1, h.1.1.2, h.1.2, h.2⟩
  · cases h
theorem share_nofrac {k : Bool} {w : W} (h : frac w = false) : shareW k w = false := by
  cases hs : shareW k w with
  | false => rfl
  | true =>
    obtain ⟨a, b, rfl, h1, h2, h3, _⟩ := share_form hs
    have : frac (.tup [.int a, .int b]) = true := by
      show (decide (1 ≤ b) && (Nat.gcd a.natAbs b.natAbs == 1)) = true
      rw [decide_eq_true h2, h3]; rfl
    rw [this] at h
    cases h
theorem between6 {d : Nat} {S : Sto} {w : W} (h : Tyb2 S w) : callAt G Fs (d + 3) 6 [w] S = some (.ok (.bl (shareW true w)) S) := by
  rw [call_eq (fd := f6) rfl rfl]
  unfold f6
  simp only
  have st : startE 1 [w] = [some w] := rfl
  rw [st]
  have v0 : runE G (callAt G Fs (d + 2)) (.var 0) [some w] S = some (.ok w S) := var_at rfl
  have c := call1_at v0 (frac_run (d := d) h)
  cases hf : frac w with
  | false =>
    rw [hf] at c
    rw [ret_at (bool_and2 (y := true) c (fun q => by cases q)), share_nofrac hf]
    rfl
  | true =>
    rw [hf] at c
    obtain ⟨a, b, rfl, hb, hg⟩ := frac_form hf
    have x0 : runE G (callAt G Fs (d + 2)) (.idx (.var 0) (.cst (.int 0))) [some (.tup [.int a, .int b])] S = some (.ok (.int a) S) := idx_at (k := 0) v0 rfl
    have x1 : runE G (callAt G Fs (d + 2)) (.idx (.var 0) (.cst (.int 1))) [some (.tup [.int a, .int b])] S = some (.ok (.int b) S) := idx_at (k := 1) v0 rfl
    have ch := ch_at (a := .cst (.int 0)) cst_at x0 x1 (cmpi_lt (i := 0)) cmpi_lt
    rw [ret_at (bool_and2 c (fun _ => ch))]
    show some _ = some _
    congr 3
    show (true && (decide (0 < a) && decide (a < b))) = (decide (1 ≤ a) && decide (1 ≤ b) && (Nat.gcd a.natAbs b.natAbs == 1) && (decide (a < b) || !true))
    rw [hg, decide_eq_true hb]
    have : decide (0 < a) = decide (1 ≤ a) := by rw [decide_eq_decide]; omega
    rw [this]
    cases decide (1 ≤ a) <;> cases decide (a < b) <;> rfl
def sideW : W → Bool
  | .tup [.int n, s] => decide (0 ≤ n) && decide (n ≤ 9) && shareW false s
  | _ => false
def Tyb3 (S : Sto) (w : W) : Prop := Tyb S w ∧ ∀ x y, w = .tup [x, y] → Tyb S x ∧ Tyb2 S y
theorem side_nopair {w : W} (h : ¬ ∃ x y, w = .tup [x, y]) : sideW w = false := by
  unfold sideW
  split
  · exact absurd ⟨_, _, rfl⟩ h
  · rfl
theorem side7 {d : Nat} {S : Sto} {w : W} (h : Tyb3 S w) : callAt G Fs (d + 3) 7 [w] S = some (.ok (.bl (sideW w)) S) := by
  rw [call_eq (fd := f7) rfl rfl]
  unfold f7
  simp only
  have st : startE 1 [w] = [some w] := rfl
  rw [st]
  have v0 : runE G (callAt G Fs (d + 2)) (.var 0) [some w] S = some (.ok w S) := var_at rfl
  have t1 := pair_at v0 h.1
  by_cases hw : ∃ x y, w = .tup [x, y]
  · obtain ⟨x, y, rfl⟩ := hw
    obtain ⟨hx, hy⟩ := h.2 x y rfl
    rw [if_go t1]
    have x0 : runE G (callAt G Fs (d + 2)) (.idx (.var 0) (.cst (.int 0))) [some (.tup [x, y])] S = some (.ok x S) := idx_at (k := 0) v0 rfl
    have x1 : runE G (callAt G Fs (d + 2)) (.idx (.var 0) (.cst (.int 1))) [some (.tup [x, y])] S = some (.ok y S) := idx_at (k := 1) v0 rfl
    have c0 := notc_at (call1_at x0 (isInt_run (d := d + 1) hx))
    have g0 : runE G (callAt G Fs (d + 2)) (.glo 0) [some (.tup [x, y])] S = some (.ok (.int 9) S) := by unfold runE; rfl
    cases hi : isIntW x with
    | false =>
      rw [hi] at c0
      rw [if_ret (bool_or2 (y := true) c0 (fun q => by cases q)) cst_at]
      have : sideW (.tup [x, y]) = false := by
        cases x <;> first | rfl | cases hi
      rw [this]
      rfl
    | true =>
      rw [hi] at c0
      cases x <;> first | (cases hi; done) | skip
      rename_i n
      have c1 := notch_at (a := .cst (.int 0)) cst_at x0 g0 (cmpi_le (i := 0)) cmpi_le
      have t2 := bool_or2 c0 (fun _ => c1)
      cases hn : (decide (0 ≤ n) && decide (n ≤ 9)) with
      | false =>
        rw [hn] at t2
        rw [if_ret t2 cst_at]
        have : sideW (.tup [.int n, y]) = false := by
          show (decide (0 ≤ n) && decide (n ≤ 9) && shareW false y) = false
          rw [hn]; rfl
        rw [this]
        rfl
      | true =>
        rw [hn] at t2
        rw [if_go t2]
        have e0 : sideW (.tup [.int n, y]) = shareW false y := by
          show (decide (0 ≤ n) && decide (n ≤ 9) && shareW false y) = _
          rw [hn]; rfl
        rw [e0]
        have c := call1_at x1 (frac_run (d := d) hy)
        cases hf : frac y with
        | false =>
          rw [hf] at c
          rw [ret_at (bool_and2 (y := true) c (fun q => by cases q)), share_nofrac hf]
          rfl
        | true =>
          rw [hf] at c
          obtain ⟨a, b, rfl, hb, hg⟩ := frac_form hf
          have x10 : runE G (callAt G Fs (d + 2)) (.idx (.idx (.var 0) (.cst (.int 1))) (.cst (.int 0))) [some (.tup [.int n, .tup [.int a, .int b]])] S = some (.ok (.int a) S) := idx_at (k := 0) x1 rfl
          have cg := cmpE_at (b := .cst (.int 0)) x10 cst_at (cmpi_gt (j := 0))
          rw [ret_at (bool_and2 c (fun _ => cg))]
          show some _ = some _
          congr 3
          show (true && decide (0 < a)) = (decide (1 ≤ a) && decide (1 ≤ b) && (Nat.gcd a.natAbs b.natAbs == 1) && (decide (a < b) || !false))
          rw [hg, decide_eq_true hb]
          have : decide (0 < a) = decide (1 ≤ a) := by rw [decide_eq_decide]; omega
          rw [this]
          simp
  · rw [noPair_of hw] at t1
    rw [if_ret t1 cst_at, side_nopair hw]
    rfl
def withinW (lo hi : Int) : W → Bool
  | .int i => decide (lo ≤ i) && decide (i ≤ hi)
  | _ => false
theorem within20 {d : Nat} {S : Sto} {w : W} {lo hi : Int} (h : Tyb S w) : callAt G Fs (d + 1) 20 [w, .int lo, .int hi] S = some (.ok (.bl (withinW lo hi w)) S) := by
  rw [call_eq (fd := f20) rfl rfl]
  unfold f20
  simp only
  have st : startE 3 [w, .int lo, .int hi] = [some w, some (.int lo), some (.int hi)] := rfl
  rw [st]
  have v0 : runE G (callAt G Fs d) (.var 0) [some w, some (.int lo), some (.int hi)] S = some (.ok w S) := var_at rfl
  have v1 : runE G (callAt G Fs d) (.var 1) [some w, some (.int lo), some (.int hi)] S = some (.ok (.int lo) S) := var_at rfl
  have v2 : runE G (callAt G Fs d) (.var 2) [some w, some (.int lo), some (.int hi)] S = some (.ok (.int hi) S) := var_at rfl
  have nb : ∀ {b : Bool}, isT S w .bool = some b → runE G (callAt G Fs d) (.not_ (.isi .bool (.var 0))) [some w, some (.int lo), some (.int hi)] S = some (.ok (.bl (!b)) S) := fun {b} hb => by
    have := isi_at v0 hb
    conv => lhs; unfold runE
    rw [this]
    rfl
  cases w with
  | int i =>
    have ch := ch_at v1 v0 v2 (cmpi_le (i := lo) (j := i)) (cmpi_le (j := hi))
    rw [ret_at (bool_and3 (isi_at (t := .int) (b := true) v0 rfl) (fun _ => nb (b := false) rfl) (fun _ _ => ch))]
    rfl
  | bl b =>
    rw [ret_at (bool_and3 (y := false) (z := true) (isi_at (t := .int) (b := true) v0 rfl) (fun _ => nb (b := true) rfl) (fun _ q => by cases q))]
    rfl
  | ref n =>
    rw [ret_at (bool_and3 (y := false) (z := true) (b := .not_ (.isi .bool (.var 0))) (c := .chain .le .le (.var 1) (.var 0) (.var 2)) (isi_at v0 (isi_ref h (t := .int) (by decide) (by decide))) (fun q => by cases q) (fun q => by cases q))]
    rfl
  | non =>
    rw [ret_at (bool_and3 (y := false) (z := true) (b := .not_ (.isi .bool (.var 0))) (c := .chain .le .le (.var 1) (.var 0) (.var 2)) (isi_at (t := .int) (b := false) v0 rfl) (fun q => by cases q) (fun q => by cases q))]
    rfl
  | str _ =>
    rw [ret_at (bool_and3 (y := false) (z := true) (b := .not_ (.isi .bool (.var 0))) (c := .chain .le .le (.var 1) (.var 0) (.var 2)) (isi_at (t := .int) (b := false) v0 rfl) (fun q => by cases q) (fun q => by cases q))]
    rfl
  | tup _ =>
    rw [ret_at (bool_and3 (y := false) (z := true) (b := .not_ (.isi .bool (.var 0))) (c := .chain .le .le (.var 1) (.var 0) (.var 2)) (isi_at (t := .int) (b := false) v0 rfl) (fun q => by cases q) (fun q => by cases q))]
    rfl
/-! ### the first look through the sides -/
abbrev L1 : CSs := .cons (.ife (.not_ (.call 7 (.cons (.var 3) .nil) .nil [])) (.cons (.ret (.tup (.cons (.cst (.str "side")) (.cons (.var 1) .nil)))) .nil) .nil) .nil
abbrev M1 : CSs := .cons (.ife (.bool false (.cons (.not_ (.isi .tuple (.var 3))) (.cons (.cmp .ne (.blt .len (.cons (.var 3) .nil)) (.cst (.int 2))) .nil))) (.cons (.ret (.tup (.cons (.cst (.str "side")) (.cons (.var 1) .nil)))) .nil) .nil) (.cons (.ife (.bool false (.cons (.not_ (.call 20 (.cons (.idx (.var 3) (.cst (.int 0))) (.cons (.cst (.int 0)) (.cons (.cst (.int 9)) .nil))) .nil [])) (.cons (.not_ (.call 21 (.cons (.idx (.var 3) (.cst (.int 1))) (.cons (.cst (.bl false)) .nil)) .nil [])) .nil))) (.cons (.ret (.tup (.cons (.cst (.str "side")) (.cons (.var 1) .nil)))) .nil) .nil) .nil)
theorem l1_at {d : Nat} {S : Sto} {V w : W} {k : Nat} {t : Option W} (h : Tyb3 S w) : runSs G (callAt G Fs (d + 3)) L1 [some V, some (.int (k : Nat)), t, some w] S = if sideW w = true then some (.next [some V, some (.int (k : Nat)), t, some w] S) else some (.ret (.tup [.str "side", .int (k : Nat)]) S) := by
  have v3 : runE G (callAt G Fs (d + 3)) (.var 3) [some V, some (.int (k : Nat)), t, some w] S = some (.ok w S) := var_at rfl
  have v1 : runE G (callAt G Fs (d + 3)) (.var 1) [some V, some (.int (k : Nat)), t, some w] S = some (.ok (.int (k : Nat)) S) := var_at rfl
  have c := notc_at (call1_at v3 (side7 (d := d) h))
  cases hs : sideW w with
  | true =>
    rw [hs] at c
    rw [if_go c, run_nil, if_pos rfl]
  | false =>
    rw [hs] at c
    rw [if_ret c (tup2_at cst_at v1), if_neg (by decide)]
theorem m1_at {d : Nat} {S : Sto} {V w : W} {k : Nat} {t : Option W} (h : Tyb3 S w) : runSs G (callAt G Fs (d + 3)) M1 [some V, some (.int (k : Nat)), t, some w] S = if sideW w = true then some (.next [some V, some (.int (k : Nat)), t, some w] S) else some (.ret (.tup [.str "side", .int (k : Nat)]) S) := by
  have v3 : runE G (callAt G Fs (d + 3)) (.var 3) [some V, some (.int (k : Nat)), t, some w] S = some (.ok w S) := var_at rfl
  have v1 : runE G (callAt G Fs (d + 3)) (.var 1) [some V, some (.int (k : Nat)), t, some w] S = some (.ok (.int (k : Nat)) S) := var_at rfl
  have t1 := pair_at v3 h.1
  by_cases hw : ∃ x y, w = .tup [x, y]
  · obtain ⟨x, y, rfl⟩ := hw
    obtain ⟨hx, hy⟩ := h.2 x y rfl
    rw [if_go t1]
    have x0 : runE G (callAt G Fs (d + 3)) (.idx (.var 3) (.cst (.int 0))) [some V, some (.int (k : Nat)), t, some (.tup [x, y])] S = some (.ok x S) := idx_at (k := 0) v3 rfl
    have x1 : runE G (callAt G Fs (d + 3)) (.idx (.var 3) (.cst (.int 1))) [some V, some (.int (k : Nat)), t, some (.tup [x, y])] S = some (.ok y S) := idx_at (k := 1) v3 rfl
    have c0 := notc_at (call3_at x0 cst_at cst_at (within20 (d := d + 2) (lo := 0) (hi := 9) hx))
    have c1 := notc_at (call2_at x1 cst_at (share21 (d := d + 1) (k := false) hy))
    have t2 := bool_or2 c0 (fun _ => c1)
    have e : (!withinW 0 9 x || !shareW false y) = !sideW (.tup [x, y]) := by
      cases x <;> first | rfl | skip
      rename_i n
      show (!(decide (0 ≤ n) && decide (n ≤ 9)) || !shareW false y) = !(decide (0 ≤ n) && decide (n ≤ 9) && shareW false y)
      cases (decide (0 ≤ n) && decide (n ≤ 9)) <;> cases shareW false y <;> rfl
    rw [e] at t2
    cases hs : sideW (.tup [x, y]) with
    | true =>
      rw [hs] at t2
      rw [if_go t2, run_nil, if_pos rfl]
    | false =>
      rw [hs] at t2
      rw [if_ret t2 (tup2_at cst_at v1), if_neg (by decide)]
  · rw [noPair_of hw] at t1
    rw [if_ret t1 (tup2_at cst_at v1), side_nopair hw, if_neg (by decide)]
end K03
namespace K03
open PySem L2 Co Lo
/-! ### sums of shares -/
def frN (n m : Nat) : Nat × Nat := (n / Nat.gcd n m, m / Nat.gcd n m)
theorem mul_big {S : Sto} {i j : Int} (h : i.natAbs < 2 ^ 20000) (h' : j.natAbs < 2 ^ 20000) : op2 S .mul (.int i) (.int j) = some (.ok (.int (i * j)) S) := by
  have l : ∀ k : Int, k.natAbs < 2 ^ 20000 → k.natAbs.log2 < 20000 := fun k hk => by
    by_cases h0 : k.natAbs = 0
    · rw [h0]; decide
    · exact (Nat.log2_lt h0).mpr hk
  have : MulOk i j := .inr (by
    have a := l i h
    have b := l j h'
    show i.natAbs.log2 + j.natAbs.log2 < 1000000
    omega)
  show (if MulOk i j then okW (W.int (i * j)) S else none) = _
  rw [if_pos this]
  rfl
theorem div_big {S : Sto} {n g : Nat} (h : 0 < g) (h' : g < 2 ^ 9000) : op2 S .fdiv (.int (n : Nat)) (.int (g : Nat)) = some (.ok (.int ((n / g : Nat) : Int)) S) := by
  have : CDivW (n : Int) (g : Int) := ⟨by omega, by
    show ((g : Int)).natAbs.log2 < 9000
    rw [Int.natAbs_natCast]
    exact (Nat.log2_lt (by omega)).mpr h'⟩
  show (if CDivN (n : Int) (g : Int) ∨ CDivW (n : Int) (g : Int) then okW (W.int ((n : Int).fdiv (g : Int))) S else none) = _
  rw [if_pos (.inr this), Int.fdiv_eq_ediv_of_nonneg _ (by omega)]
  rfl
theorem fdiv_at {O : Orc} {a b : CE} {ρ : En} {S : Sto} {n g : Nat} (ha : runE G O a ρ S = some (.ok (.int (n : Nat)) S)) (hb : runE G O b ρ S = some (.ok (.int (g : Nat)) S)) (h : 0 < g) (h' : g < 2 ^ 9000) : runE G O (.bin .fdiv a b) ρ S = some (.ok (.int ((n / g : Nat) : Int)) S) := by
  simp [runE, ha, hb, div_big h h']
theorem mul_at {O : Orc} {a b : CE} {ρ : En} {S : Sto} {i j : Int} (ha : runE G O a ρ S = some (.ok (.int i) S)) (hb : runE G O b ρ S = some (.ok (.int j) S)) (h : i.natAbs < 2 ^ 20000) (h' : j.natAbs < 2 ^ 20000) : runE G O (.bin .mul a b) ρ S = some (.ok (.int (i * j)) S) := by
  conv => lhs; unfold runE
  rw [ha]
  simp only [Rs.bind_ok, hb, mul_big h h']
theorem add_at {O : Orc} {a b : CE} {ρ : En} {S : Sto} {i j : Int} (ha : runE G O a ρ S = some (.ok (.int i) S)) (hb : runE G O b ρ S = some (.ok (.int j) S)) : runE G O (.bin .add a b) ρ S = some (.ok (.int (i + j)) S) := by
  conv => lhs; unfold runE
  rw [ha]
  simp only [Rs.bind_ok, hb]
  rfl
theorem abs_at {O : Orc} {a : CE} {ρ : En} {S : Sto} {i : Int} (ha : runE G O a ρ S = some (.ok (.int i) S)) : runE G O (.blt .abs (.cons a .nil)) ρ S = some (.ok (.int ((i.natAbs : Nat) : Int)) S) := by
  rw [blt_one, ha]
  show some (R.ok (W.int (if i < 0 then -i else i)) S) = _
  rw [abs_nat]
theorem gcd_pos {n m : Nat} (h : 1 ≤ m) : 0 < Nat.gcd n m := Nat.gcd_pos_of_pos_right _ (by omega)
theorem gcd_lt {n m k : Nat} (h : 1 ≤ m) (hk : m < k) : Nat.gcd n m < k := Nat.lt_of_le_of_lt (Nat.gcd_le_right _ (by omega)) hk
theorem low3 {d : Nat} {S : Sto} {n m : Nat} (hm : 1 ≤ m) (hb : m < 2 ^ 9000) : callAt G Fs (d + 2) 3 [.int (n : Nat), .int (m : Nat)] S = some (.ok (.tup [.int ((frN n m).1 : Nat), .int ((frN n m).2 : Nat)]) S) := by
  rw [call_eq (fd := f3) rfl rfl]
  unfold f3
  simp only
  have st : startE 3 [.int (n : Nat), .int (m : Nat)] = [some (.int (n : Nat)), some (.int (m : Nat)), none] := rfl
  rw [st]
  have v0 : ∀ x, runE G (callAt G Fs (d + 1)) (.var 0) [some (.int (n : Nat)), some (.int (m : Nat)), x] S = some (.ok (.int (n : Nat)) S) := fun x => var_at rfl
  have v1 : ∀ x, runE G (callAt G Fs (d + 1)) (.var 1) [some (.int (n : Nat)), some (.int (m : Nat)), x] S = some (.ok (.int (m : Nat)) S) := fun x => var_at rfl
  have c1 : runT G (callAt G Fs (d + 1)) (.cmp .eq (.var 1) (.cst (.int 0))) [some (.int (n : Nat)), some (.int (m : Nat)), none] S = some (.ok false S) := by
    refine cmpT_at (v1 none) cst_at ?_
    show some (decide (((m : Nat) : Int) = 0)) = _
    rw [decide_eq_false (by omega)]
  have cg := call2_at (abs_at (v0 none)) (abs_at (v1 none)) (gcd1 (d := d) (S := S) (m := n) (n := m))
  have c2 : runT G (callAt G Fs (d + 1)) (.cmp .lt (.var 1) (.cst (.int 0))) [some (.int (n : Nat)), some (.int (m : Nat)), some (.int (Nat.gcd n m : Nat))] S = some (.ok false S) := by
    refine cmpT_at (v1 _) cst_at ?_
    show some (decide (((m : Nat) : Int) < 0)) = _
    rw [decide_eq_false (by omega)]
  have v2 : runE G (callAt G Fs (d + 1)) (.var 2) [some (.int (n : Nat)), some (.int (m : Nat)), some (.int (Nat.gcd n m : Nat))] S = some (.ok (.int (Nat.gcd n m : Nat)) S) := var_at rfl
  rw [if_go c1, seq_next (asg_at (t := .name 2) (ρ1 := [some (.int (n : Nat)), some (.int (m : Nat)), some (.int (Nat.gcd n m : Nat))]) cg (by simp [putT])), if_go c2]
  rw [ret_at (tup2_at (fdiv_at (v0 _) v2 (gcd_pos hm) (gcd_lt hm hb)) (fdiv_at (v1 _) v2 (gcd_pos hm) (gcd_lt hm hb)))]
  rfl
theorem low15 {d : Nat} {S : Sto} {n m : Nat} (hm : 1 ≤ m) (hb : m < 2 ^ 9000) : callAt G Fs (d + 2) 15 [.int (n : Nat), .int (m : Nat)] S = some (.ok (.tup [.int ((frN n m).1 : Nat), .int ((frN n m).2 : Nat)]) S) := by
  rw [call_eq (fd := f15) rfl rfl]
  unfold f15
  simp only
  have st : startE 3 [.int (n : Nat), .int (m : Nat)] = [some (.int (n : Nat)), some (.int (m : Nat)), none] := rfl
  rw [st]
  have v0 : ∀ x, runE G (callAt G Fs (d + 1)) (.var 0) [some (.int (n : Nat)), some (.int (m : Nat)), x] S = some (.ok (.int (n : Nat)) S) := fun x => var_at rfl
  have v1 : ∀ x, runE G (callAt G Fs (d + 1)) (.var 1) [some (.int (n : Nat)), some (.int (m : Nat)), x] S = some (.ok (.int (m : Nat)) S) := fun x => var_at rfl
  have g14 := gcd14 (d := d) (S := S) (a := (n : Int)) (b := (m : Int))
  rw [Int.natAbs_natCast, Int.natAbs_natCast] at g14
  have cg := call2_at (v0 none) (v1 none) g14
  have v2 : runE G (callAt G Fs (d + 1)) (.var 2) [some (.int (n : Nat)), some (.int (m : Nat)), some (.int (Nat.gcd n m : Nat))] S = some (.ok (.int (Nat.gcd n m : Nat)) S) := var_at rfl
  have c2 : runE G (callAt G Fs (d + 1)) (.ife (.cmp .gt (.var 1) (.cst (.int 0))) (.var 2) (.neg (.var 2))) [some (.int (n : Nat)), some (.int (m : Nat)), some (.int (Nat.gcd n m : Nat))] S = some (.ok (.int (Nat.gcd n m : Nat)) S) := by
    have ct : runT G (callAt G Fs (d + 1)) (.cmp .gt (.var 1) (.cst (.int 0))) [some (.int (n : Nat)), some (.int (m : Nat)), some (.int (Nat.gcd n m : Nat))] S = some (.ok true S) := by
      refine cmpT_at (v1 _) cst_at ?_
      show some (decide (0 < ((m : Nat) : Int))) = _
      rw [decide_eq_true (by omega)]
    conv => lhs; unfold runE
    rw [ct]
    simp only [Rs.bind_ok, if_true]
    exact v2
  rw [seq_next (asg_at (t := .name 2) (ρ1 := [some (.int (n : Nat)), some (.int (m : Nat)), some (.int (Nat.gcd n m : Nat))]) cg (by simp [putT])), seq_next (asg_at (t := .name 2) (ρ1 := [some (.int (n : Nat)), some (.int (m : Nat)), some (.int (Nat.gcd n m : Nat))]) c2 (by simp [putT]))]
  rw [ret_at (tup2_at (fdiv_at (v0 _) v2 (gcd_pos hm) (gcd_lt hm hb)) (fdiv_at (v1 _) v2 (gcd_pos hm) (gcd_lt hm hb)))]
  rfl
abbrev plusE (i : Nat) : CE := .call i (.cons (.bin .add (.bin .mul (.idx (.var 0) (.cst (.int 0))) (.idx (.var 1) (.cst (.int 1)))) (.bin .mul (.idx (.var 1) (.cst (.int 0))) (.idx (.var 0) (.cst (.int 1))))) (.cons (.bin .mul (.idx (.var 0) (.cst (.int 1))) (.idx (.var 1) (.cst (.int 1)))) .nil)) .nil []
theorem plus_run {d f i : Nat} (hf : Fs[f]? = some ⟨2, 2, .cons (.ret (plusE i)) .nil⟩) (hi : ∀ {S : Sto} {n m : Nat}, 1 ≤ m → m < 2 ^ 9000 → callAt G Fs (d + 2) i [.int (n : Nat), .int (m : Nat)] S = some (.ok (.tup [.int ((frN n m).1 : Nat), .int ((frN n m).2 : Nat)]) S)) {S : Sto} {p q a b : Nat}
    (hm : 1 ≤ q * b) (hb : q * b < 2 ^ 9000) (h1 : p < 2 ^ 20000) (h2 : q < 2 ^ 20000) (h3 : a < 2 ^ 20000) (h4 : b < 2 ^ 20000) : callAt G Fs (d + 3) f [.tup [.int (p : Nat), .int (q : Nat)], .tup [.int (a : Nat), .int (b : Nat)]] S = some (.ok (.tup [.int ((frN (p * b + a * q) (q * b)).1 : Nat), .int ((frN (p * b + a * q) (q * b)).2 : Nat)]) S) := by
  rw [call_eq hf rfl]
  simp only
  have st : startE 2 [.tup [.int (p : Nat), .int (q : Nat)], .tup [.int (a : Nat), .int (b : Nat)]] = [some (.tup [.int (p : Nat), .int (q : Nat)]), some (.tup [.int (a : Nat), .int (b : Nat)])] := rfl
  rw [st]
  generalize hρ : [some (W.tup [.int (p : Nat), .int (q : Nat)]), some (W.tup [.int (a : Nat), .int (b : Nat)])] = ρ
  have v0 : runE G (callAt G Fs (d + 2)) (.var 0) ρ S = some (.ok (.tup [.int (p : Nat), .int (q : Nat)]) S) := by rw [← hρ]; exact var_at rfl
  have v1 : runE G (callAt G Fs (d + 2)) (.var 1) ρ S = some (.ok (.tup [.int (a : Nat), .int (b : Nat)]) S) := by rw [← hρ]; exact var_at rfl
  have x00 : runE G (callAt G Fs (d + 2)) (.idx (.var 0) (.cst (.int 0))) ρ S = some (.ok (.int (p : Nat)) S) := idx_at (k := 0) v0 rfl
  have x01 : runE G (callAt G Fs (d + 2)) (.idx (.var 0) (.cst (.int 1))) ρ S = some (.ok (.int (q : Nat)) S) := idx_at (k := 1) v0 rfl
  have x10 : runE G (callAt G Fs (d + 2)) (.idx (.var 1) (.cst (.int 0))) ρ S = some (.ok (.int (a : Nat)) S) := idx_at (k := 0) v1 rfl
  have x11 : runE G (callAt G Fs (d + 2)) (.idx (.var 1) (.cst (.int 1))) ρ S = some (.ok (.int (b : Nat)) S) := idx_at (k := 1) v1 rfl
  have m1 := mul_at x00 x11 (by simpa using h1) (by simpa using h4)
  have m2 := mul_at x10 x01 (by simpa using h3) (by simpa using h2)
  have m3 := mul_at x01 x11 (by simpa using h2) (by simpa using h4)
  have s1 := add_at m1 m2
  have e1 : ((p : Nat) : Int) * (b : Nat) + (a : Nat) * (q : Nat) = ((p * b + a * q : Nat) : Int) := by simp
  have e2 : ((q : Nat) : Int) * (b : Nat) = ((q * b : Nat) : Int) := by simp
  rw [e1] at s1
  rw [e2] at m3
  rw [ret_at (call2_at s1 m3 (hi hm hb))]
  rfl
theorem plus5 {d : Nat} {S : Sto} {p q a b : Nat} (hm : 1 ≤ q * b) (hb : q * b < 2 ^ 9000) (h1 : p < 2 ^ 20000) (h2 : q < 2 ^ 20000) (h3 : a < 2 ^ 20000) (h4 : b < 2 ^ 20000) : callAt G Fs (d + 3) 5 [.tup [.int (p : Nat), .int (q : Nat)], .tup [.int (a : Nat), .int (b : Nat)]] S = some (.ok (.tup [.int ((frN (p * b + a * q) (q * b)).1 : Nat), .int ((frN (p * b + a * q) (q * b)).2 : Nat)]) S) :=
  plus_run (i := 3) rfl (fun h h' => low3 h h') hm hb h1 h2 h3 h4
theorem plus16 {d : Nat} {S : Sto} {p q a b : Nat} (hm : 1 ≤ q * b) (hb : q * b < 2 ^ 9000) (h1 : p < 2 ^ 20000) (h2 : q < 2 ^ 20000) (h3 : a < 2 ^ 20000) (h4 : b < 2 ^ 20000) : callAt G Fs (d + 3) 16 [.tup [.int (p : Nat), .int (q : Nat)], .tup [.int (a : Nat), .int (b : Nat)]] S = some (.ok (.tup [.int ((frN (p * b + a * q) (q * b)).1 : Nat), .int ((frN (p * b + a * q) (q * b)).2 : Nat)]) S) :=
  plus_run (i := 15) rfl (fun h h' => low15 h h') hm hb h1 h2 h3 h4
theorem comp4 {d : Nat} {S : Sto} {p q : Nat} (h1 : p < 2 ^ 20000) (h2 : q < 2 ^ 20000) : ∃ r : Int, callAt G Fs (d + 1) 4 [.tup [.int (p : Nat), .int (q : Nat)], .tup [.int 1, .int 1]] S = some (.ok (.int r) S) ∧ decide (r = 0) = decide (p = q) := by
  have st : startE 4 [.tup [.int (p : Nat), .int (q : Nat)], .tup [.int 1, .int 1]] = [some (.tup [.int (p : Nat), .int (q : Nat)]), some (.tup [.int 1, .int 1]), none, none] := rfl
  have one : (1 : Int).natAbs < 2 ^ 20000 := Nat.one_lt_two_pow (by decide)
  have v0 : ∀ x y, runE G (callAt G Fs d) (.var 0) [some (.tup [.int (p : Nat), .int (q : Nat)]), some (.tup [.int 1, .int 1]), x, y] S = some (.ok (.tup [.int (p : Nat), .int (q : Nat)]) S) := fun x y => var_at rfl
  have v1 : ∀ x y, runE G (callAt G Fs d) (.var 1) [some (.tup [.int (p : Nat), .int (q : Nat)]), some (.tup [.int 1, .int 1]), x, y] S = some (.ok (.tup [.int 1, .int 1]) S) := fun x y => var_at rfl
  have x00 : runE G (callAt G Fs d) (.idx (.var 0) (.cst (.int 0))) [some (.tup [.int (p : Nat), .int (q : Nat)]), some (.tup [.int 1, .int 1]), none, none] S = some (.ok (.int (p : Nat)) S) := idx_at (k := 0) (v0 _ _) rfl
  have x01 : runE G (callAt G Fs d) (.idx (.var 0) (.cst (.int 1))) [some (.tup [.int (p : Nat), .int (q : Nat)]), some (.tup [.int 1, .int 1]), none, none] S = some (.ok (.int (q : Nat)) S) := idx_at (k := 1) (v0 _ _) rfl
  have x10 : runE G (callAt G Fs d) (.idx (.var 1) (.cst (.int 0))) [some (.tup [.int (p : Nat), .int (q : Nat)]), some (.tup [.int 1, .int 1]), none, none] S = some (.ok (.int 1) S) := idx_at (k := 0) (v1 _ _) rfl
  have x11 : runE G (callAt G Fs d) (.idx (.var 1) (.cst (.int 1))) [some (.tup [.int (p : Nat), .int (q : Nat)]), some (.tup [.int 1, .int 1]), none, none] S = some (.ok (.int 1) S) := idx_at (k := 1) (v1 _ _) rfl
  have m1 := mul_at x00 x11 (by simpa using h1) one
  have m2 := mul_at x10 x01 one (by simpa using h2)
  rw [Int.mul_one] at m1
  rw [Int.one_mul] at m2
  have s1 := asg_at (t := .tup [.name 2, .name 3]) (tup2_at m1 m2) (show putT (.tup [.name 2, .name 3]) (.tup [.int (p : Nat), .int (q : Nat)]) [some (.tup [.int (p : Nat), .int (q : Nat)]), some (.tup [.int 1, .int 1]), none, none] = some [some (.tup [.int (p : Nat), .int (q : Nat)]), some (.tup [.int 1, .int 1]), some (.int (p : Nat)), some (.int (q : Nat))] by simp [putT, putTs])
  generalize hρ : [some (W.tup [.int (p : Nat), .int (q : Nat)]), some (W.tup [.int 1, .int 1]), some (W.int (p : Nat)), some (W.int (q : Nat))] = ρ at s1
  have v2 : runE G (callAt G Fs d) (.var 2) ρ S = some (.ok (.int (p : Nat)) S) := by rw [← hρ]; exact var_at rfl
  have v3 : runE G (callAt G Fs d) (.var 3) ρ S = some (.ok (.int (q : Nat)) S) := by rw [← hρ]; exact var_at rfl
  have ce := cmpT_at (c := .eq) (r := decide (((p : Nat) : Int) = (q : Nat))) v2 v3 rfl
  by_cases h : p = q
  · refine ⟨0, ?_, by rw [decide_eq_true h]; rfl⟩
    rw [decide_eq_true (by omega)] at ce
    rw [call_eq (fd := f4) rfl rfl]
    unfold f4
    simp only
    rw [st, seq_next s1, if_ret ce cst_at]
    rfl
  · rw [decide_eq_false (by omega)] at ce
    have cl := cmpT_at (c := .lt) (r := decide (((p : Nat) : Int) < (q : Nat))) v2 v3 rfl
    refine ⟨if ((p : Nat) : Int) < (q : Nat) then -1 else 1, ?_, ?_⟩
    · rw [call_eq (fd := f4) rfl rfl]
      unfold f4
      simp only
      rw [st, seq_next s1, if_go ce]
      have e : runE G (callAt G Fs d) (.ife (.cmp .lt (.var 2) (.var 3)) (.neg (.cst (.int 1))) (.cst (.int 1))) ρ S = some (.ok (.int (if ((p : Nat) : Int) < (q : Nat) then -1 else 1)) S) := by
        conv => lhs; unfold runE
        rw [cl]
        by_cases hl : ((p : Nat) : Int) < (q : Nat)
        · rw [decide_eq_true hl, if_pos hl]
          simp [runE]
        · rw [decide_eq_false hl, if_neg hl]
          simp [runE]
      rw [ret_at e]
      rfl
    · rw [decide_eq_false h]
      split <;> decide
theorem eq11 {S : Sto} {p q : Nat} : eqW S (.tup [.int (p : Nat), .int (q : Nat)]) (.tup [.int 1, .int 1]) = some (decide (p = 1) && decide (q = 1)) := by
  show eqD S (.tup [.int (p : Nat), .int (q : Nat)]) (.tup [.int 1, .int 1]) = _
  unfold eqD
  have r1 : readD 60 S (.tup [.int (p : Nat), .int (q : Nat)]) = some (.tuple [.int (p : Nat), .int (q : Nat)]) := rfl
  have r2 : readD 60 S (.tup [.int 1, .int 1]) = some (.tuple [.int 1, .int 1]) := rfl
  rw [r1, r2]
  have sh1 : SeqAt.shaped (.tuple [.int (p : Nat), .int (q : Nat)]) = true := by
    simp only [SeqAt.shaped, PyData.canLay0, PyData.canLayAll0, PyData.depth, PyData.depthAll]
    rfl
  have sh2 : SeqAt.shaped (.tuple [.int 1, .int 1]) = true := by decide
  simp only [sh1, sh2, and_self, if_true]
  congr 1
  rw [Bool.eq_iff_iff]
  simp [PyData.eqv, PyData.eqvAll]
  omega
end K03
namespace K03
open PySem L2 Co Lo
/-! ### the looks through the sides -/
def firstN (good : W → Bool) : List W → Nat → Option Nat
  | [], _ => none
  | w :: ws, k => if good w = true then firstN good ws (k + 1) else some k
theorem firstN_lt {good : W → Bool} : ∀ {ws : List W} {k m : Nat}, firstN good ws k = some m → m < k + ws.length
  | [], _, _, h => by cases h
  | w :: ws, k, m, h => by
    unfold firstN at h
    rw [List.length_cons]
    split at h
    · have := firstN_lt h
      omega
    · cases h; omega
theorem firstN_none {good : W → Bool} : ∀ {ws : List W} {k : Nat}, firstN good ws k = none → ∀ w ∈ ws, good w = true
  | [], _, _, _, h => by cases h
  | v :: ws, k, h, w, hw => by
    unfold firstN at h
    split at h
    · rcases List.mem_cons.mp hw with rfl | hw
      · assumption
      · exact firstN_none h w hw
    · cases h
theorem hit4 {O : Orc} {body : CSs} {V : W} {S : Sto} {stays : Sto → Prop} (hst : stays S) {good : W → Bool} {res : Nat → W} : ∀ (ws : List W) (k : Nat) (a t b : Option W),
    (∀ w ∈ ws, ∀ k : Nat, runSs G O body [some V, some (.int (k : Nat)), t, some w] S = if good w = true then some (.next [some V, some (.int (k : Nat)), t, some w] S) else some (.ret (res k) S)) →
    (∀ m, firstN good ws k = some m → forL (putT (.tup [.name 1, .name 3])) (fun ρ' S' => runSs G O body ρ' S') stays (ws.mapIdx fun j w => .tup [.int ((k + j : Nat) : Int), w]) [some V, a, t, b] S = some (.ret (res m) S)) ∧
    (firstN good ws k = none → ∃ a' b', forL (putT (.tup [.name 1, .name 3])) (fun ρ' S' => runSs G O body ρ' S') stays (ws.mapIdx fun j w => .tup [.int ((k + j : Nat) : Int), w]) [some V, a, t, b] S = some (.next [some V, a', t, b'] S)) := by
  intro ws
  induction ws with
  | nil =>
    intro k a t b _
    refine ⟨fun m h => (by cases h), fun _ => ⟨a, b, ?_⟩⟩
    simp [forL, hst]
  | cons w ws ih =>
    intro k a t b hb
    have idx : (List.mapIdx (fun j w => W.tup [W.int ((k + j : Nat) : Int), w]) (w :: ws)) = .tup [.int (k : Nat), w] :: ws.mapIdx fun j w => .tup [.int ((k + 1 + j : Nat) : Int), w] := by
      rw [List.mapIdx_cons]
      congr 1
      apply List.mapIdx_eq_mapIdx_iff.mpr
      intro j hj
      congr 4
      omega
    rw [idx]
    have put : putT (.tup [.name 1, .name 3]) (.tup [.int (k : Nat), w]) [some V, a, t, b] = some [some V, some (.int (k : Nat)), t, some w] := by
      simp [putT, putTs]
    have h0 := hb w (List.mem_cons_self ..) k
    have rest := ih (k + 1) (some (.int (k : Nat))) t (some w) fun v hv j => hb v (List.mem_cons_of_mem _ hv) j
    unfold firstN
    unfold forL
    rw [if_pos hst]
    simp only [put]
    by_cases hq : good w = true
    · rw [if_pos hq] at h0
      simp only [h0, turnS_next, if_pos hq]
      exact rest
    · rw [if_neg hq] at h0
      simp only [h0, turnS_ret, if_neg hq]
      exact ⟨fun m h => (by cases h; rfl), fun h => (by cases h)⟩
def num : W → Int
  | .tup [.int i, _] => i
  | _ => 0
def ordB (ws : List W) (k : Nat) : Bool := match ws[k + 1]?, ws[k]? with
  | some x, some y => decide (num x ≤ num y)
  | _, _ => false
abbrev OB : CSs := .cons (.ife (.cmp .le (.idx (.idx (.var 0) (.var 1)) (.cst (.int 0))) (.idx (.idx (.var 0) (.bin .sub (.var 1) (.cst (.int 1)))) (.cst (.int 0)))) (.cons (.ret (.tup (.cons (.cst (.str "order")) (.cons (.var 1) .nil)))) .nil) .nil) .nil
theorem side_form {w : W} (h : sideW w = true) : ∃ (n : Int) (a b : Nat), w = .tup [.int n, .tup [.int (a : Nat), .int (b : Nat)]] ∧ 1 ≤ a ∧ 1 ≤ b := by
  unfold sideW at h
  split at h
  · rename_i n s
    simp only [Bool.and_eq_true] at h
    obtain ⟨a, b, rfl, h1, h2, _⟩ := share_form h.2
    refine ⟨n, a.toNat, b.toNat, ?_, by omega, by omega⟩
    rw [Int.toNat_of_nonneg (by omega), Int.toNat_of_nonneg (by omega)]
  · cases h
theorem ord_at {O : Orc} {S : Sto} {ws : List W} (hg : ∀ w ∈ ws, sideW w = true) {k : Nat} (hk : k + 1 < ws.length) {t b : Option W} : runSs G O OB [some (.tup ws), some (.int (1 + (k : Nat))), t, b] S = if ordB ws k = true then some (.ret (.tup [.str "order", .int (1 + (k : Nat))]) S) else some (.next [some (.tup ws), some (.int (1 + (k : Nat))), t, b] S) := by
  have v0 : runE G O (.var 0) [some (.tup ws), some (.int (1 + (k : Nat))), t, b] S = some (.ok (.tup ws) S) := var_at rfl
  have v1 : runE G O (.var 1) [some (.tup ws), some (.int (1 + (k : Nat))), t, b] S = some (.ok (.int (1 + (k : Nat))) S) := var_at rfl
  have v1' : runE G O (.var 1) [some (.tup ws), some (.int (1 + (k : Nat))), t, b] S = some (.ok (.int ((k + 1 : Nat) : Int)) S) := by
    rw [v1]
    congr 3
    omega
  have vs : runE G O (.bin .sub (.var 1) (.cst (.int 1))) [some (.tup ws), some (.int (1 + (k : Nat))), t, b] S = some (.ok (.int ((k : Nat) : Int)) S) := by
    conv => lhs; unfold runE
    rw [v1]
    simp only [Rs.bind_ok, cst_at]
    show some (R.ok (W.int (1 + (k : Int) - 1)) S) = _
    congr 3
    omega
  obtain ⟨n1, a1, b1, e1, _⟩ := side_form (hg _ (List.getElem_mem hk))
  obtain ⟨n0, a0, b0, e0, _⟩ := side_form (hg _ (List.getElem_mem (show k < ws.length by omega)))
  have g1 : ws[k + 1]? = some (.tup [.int n1, .tup [.int (a1 : Nat), .int (b1 : Nat)]]) := by rw [← e1]; simp [hk]
  have g0 : ws[k]? = some (.tup [.int n0, .tup [.int (a0 : Nat), .int (b0 : Nat)]]) := by rw [← e0]; simp [show k < ws.length by omega]
  have x1 : runE G O (.idx (.idx (.var 0) (.var 1)) (.cst (.int 0))) [some (.tup ws), some (.int (1 + (k : Nat))), t, b] S = some (.ok (.int n1) S) := idx_at (k := 0) (idxv_at v0 v1' g1) rfl
  have x0 : runE G O (.idx (.idx (.var 0) (.bin .sub (.var 1) (.cst (.int 1)))) (.cst (.int 0))) [some (.tup ws), some (.int (1 + (k : Nat))), t, b] S = some (.ok (.int n0) S) := idx_at (k := 0) (idxv_at v0 vs g0) rfl
  have ct := cmpT_at x1 x0 cmpi_le
  have eo : ordB ws k = decide (n1 ≤ n0) := by
    unfold ordB
    rw [g1, g0]
    rfl
  rw [eo]
  cases hd : decide (n1 ≤ n0) with
  | true =>
    rw [hd] at ct
    rw [if_ret ct (tup2_at cst_at v1), if_pos rfl]
  | false =>
    rw [hd] at ct
    rw [if_go ct, run_nil, if_neg (by decide)]
theorem ord_loop {O : Orc} {S : Sto} {ws : List W} (hg : ∀ w ∈ ws, sideW w = true) {stays : Sto → Prop} (hst : stays S) {t b : Option W} : ∀ (l : List Nat) (a : Option W), (∀ k ∈ l, k + 1 < ws.length) →
    (∀ m, l.find? (ordB ws) = some m → forL (putT (.name 1)) (fun ρ' S' => runSs G O OB ρ' S') stays (l.map fun (k : Nat) => .int (1 + (k : Int))) [some (.tup ws), a, t, b] S = some (.ret (.tup [.str "order", .int (1 + (m : Nat))]) S)) ∧
    (l.find? (ordB ws) = none → ∃ a', forL (putT (.name 1)) (fun ρ' S' => runSs G O OB ρ' S') stays (l.map fun (k : Nat) => .int (1 + (k : Int))) [some (.tup ws), a, t, b] S = some (.next [some (.tup ws), a', t, b] S))
  | [], a, _ => by
    refine ⟨fun m h => (by cases h), fun _ => ⟨a, ?_⟩⟩
    simp [forL, hst]
  | k :: l, a, hl => by
    have put : putT (.name 1) (.int (1 + (k : Int))) [some (.tup ws), a, t, b] = some [some (.tup ws), some (.int (1 + (k : Int))), t, b] := by simp [putT]
    have h0 := ord_at (O := O) (S := S) hg (hl k (List.mem_cons_self ..)) (t := t) (b := b)
    have rest := ord_loop (O := O) hg hst (t := t) (b := b) l (some (.int (1 + (k : Int)))) fun j hj => hl j (List.mem_cons_of_mem _ hj)
    rw [List.map_cons]
    unfold forL
    rw [if_pos hst, List.find?_cons]
    simp only [put]
    cases hq : ordB ws k with
    | true =>
      rw [hq, if_pos rfl] at h0
      simp only [h0, turnS_ret]
      exact ⟨fun m h => (by cases h; rfl), fun h => (by cases h)⟩
    | false =>
      rw [hq, if_neg (by decide)] at h0
      simp only [h0, turnS_next]
      exact rest
/-! ### the sum -/
def X : Nat := 2 ^ 1402
def stepN (t : Nat × Nat) : W → Nat × Nat
  | .tup [_, .tup [.int a, .int b]] => frN (t.1 * b.toNat + a.toNat * t.2) (t.2 * b.toNat)
  | _ => t
structure Inv (k : Nat) (t : Nat × Nat) : Prop where
  p : t.1 < X ^ k
  q1 : 1 ≤ t.2
  q : t.2 ≤ X ^ k
  g : Nat.gcd t.1 t.2 = 1
/-- small numbers -/
def Sm (w : W) : Prop := ∀ n a b, w = .tup [n, .tup [.int a, .int b]] → a.natAbs < 2 ^ 1400 ∧ b.natAbs < 2 ^ 1400
theorem step_inv {k : Nat} {t : Nat × Nat} {a b : Nat} (h : Inv k t) (ha : a < 2 ^ 1400) (hb : b < 2 ^ 1400) (hb1 : 1 ≤ b) : Inv (k + 1) (frN (t.1 * b + a * t.2) (t.2 * b)) := by
  obtain ⟨p, q⟩ := t
  obtain ⟨h1, h2, h3, h4⟩ := h
  simp only at h1 h2 h3 h4 ⊢
  have m1 : 1 ≤ q * b := Nat.mul_pos (by omega) (by omega)
  have gp : 0 < Nat.gcd (p * b + a * q) (q * b) := gcd_pos m1
  have hX : X = 4 * 2 ^ 1400 := by unfold X; rw [show 1402 = 2 + 1400 from rfl, Nat.pow_add]
  have B : q * b < X ^ (k + 1) := by
    rw [Nat.pow_succ]
    have : q * b ≤ X ^ k * b := Nat.mul_le_mul_right _ h3
    have hk : 0 < X ^ k := Nat.lt_of_lt_of_le (by omega) h3
    have : X ^ k * b < X ^ k * X := Nat.mul_lt_mul_of_pos_left (by omega) hk
    omega
  have A : p * b + a * q < X ^ (k + 1) := by
    rw [Nat.pow_succ]
    have hk : 0 < X ^ k := Nat.lt_of_lt_of_le (by omega) h3
    have e1 : p * b ≤ X ^ k * b := Nat.mul_le_mul_right _ (by omega)
    have e2 : a * q ≤ a * X ^ k := Nat.mul_le_mul_left _ h3
    have e3 : X ^ k * b + a * X ^ k = X ^ k * (a + b) := by rw [Nat.mul_add, Nat.mul_comm a, Nat.add_comm]
    have e4 : X ^ k * (a + b) < X ^ k * X := Nat.mul_lt_mul_of_pos_left (by omega) hk
    omega
  unfold frN
  refine ⟨Nat.lt_of_le_of_lt (Nat.div_le_self _ _) A, ?_, Nat.le_trans (Nat.div_le_self _ _) (Nat.le_of_lt B), ?_⟩
  · exact Nat.div_pos (Nat.gcd_le_right _ (by omega)) gp
  · exact Nat.coprime_div_gcd_div_gcd gp
theorem XK {k : Nat} (h : k ≤ 5) : X ^ k ≤ 2 ^ 7010 := by
  unfold X
  rw [← Nat.pow_mul]
  exact Nat.pow_le_pow_right (by decide) (by omega)
theorem XK6 {k : Nat} (h : k ≤ 6) : X ^ k < 2 ^ 20000 := by
  unfold X
  rw [← Nat.pow_mul]
  exact Nat.pow_lt_pow_right (by decide) (by omega)
abbrev tupN (t : Nat × Nat) : W := .tup [.int (t.1 : Nat), .int (t.2 : Nat)]
abbrev PB (i : Nat) : CSs := .cons (.asg (.name 2) (.call i (.cons (.var 2) (.cons (.idx (.var 3) (.cst (.int 1))) .nil)) .nil [])) .nil
theorem sum_loop {O : Orc} {i : Nat} {S : Sto} {V : W} {stays : Sto → Prop} (hst : stays S) (hp : ∀ {p q a b : Nat}, 1 ≤ q * b → q * b < 2 ^ 9000 → p < 2 ^ 20000 → q < 2 ^ 20000 → a < 2 ^ 20000 → b < 2 ^ 20000 → O i [tupN (p, q), tupN (a, b)] S = some (.ok (tupN (frN (p * b + a * q) (q * b))) S)) :
    ∀ (ws : List W) (k : Nat) (t : Nat × Nat) (a b : Option W), (∀ w ∈ ws, sideW w = true ∧ Sm w) → Inv k t → k + ws.length ≤ 6 →
    ∃ b', forL (putT (.name 3)) (fun ρ' S' => runSs G O (PB i) ρ' S') stays ws [some V, a, some (tupN t), b] S = some (.next [some V, a, some (tupN (ws.foldl stepN t)), b'] S) ∧ Inv (k + ws.length) (ws.foldl stepN t)
  | [], k, t, a, b, _, h, _ => ⟨b, by simp [forL, hst], h⟩
  | w :: ws, k, t, a, b, hw, h, hl => by
    obtain ⟨h1, h2⟩ := hw w (List.mem_cons_self ..)
    obtain ⟨n, x, y, rfl, hx, hy⟩ := side_form h1
    obtain ⟨b1, b2⟩ := h2 _ _ _ rfl
    rw [Int.natAbs_natCast] at b1 b2
    rw [List.length_cons] at hl
    have e : stepN t (.tup [.int n, .tup [.int (x : Nat), .int (y : Nat)]]) = frN (t.1 * y + x * t.2) (t.2 * y) := by
      show frN (t.1 * ((y : Nat) : Int).toNat + ((x : Nat) : Int).toNat * t.2) (t.2 * ((y : Nat) : Int).toNat) = _
      simp
    have hi := step_inv h b1 b2 hy
    rw [← e] at hi
    obtain ⟨b', r1, r2⟩ := sum_loop (O := O) (V := V) hst hp ws (k + 1) _ a (some (.tup [.int n, .tup [.int (x : Nat), .int (y : Nat)]])) (fun w h => hw w (List.mem_cons_of_mem _ h)) hi (by omega)
    refine ⟨b', ?_, by rw [List.length_cons, List.foldl_cons, show k + (ws.length + 1) = k + 1 + ws.length by omega]; exact r2⟩
    have put : putT (.name 3) (.tup [.int n, .tup [.int (x : Nat), .int (y : Nat)]]) [some V, a, some (tupN t), b] = some [some V, a, some (tupN t), some (.tup [.int n, .tup [.int (x : Nat), .int (y : Nat)]])] := by simp [putT]
    have v2 : runE G O (.var 2) [some V, a, some (tupN t), some (.tup [.int n, .tup [.int (x : Nat), .int (y : Nat)]])] S = some (.ok (tupN t) S) := var_at rfl
    have v3 : runE G O (.var 3) [some V, a, some (tupN t), some (.tup [.int n, .tup [.int (x : Nat), .int (y : Nat)]])] S = some (.ok (.tup [.int n, .tup [.int (x : Nat), .int (y : Nat)]]) S) := var_at rfl
    have x31 : runE G O (.idx (.var 3) (.cst (.int 1))) [some V, a, some (tupN t), some (.tup [.int n, .tup [.int (x : Nat), .int (y : Nat)]])] S = some (.ok (tupN (x, y)) S) := idx_at (k := 1) v3 rfl
    have k5 : X ^ k ≤ 2 ^ 7010 := XK (by omega)
    have p0 : (2 : Nat) ^ 1400 ≤ 2 ^ 7010 := Nat.pow_le_pow_right (by decide) (by decide)
    have p1 : (2 : Nat) ^ 7010 < 2 ^ 20000 := Nat.pow_lt_pow_right (by decide) (by decide)
    have big : t.2 * y < 2 ^ 9000 := by
      have q1 : t.2 * y ≤ 2 ^ 7010 * y := Nat.mul_le_mul_right _ (Nat.le_trans h.q k5)
      have q2 : 2 ^ 7010 * y < 2 ^ 7010 * 2 ^ 1400 := Nat.mul_lt_mul_of_pos_left b2 (Nat.two_pow_pos _)
      have q3 : (2 : Nat) ^ 7010 * 2 ^ 1400 ≤ 2 ^ 9000 := by
        rw [← Nat.pow_add]
        exact Nat.pow_le_pow_right (by decide) (by decide)
      exact Nat.lt_of_le_of_lt q1 (Nat.lt_of_lt_of_le q2 q3)
    have c := call2_at v2 x31 (hp (p := t.1) (q := t.2) (a := x) (b := y) (Nat.mul_pos h.q1 hy) big (Nat.lt_trans (Nat.lt_of_lt_of_le h.p k5) p1) (Nat.lt_of_le_of_lt (Nat.le_trans h.q k5) p1) (Nat.lt_trans b1 (Nat.lt_of_le_of_lt p0 p1)) (Nat.lt_trans b2 (Nat.lt_of_le_of_lt p0 p1)))
    rw [← e] at c
    unfold forL
    rw [if_pos hst]
    simp only [put]
    rw [seq_next (asg_at (t := .name 2) (ρ1 := [some V, a, some (tupN (stepN t (.tup [.int n, .tup [.int (x : Nat), .int (y : Nat)]]))), some (.tup [.int n, .tup [.int (x : Nat), .int (y : Nat)]])]) c (by simp [putT])), run_nil]
    rw [turnS_next, List.foldl_cons]
    exact r1
def dueS (ws : List W) : W := match firstN sideW ws 0 with
  | some k => .tup [.str "side", .int (k : Nat)]
  | none => match (List.range (ws.length - 1)).find? (ordB ws) with
    | some k => .tup [.str "order", .int (1 + (k : Nat))]
    | none => if (ws.foldl stepN (0, 1)).1 = (ws.foldl stepN (0, 1)).2 then .non else .str "sum"
abbrev SE (LB : CSs) (i : Nat) (fin : CE) : CSs := .cons (.for_ (.tup [(.name 1), (.name 3)]) (.enm (.var 0)) LB) (.cons (.for_ (.name 1) (.rng2 (.cst (.int 1)) (.blt .len (.cons (.var 0) .nil))) OB) (.cons (.asg (.name 2) (.tup (.cons (.cst (.int 0)) (.cons (.cst (.int 1)) .nil)))) (.cons (.for_ (.name 3) (.seq (.var 0)) (PB i)) (.cons (.ret (.ife fin (.cst .non) (.cst (.str "sum")))) .nil))))
theorem inv0 : Inv 0 (0, 1) := by
  refine ⟨?_, Nat.le_refl 1, ?_, rfl⟩
  · rw [Nat.pow_zero]
    exact Nat.zero_lt_one
  · rw [Nat.pow_zero]
    exact Nat.le_refl 1
end K03
namespace K03
open PySem L2 Co Lo
theorem rng2_at {G : List W} {O : Orc} {a b : CE} {ρ : En} {S : Sto} {i j : Int} (ha : runE G O a ρ S = some (.ok (.int i) S)) (hb : runE G O b ρ S = some (.ok (.int j) S)) (h1 : -(2 ^ 62) ≤ i ∧ i < 2 ^ 62) (h2 : -(2 ^ 62) ≤ j ∧ j < 2 ^ 62) : runI G O (.rng2 a b) ρ S = some (.ok ⟨rangeW i j, []⟩ S) := by
  unfold runI
  rw [ha]
  simp only [Rs.bind_ok, hb]
  rw [if_pos ⟨h1, h2⟩]
  rfl
theorem small62 {j : Int} (h1 : 0 ≤ j) (h2 : j ≤ 1000) : -(2 ^ 62) ≤ j ∧ j < 2 ^ 62 := by omega
theorem sides_run {d f i : Nat} {LB : CSs} {fin : CE} (hf : Fs[f]? = some ⟨1, 4, SE LB i fin⟩)
    (hL : ∀ {S : Sto} {V w : W} {k : Nat} {t : Option W}, Tyb3 S w → runSs G (callAt G Fs (d + 3)) LB [some V, some (.int (k : Nat)), t, some w] S = if sideW w = true then some (.next [some V, some (.int (k : Nat)), t, some w] S) else some (.ret (.tup [.str "side", .int (k : Nat)]) S))
    (hp : ∀ {S : Sto} {p q a b : Nat}, 1 ≤ q * b → q * b < 2 ^ 9000 → p < 2 ^ 20000 → q < 2 ^ 20000 → a < 2 ^ 20000 → b < 2 ^ 20000 → callAt G Fs (d + 3) i [tupN (p, q), tupN (a, b)] S = some (.ok (tupN (frN (p * b + a * q) (q * b))) S))
    (hfin : ∀ {S : Sto} {V : W} {a b : Option W} {t : Nat × Nat}, t.1 < 2 ^ 20000 → t.2 < 2 ^ 20000 → Nat.gcd t.1 t.2 = 1 → runT G (callAt G Fs (d + 3)) fin [some V, a, some (tupN t), b] S = some (.ok (decide (t.1 = t.2)) S))
    {S : Sto} {ws : List W} (h1 : ∀ w ∈ ws, Tyb3 S w ∧ Sm w) (h2 : ws.length ≤ 6) : callAt G Fs (d + 4) f [.tup ws] S = some (.ok (dueS ws) S) := by
  rw [call_eq hf rfl]
  simp only
  have st : startE 4 [.tup ws] = [some (.tup ws), none, none, none] := rfl
  rw [st]
  have hst : ∀ l : List W, ∀ S, Itr.stays ⟨l, []⟩ S := fun l S n ws q => by cases q
  have en : runS G (callAt G Fs (d + 3)) (.for_ (.tup [.name 1, .name 3]) (.enm (.var 0)) LB) [some (.tup ws), none, none, none] S = forL (putT (.tup [.name 1, .name 3])) (fun ρ' S' => runSs G (callAt G Fs (d + 3)) LB ρ' S') (Itr.stays ⟨pairsW ws, []⟩) (ws.mapIdx fun j w => .tup [.int ((0 + j : Nat) : Int), w]) [some (.tup ws), none, none, none] S := by
    have e : pairsW ws = ws.mapIdx fun j w => .tup [.int ((0 + j : Nat) : Int), w] := by
      unfold pairsW
      simp
    simp only [runS, runI, runE, List.getElem?_cons_zero, okW_eq, Rs.bind_ok, thenS_ok, e]
  have l1 := hit4 (O := callAt G Fs (d + 3)) (body := LB) (V := .tup ws) (S := S) (hst (pairsW ws) S) (good := sideW) (res := fun k => .tup [.str "side", .int (k : Nat)]) ws 0 none none none fun w hw k => hL (h1 w hw).1
  unfold dueS
  cases q1 : firstN sideW ws 0 with
  | some m =>
    rw [seq_ret (en.trans (l1.1 m q1))]
    rfl
  | none =>
    obtain ⟨a1, b1, e1⟩ := l1.2 q1
    have hg := firstN_none q1
    have o1 : ∀ a b, runS G (callAt G Fs (d + 3)) (.for_ (.name 1) (.rng2 (.cst (.int 1)) (.blt .len (.cons (.var 0) .nil))) OB) [some (.tup ws), a, none, b] S = forL (putT (.name 1)) (fun ρ' S' => runSs G (callAt G Fs (d + 3)) OB ρ' S') (Itr.stays ⟨rangeW 1 (ws.length : Nat), []⟩) ((List.range (ws.length - 1)).map fun (k : Nat) => .int (1 + (k : Int))) [some (.tup ws), a, none, b] S := fun a b => by
      have er : rangeW 1 (ws.length : Nat) = (List.range (ws.length - 1)).map fun (k : Nat) => W.int (1 + (k : Int)) := by
        unfold rangeW
        rw [show (((ws.length : Nat) : Int) - 1).toNat = ws.length - 1 by omega]
      have ln := lenT_at (G := G) (O := callAt G Fs (d + 3)) (e := .var 0) (ρ := [some (.tup ws), a, none, b]) (S := S) (ws := ws) (var_at rfl)
      have ri : runI G (callAt G Fs (d + 3)) (.rng2 (.cst (.int 1)) (.blt .len (.cons (.var 0) .nil))) [some (.tup ws), a, none, b] S = some (.ok ⟨rangeW 1 (ws.length : Nat), []⟩ S) := by
        refine rng2_at cst_at ln ?_ ?_
        · exact ⟨by decide, by decide⟩
        · exact small62 (by omega) (by omega)
      unfold runS
      rw [ri, thenS_ok]
      simp only [er]
    have l2 := ord_loop (O := callAt G Fs (d + 3)) hg (hst (rangeW 1 (ws.length : Nat)) S) (t := none) (b := b1) (List.range (ws.length - 1)) a1 (fun k hk => by have := List.mem_range.mp hk; omega)
    simp only
    cases q2 : (List.range (ws.length - 1)).find? (ordB ws) with
    | some m =>
      rw [seq_next (en.trans e1), seq_ret ((o1 a1 b1).trans (l2.1 m q2))]
      rfl
    | none =>
      obtain ⟨a2, e2⟩ := l2.2 q2
      have s3 := asg_at (G := G) (O := callAt G Fs (d + 3)) (t := .name 2) (ρ := [some (.tup ws), a2, none, b1]) (ρ1 := [some (.tup ws), a2, some (tupN (0, 1)), b1]) (S := S) (tup2_at cst_at cst_at) (show putT (.name 2) (.tup [.int 0, .int 1]) [some (.tup ws), a2, none, b1] = _ by simp [putT])
      obtain ⟨b4, e4, inv⟩ := sum_loop (O := callAt G Fs (d + 3)) (V := .tup ws) (hst ws S) hp ws 0 (0, 1) a2 b1 (fun w hw => ⟨hg w hw, (h1 w hw).2⟩) inv0 (by omega)
      have o4 : runS G (callAt G Fs (d + 3)) (.for_ (.name 3) (.seq (.var 0)) (PB i)) [some (.tup ws), a2, some (tupN (0, 1)), b1] S = forL (putT (.name 3)) (fun ρ' S' => runSs G (callAt G Fs (d + 3)) (PB i) ρ' S') (Itr.stays ⟨ws, []⟩) ws [some (.tup ws), a2, some (tupN (0, 1)), b1] S := by
        simp only [runS, runI, runE, List.getElem?_cons_zero, okW_eq, Rs.bind_ok, thenS_ok]
      have k6 := XK6 (k := 0 + ws.length) (by omega)
      have ft := hfin (S := S) (V := .tup ws) (a := a2) (b := b4) (Nat.lt_trans inv.p k6) (Nat.lt_of_le_of_lt inv.q k6) inv.g
      rw [seq_next (en.trans e1), seq_next ((o1 a1 b1).trans e2), seq_next s3, seq_next (o4.trans e4)]
      have fe : runE G (callAt G Fs (d + 3)) (.ife fin (.cst .non) (.cst (.str "sum"))) [some (.tup ws), a2, some (tupN (ws.foldl stepN (0, 1))), b4] S = some (.ok (if (ws.foldl stepN (0, 1)).1 = (ws.foldl stepN (0, 1)).2 then .non else .str "sum") S) := by
        conv => lhs; unfold runE
        rw [ft]
        by_cases h : (ws.foldl stepN (0, 1)).1 = (ws.foldl stepN (0, 1)).2
        · rw [decide_eq_true h, if_pos h]
          simp [runE]
        · rw [decide_eq_false h, if_neg h]
          simp [runE]
      rw [ret_at fe]
      rfl
end K03
namespace K03
open PySem L2 Co Lo
abbrev fin8 : CE := .cmp .eq (.call 4 (.cons (.var 2) (.cons (.tup (.cons (.cst (.int 1)) (.cons (.cst (.int 1)) .nil))) .nil)) .nil []) (.cst (.int 0))
abbrev fin22 : CE := .cmp .eq (.var 2) (.tup (.cons (.cst (.int 1)) (.cons (.cst (.int 1)) .nil)))
theorem sides8 {d : Nat} {S : Sto} {ws : List W} (h1 : ∀ w ∈ ws, Tyb3 S w ∧ Sm w) (h2 : ws.length ≤ 6) : callAt G Fs (d + 4) 8 [.tup ws] S = some (.ok (dueS ws) S) :=
  sides_run (d := d) (f := 8) (i := 5) (LB := L1) (fin := fin8) rfl (fun h => l1_at h) (fun a b c d e f => plus5 a b c d e f) (fun {S V a b t} h1 h2 hg => by
    obtain ⟨r, e1, e2⟩ := comp4 (d := d + 2) (S := S) h1 h2
    have v2 : runE G (callAt G Fs (d + 3)) (.var 2) [some V, a, some (tupN t), b] S = some (.ok (tupN t) S) := var_at rfl
    have c := call2_at v2 (tup2_at (S1 := S) (S2 := S) (x := .int 1) (y := .int 1) (a := .cst (.int 1)) (b := .cst (.int 1)) cst_at cst_at) e1
    have := cmpT_at (c := .eq) (r := decide (r = 0)) c (cst_at (w := .int 0)) rfl
    rw [e2] at this
    exact this) h1 h2
theorem sides22 {d : Nat} {S : Sto} {ws : List W} (h1 : ∀ w ∈ ws, Tyb3 S w ∧ Sm w) (h2 : ws.length ≤ 6) : callAt G Fs (d + 4) 22 [.tup ws] S = some (.ok (dueS ws) S) :=
  sides_run (d := d) (f := 22) (i := 16) (LB := M1) (fin := fin22) rfl (fun h => m1_at h) (fun a b c d e f => plus16 a b c d e f) (fun {S V a b t} h1 h2 hg => by
    have v2 : runE G (callAt G Fs (d + 3)) (.var 2) [some V, a, some (tupN t), b] S = some (.ok (tupN t) S) := var_at rfl
    have c := cmpT_at (c := .eq) v2 (tup2_at (S1 := S) (S2 := S) (x := .int 1) (y := .int 1) (a := .cst (.int 1)) (b := .cst (.int 1)) cst_at cst_at) (eq11 (S := S) (p := t.1) (q := t.2))
    rw [c]
    congr 2
    rw [Bool.eq_iff_iff, Bool.and_eq_true, decide_eq_true_eq, decide_eq_true_eq, decide_eq_true_eq]
    constructor
    · rintro ⟨a, b⟩
      rw [a, b]
    · intro e
      rw [e, Nat.gcd_self] at hg
      exact ⟨e.trans hg, hg⟩) h1 h2
/-! ### dice -/
def dueT : W → W
  | .tup ws => if 1 ≤ ws.length ∧ ws.length ≤ 6 then dueS ws else .str "form"
  | _ => .str "form"
theorem dueT_tup (ws : List W) : dueT (.tup ws) = if 1 ≤ ws.length ∧ ws.length ≤ 6 then dueS ws else .str "form" := rfl
def dueD : W → W
  | .tup [.str x, y] => if x = "till" then (if shareW true y = true then .non else .str "share") else if x = "die" then dueT y else .str "form"
  | _ => .str "form"
structure D4 (S : Sto) (V : W) : Prop where
  t : Tyb S V
  p : ∀ x y, V = .tup [x, y] → Tyb S x ∧ Tyb2 S y ∧ ∀ ws, y = .tup ws → ∀ w ∈ ws, Tyb3 S w ∧ Sm w
abbrev DE (eB eL : CE) (i : Nat) : CSs := .cons (.ife (.bool false (.cons (.not_ (.isi .tuple (.var 0))) (.cons (.cmp .ne (.blt .len (.cons (.var 0) .nil)) (.cst (.int 2))) (.cons (.not_ (.isi .str (.idx (.var 0) (.cst (.int 0))))) .nil)))) (.cons (.ret (.cst (.str "form"))) .nil) .nil)
  (.cons (.ife (.cmp .eq (.idx (.var 0) (.cst (.int 0))) (.cst (.str "till"))) (.cons (.ret (.ife eB (.cst .non) (.cst (.str "share")))) .nil) .nil)
  (.cons (.ife (.bool false (.cons (.cmp .ne (.idx (.var 0) (.cst (.int 0))) (.cst (.str "die"))) (.cons (.not_ (.isi .tuple (.idx (.var 0) (.cst (.int 1))))) (.cons (.not_ (.chain .le .le (.cst (.int 1)) (.blt .len (.cons (.idx (.var 0) (.cst (.int 1))) .nil)) eL)) .nil)))) (.cons (.ret (.cst (.str "form"))) .nil) .nil)
  (.cons (.ret (.call i (.cons (.idx (.var 0) (.cst (.int 1))) .nil) .nil [])) .nil)))
theorem callT_at {O : Orc} {f : Nat} {es ks : CEs} {pm : List Nat} {ρ : En} {S S' : Sto} {b : Bool} (h : runE G O (.call f es ks pm) ρ S = some (.ok (.bl b) S')) : runT G O (.call f es ks pm) ρ S = some (.ok b S') := by
  have e1 : runT G O (.call f es ks pm) ρ S = (runE G O (.call f es ks pm) ρ S).bind fun w S1 => liftW (truW S1 w) S1 := rfl
  rw [h] at e1
  rw [e1]
  rfl
theorem die_run {d f i : Nat} {eB eL : CE} (hf : Fs[f]? = some ⟨1, 1, DE eB eL i⟩)
    (hB : ∀ {S : Sto} {x y : W}, Tyb2 S y → runT G (callAt G Fs (d + 4)) eB [some (.tup [x, y])] S = some (.ok (shareW true y) S))
    (hE : ∀ {S : Sto} {ρ : En}, runE G (callAt G Fs (d + 4)) eL ρ S = some (.ok (.int 6) S))
    (hS : ∀ {S : Sto} {ws : List W}, (∀ w ∈ ws, Tyb3 S w ∧ Sm w) → ws.length ≤ 6 → callAt G Fs (d + 4) i [.tup ws] S = some (.ok (dueS ws) S)) {S : Sto} {V : W} (hV : D4 S V) : callAt G Fs (d + 5) f [V] S = some (.ok (dueD V) S) := by
  rw [call_eq hf rfl]
  simp only
  have st : startE 1 [V] = [some V] := rfl
  rw [st]
  have v0 : runE G (callAt G Fs (d + 4)) (.var 0) [some V] S = some (.ok V S) := var_at rfl
  by_cases hw : ∃ x y, V = .tup [x, y]
  · obtain ⟨x, y, rfl⟩ := hw
    obtain ⟨tx, ty, hws⟩ := hV.p x y rfl
    have x0 : runE G (callAt G Fs (d + 4)) (.idx (.var 0) (.cst (.int 0))) [some (.tup [x, y])] S = some (.ok x S) := idx_at (k := 0) v0 rfl
    have x1 : runE G (callAt G Fs (d + 4)) (.idx (.var 0) (.cst (.int 1))) [some (.tup [x, y])] S = some (.ok y S) := idx_at (k := 1) v0 rfl
    by_cases hx : ∃ z, x = .str z
    · obtain ⟨z, rfl⟩ := hx
      have t1 := bool_or3 (isiT_at (t := .tuple) (b := true) v0 rfl) (fun _ => len2_at v0) (fun _ _ => isiT_at (t := .str) (b := true) x0 rfl)
      rw [if_go t1]
      have c2 := cmpT_at (c := .eq) (r := decide (z = "till")) x0 (cst_at (w := .str "till")) rfl
      have e0 : dueD (.tup [.str z, y]) = if z = "till" then (if shareW true y = true then .non else .str "share") else if z = "die" then dueT y else .str "form" := rfl
      rw [e0]
      by_cases hz : z = "till"
      · rw [decide_eq_true hz] at c2
        have fe : runE G (callAt G Fs (d + 4)) (.ife eB (.cst .non) (.cst (.str "share"))) [some (.tup [.str z, y])] S = some (.ok (if shareW true y = true then .non else .str "share") S) := by
          conv => lhs; unfold runE
          rw [hB ty]
          cases shareW true y <;> simp [runE]
        rw [if_ret c2 fe, if_pos hz]
        rfl
      · rw [decide_eq_false hz] at c2
        rw [if_go c2, if_neg hz]
        have c3 := cmpT_at (c := .ne) (r := !decide (z = "die")) x0 (cst_at (w := .str "die")) rfl
        by_cases hd : z = "die"
        · rw [if_pos hd]
          rw [decide_eq_true hd] at c3
          by_cases hy : ∃ ws, y = .tup ws
          · obtain ⟨ws, rfl⟩ := hy
            have c4 := isiT_at (t := .tuple) (b := true) x1 rfl
            have c5 := notch_at (a := .cst (.int 1)) cst_at (lenT_at x1) hE (cmpi_le (i := 1)) cmpi_le
            have t3 := bool_or3 c3 (fun _ => c4) (fun _ _ => c5)
            have ed : (decide ((1 : Int) ≤ (ws.length : Nat)) && decide (((ws.length : Nat) : Int) ≤ 6)) = decide (1 ≤ ws.length ∧ ws.length ≤ 6) := by
              rw [Bool.eq_iff_iff, Bool.and_eq_true, decide_eq_true_eq, decide_eq_true_eq, decide_eq_true_eq]
              omega
            rw [ed] at t3
            rw [dueT_tup]
            by_cases hl : 1 ≤ ws.length ∧ ws.length ≤ 6
            · rw [decide_eq_true hl] at t3
              rw [if_go t3, ret_at (call1_at x1 (hS (hws ws rfl) hl.2)), if_pos hl]
              rfl
            · rw [decide_eq_false hl] at t3
              rw [if_ret t3 cst_at, if_neg hl]
              rfl
          · have hn : ∀ ws, y ≠ .tup ws := fun ws e => hy ⟨ws, e⟩
            have c4 := isiT_at x1 (isi_tup ty.1 hn)
            have t3 := bool_or3 (y := true) (z := true) (c := .not_ (.chain .le .le (.cst (.int 1)) (.blt .len (.cons (.idx (.var 0) (.cst (.int 1))) .nil)) eL)) c3 (fun _ => c4) (fun _ q => by cases q)
            rw [if_ret t3 cst_at]
            cases y <;> first | rfl | exact absurd rfl (hn _)
        · rw [decide_eq_false hd] at c3
          have t3 := bool_or3 (y := true) (z := true) (b := .not_ (.isi .tuple (.idx (.var 0) (.cst (.int 1))))) (c := .not_ (.chain .le .le (.cst (.int 1)) (.blt .len (.cons (.idx (.var 0) (.cst (.int 1))) .nil)) eL)) c3 (fun q => by cases q) (fun q => by cases q)
          rw [if_ret t3 cst_at, if_neg hd]
          rfl
    · have hn : ∀ z, x ≠ .str z := fun z e => hx ⟨z, e⟩
      have t1 := bool_or3 (isiT_at (t := .tuple) (b := true) v0 rfl) (fun _ => len2_at v0) (fun _ _ => isiT_at x0 (isi_str tx hn))
      have e0 : dueD (.tup [x, y]) = .str "form" := by
        cases x <;> first | rfl | exact absurd rfl (hn _)
      rw [if_ret t1 cst_at, e0]
      rfl
  · have e0 : dueD V = .str "form" := by
      unfold dueD
      split
      · exact absurd ⟨_, _, rfl⟩ hw
      · rfl
    rw [e0]
    rcases two_of (S := S) hw with ⟨ws, rfl, hl⟩ | hn
    · have t1 := bool_or3 (y := !decide (ws.length = 2)) (z := true) (c := .not_ (.isi .str (.idx (.var 0) (.cst (.int 0))))) (isiT_at (t := .tuple) (b := true) v0 rfl) (fun _ => len2_at v0) (fun _ q => by rw [decide_eq_false hl] at q; cases q)
      rw [decide_eq_false hl] at t1
      rw [if_ret t1 cst_at]
      rfl
    · have t1 := bool_or3 (y := true) (z := true) (b := .cmp .ne (.blt .len (.cons (.var 0) .nil)) (.cst (.int 2))) (c := .not_ (.isi .str (.idx (.var 0) (.cst (.int 0))))) (isiT_at v0 (isi_tup hV.t hn)) (fun q => by cases q) (fun q => by cases q)
      rw [if_ret t1 cst_at]
      rfl
theorem die9 {d : Nat} {S : Sto} {V : W} (hV : D4 S V) : callAt G Fs (d + 5) 9 [V] S = some (.ok (dueD V) S) :=
  die_run (d := d) (f := 9) (i := 8) (eB := .call 6 (.cons (.idx (.var 0) (.cst (.int 1))) .nil) .nil []) (eL := .glo 1) rfl (fun {S x y} h => by
    have v0 : runE G (callAt G Fs (d + 4)) (.var 0) [some (.tup [x, y])] S = some (.ok (.tup [x, y]) S) := var_at rfl
    have x1 : runE G (callAt G Fs (d + 4)) (.idx (.var 0) (.cst (.int 1))) [some (.tup [x, y])] S = some (.ok y S) := idx_at (k := 1) v0 rfl
    exact callT_at (call1_at x1 (between6 (d := d + 1) h))) (fun {S ρ} => by unfold runE; rfl) (fun h1 h2 => sides8 h1 h2) hV
theorem die23 {d : Nat} {S : Sto} {V : W} (hV : D4 S V) : callAt G Fs (d + 5) 23 [V] S = some (.ok (dueD V) S) :=
  die_run (d := d) (f := 23) (i := 22) (eB := .call 21 (.cons (.idx (.var 0) (.cst (.int 1))) (.cons (.cst (.bl true)) .nil)) .nil []) (eL := .cst (.int 6)) rfl (fun {S x y} h => by
    have v0 : runE G (callAt G Fs (d + 4)) (.var 0) [some (.tup [x, y])] S = some (.ok (.tup [x, y]) S) := var_at rfl
    have x1 : runE G (callAt G Fs (d + 4)) (.idx (.var 0) (.cst (.int 1))) [some (.tup [x, y])] S = some (.ok y S) := idx_at (k := 1) v0 rfl
    exact callT_at (call2_at x1 cst_at (share21 (d := d + 2) (k := true) h))) (fun {S ρ} => by unfold runE; rfl) (fun h1 h2 => sides22 h1 h2) hV
end K03
namespace K03
open PySem L2 Co Lo
def PF : CSs := (.cons (.asg (.name 7) (.call 18 (.cons (.var 1) .nil) .nil [])) (.cons (.asg (.name 8) (.bin .add (.lst (.cons (.var 7) (.cons (.call 19 (.cons (.var 1) .nil) .nil []) .nil))) (.comp (.call 25 (.cons (.var 1) (.cons (.var 7) .nil)) .nil []) (.name 17) (.rng1 (.cst (.int 3))) .none [17]))) .nil))
def fracA : Ab → Ab → Option Ab
  | .int (some l) (some h), .int (some l') (some h') => if 1 ≤ l ∧ 1 ≤ l' ∧ h' < 2 ^ 60 then some (.tup [.int (some 1) (some h), .int (some 1) (some h')]) else none
  | _, _ => none
def sums (d f : Nat) (as : List Ab) : Option Ab := match d, f, as with
  | _ + 1, 11, [.res, m] => (allO (liftU drawA m)).map joinAll
  | _ + 2, 13, [.res, .lsts a lo hi] => if (alts a).all Lo.flatA = true ∧ hi ≤ 1000 then some (.lsts a lo hi) else none
  | _ + 2, 15, [a, b] => (allO (liftU2 fracA a b)).map joinAll
  | _, _, _ => none
def e0 : AEnv := [none, some .res, some (.int (some 0) (some 8)), none, none, none, none, none, none, none, none, none, none, none, none, none, none, none, none]
def smI : Ab → Bool
  | .int (some l) (some h) => decide (-(2 ^ 1399) ≤ l) && decide (h ≤ 2 ^ 1399)
  | .int _ _ => false
  | _ => true
def tyA : Nat → Ab → Bool
  | 0, a => (alts a).all fun b => tybA b && smI b
  | n + 1, a => (alts a).all fun b => tybA b && smI b && (match b with
    | .tup as => as.all (tyA n)
    | .tups a _ _ => tyA n a
    | _ => true)
def pfOk (p : Ab → Bool) (o : Option Out) : Bool := match o with
  | some o => (match o.nx with
    | some e => (match (e[1]? : Option (Option Ab)), (e[2]? : Option (Option Ab)), (e[8]? : Option (Option Ab)) with
      | some (some Ab.res), some (some (Ab.int _ _)), some (some (Ab.lsts a _ _)) => p a && small a
      | _, _, _ => false) && e.length == 19
    | none => false) && o.rt.isEmpty && (match o.bk, o.ct with | none, none => true | _, _ => false)
  | none => false
def GA : List Ab := [.int (some 9) (some 9), .int (some 6) (some 6)]
/-- a bent die, for every number of sides alone -/
def one25 (d : Nat) : Ab → Option Ab
  | .tup [.str x, .tups a lo hi] => if lo ≤ hi ∧ hi ≤ 10 then (allO ((List.range (hi - lo + 1)).map fun i => aCall shown_ GA sums Fs d 25 [.res, .tup [.str x, .tups a (lo + i) (lo + i)]])).map joinAll else none
  | b => aCall shown_ GA sums Fs d 25 [.res, b]
def sums2 (d f : Nat) (as : List Ab) : Option Ab := match f, as with
  | 25, [.res, a] => (allO ((alts a).map (one25 d))).map joinAll
  | _, _ => sums d f as
theorem pf_an : pfOk (tyA 4) (aSs shown_ GA (aCall shown_ GA sums2 Fs 39) PF e0) = true := by decide +kernel
/-! ### what the analyser's answers say -/
theorem ga_of : ∀ (i : Nat) (a : Ab), GA[i]? = some a → ∃ w, G[i]? = some w ∧ ∀ R S, gam R S a w := by
  intro i a h
  match i, h with
  | 0, h => cases h; exact ⟨_, rfl, fun R S => by unfold gam; exact ⟨_, rfl, Int.le_refl _, Int.le_refl _⟩⟩
  | 1, h => cases h; exact ⟨_, rfl, fun R S => by unfold gam; exact ⟨_, rfl, Int.le_refl _, Int.le_refl _⟩⟩
  | i + 2, h => cases h
def TyD : Nat → Sto → W → Prop
  | 0, S, w => Tyb S w ∧ (∀ i, w = .int i → i.natAbs < 2 ^ 1400)
  | n + 1, S, w => Tyb S w ∧ (∀ i, w = .int i → i.natAbs < 2 ^ 1400) ∧ ∀ ws, w = .tup ws → ∀ x ∈ ws, TyD n S x
theorem smI_of' {R : Rsc} {S : Sto} {b : Ab} {w : W} (ht : tybA b = true) (h : smI b = true) (g : gam R S b w) : ∀ i, w = .int i → i.natAbs < 2 ^ 1400 := by
  intro i e
  subst e
  have p : (2 : Int) ^ 1399 < ((2 ^ 1400 : Nat) : Int) := by decide +kernel
  cases b with
  | int l u =>
    unfold gam at g
    obtain ⟨k, e, h1, h2⟩ := g
    cases e
    cases l with
    | none => cases h
    | some l =>
      cases u with
      | none => cases h
      | some u =>
        have h' : (decide (-(2 ^ 1399) ≤ l) && decide (u ≤ 2 ^ 1399)) = true := h
        simp only [Bool.and_eq_true, decide_eq_true_eq] at h'
        have h1' : l ≤ i := h1
        have h2' : i ≤ u := h2
        generalize (2 : Int) ^ 1399 = z at *
        generalize (2 : Nat) ^ 1400 = y at *
        omega
  | or _ => cases ht
  | res => cases ht
  | scr _ => cases ht
  | non => unfold gam at g; cases g
  | bl _ _ => unfold gam at g; obtain ⟨_, e, _⟩ := g; cases e
  | str _ => unfold gam at g; cases g
  | stx _ => unfold gam at g; obtain ⟨_, e, _⟩ := g; cases e
  | tup _ => unfold gam at g; obtain ⟨_, e, _⟩ := g; cases e
  | tups _ _ _ => unfold gam at g; obtain ⟨_, e, _⟩ := g; cases e
  | lst _ => unfold gam at g; obtain ⟨_, _, e, _⟩ := g; cases e
  | lsts _ _ _ => unfold gam at g; obtain ⟨_, _, e, _⟩ := g; cases e
  | dic _ _ => unfold gam at g; obtain ⟨_, _, e, _⟩ := g; cases e
theorem tyA_of {R : Rsc} {S : Sto} : ∀ (n : Nat) {a : Ab} {w : W}, tyA n a = true → gam R S a w → TyD n S w
  | 0, a, w, h, g => by
    obtain ⟨b, hb, gb⟩ := alts_of g
    unfold tyA at h
    have q := List.all_eq_true.mp h b hb
    simp only [Bool.and_eq_true] at q
    exact ⟨tybA_of q.1 gb, smI_of' q.1 q.2 gb⟩
  | n + 1, a, w, h, g => by
    obtain ⟨b, hb, gb⟩ := alts_of g
    unfold tyA at h
    have q := List.all_eq_true.mp h b hb
    simp only [Bool.and_eq_true] at q
    refine ⟨tybA_of q.1.1 gb, smI_of' q.1.1 q.1.2 gb, ?_⟩
    intro ws e x hx
    subst e
    have q2 := q.2
    cases b with
    | tup as =>
      unfold gam at gb
      obtain ⟨us, e, gs⟩ := gb
      cases e
      obtain ⟨c, hc, gc⟩ := gams_mem gs hx
      exact tyA_of n (List.all_eq_true.mp q2 c hc) gc
    | tups c _ _ =>
      unfold gam at gb
      obtain ⟨us, e, _, _, gs⟩ := gb
      cases e
      exact tyA_of n q2 (gs x hx)
    | res => cases q.1.1
    | scr _ => cases q.1.1
    | or _ => cases q.1.1
    | non => unfold gam at gb; cases gb
    | bl _ _ => unfold gam at gb; obtain ⟨_, e, _⟩ := gb; cases e
    | int _ _ => unfold gam at gb; obtain ⟨_, e, _⟩ := gb; cases e
    | str _ => unfold gam at gb; cases gb
    | stx _ => unfold gam at gb; obtain ⟨_, e, _⟩ := gb; cases e
    | lst _ => unfold gam at gb; obtain ⟨_, _, e, _⟩ := gb; cases e
    | lsts _ _ _ => unfold gam at gb; obtain ⟨_, _, e, _⟩ := gb; cases e
    | dic _ _ => unfold gam at gb; obtain ⟨_, _, e, _⟩ := gb; cases e
theorem TyD.t : ∀ {n : Nat} {S : Sto} {w : W}, TyD n S w → Tyb S w
  | 0, _, _, h => h.1
  | _ + 1, _, _, h => h.1
theorem TyD.d4 {S : Sto} {V : W} (h : TyD 4 S V) : D4 S V := by
  refine ⟨h.1, fun x y e => ?_⟩
  have hx : TyD 3 S x := h.2.2 _ e x (by simp)
  have hy : TyD 3 S y := h.2.2 _ e y (by simp)
  refine ⟨hx.1, ⟨hy.1, fun a b e2 => ⟨(hy.2.2 _ e2 a (by simp)).t, (hy.2.2 _ e2 b (by simp)).t⟩⟩, fun ws e2 w hw => ?_⟩
  have tw : TyD 2 S w := hy.2.2 _ e2 w hw
  refine ⟨⟨tw.1, fun a b e3 => ?_⟩, fun n a b e3 => ?_⟩
  · have ta : TyD 1 S a := tw.2.2 _ e3 a (by simp)
    have tb : TyD 1 S b := tw.2.2 _ e3 b (by simp)
    exact ⟨ta.1, tb.1, fun p q e4 => ⟨(tb.2.2 _ e4 p (by simp)).t, (tb.2.2 _ e4 q (by simp)).t⟩⟩
  · have tb : TyD 1 S (.tup [.int a, .int b]) := tw.2.2 _ e3 _ (by simp)
    have t1 : TyD 0 S (.int a) := tb.2.2 _ rfl _ (by simp)
    have t2 : TyD 0 S (.int b) := tb.2.2 _ rfl _ (by simp)
    exact ⟨t1.2 a rfl, t2.2 b rfl⟩
theorem two_args {R : Rsc} {S : Sto} {a b : Ab} {ws : List W} (g : gams R S [a, b] ws) : ∃ x y, ws = [x, y] ∧ gam R S a x ∧ gam R S b y := by
  match ws, g with
  | [], g => unfold gams at g; exact g.elim
  | [_], g => unfold gams gams at g; exact g.2.elim
  | _ :: _ :: _ :: _, g => unfold gams gams gams at g; exact g.2.2.elim
  | [x, y], g =>
    unfold gams gams at g
    exact ⟨x, y, rfl, g.1, g.2.1⟩
theorem res_is {j l : Nat} {R : Rsc} {S : Sto} (x : Ext0 (jarR j l) R) {w : W} (g : gam R S .res w) : w = .ref j := by
  unfold gam at g
  exact g.trans x.w
/-- the draws, the mixings, the fractions are told -/
theorem sums_ok {j l : Nat} : ∀ d R, Ext0 (jarR j l) R → ∀ f as a, sums d f as = some a → ∀ ws S, R.inv S → gams R S as ws → OkE R S a (callAt G Fs d f ws S) := by
  intro d R x f as a h ws S i g
  unfold sums at h
  split at h
  · rename_i d m
    obtain ⟨w, v, rfl, g1, g2⟩ := two_args g
    obtain rfl := res_is x g1
    refine lift1_ok (f := drawA) (r := fun S y => callAt G Fs (d + 1) 11 [.ref j, y] S) ?_ h i g2
    intro a c y q i g
    unfold drawA at q
    split at q
    · split at q
      · rename_i l h hb
        cases q
        unfold gam at g
        obtain ⟨m, rfl, h1, h2⟩ := g
        have h1' : l ≤ m := h1
        have h2' : m ≤ h := h2
        refine (draw_ok (G := G) (F := Fs) (fi := 11) rfl x (by omega) (by omega) i).mono fun S' w gw => ?_
        unfold gam at gw ⊢
        obtain ⟨k, rfl, k1, k2⟩ := gw
        refine ⟨k, rfl, k1, ?_⟩
        have k1' : 0 ≤ k := k1
        have k2' : k ≤ (if m ≤ 1 then 0 else m - 1) := k2
        show k ≤ (if h ≤ 1 then 0 else h - 1)
        split at k2' <;> split <;> omega
      · cases q
    · cases q
  · rename_i d a' lo hi
    split at h
    · rename_i hb
      cases h
      obtain ⟨w, v, rfl, g1, g2⟩ := two_args g
      obtain rfl := res_is x g1
      unfold gam at g2
      obtain ⟨n, vs, rfl, _, hn, l1, l2, gs⟩ := g2
      exact mixed_ok (G := G) (F := Fs) (fi := 11) (mi := 13) rfl rfl x i (items_lst hn) (fun w hw => by
        obtain ⟨b, hb1, gb⟩ := alts_of (gs w hw)
        exact flatA_of (List.all_eq_true.mp hb.1 b hb1) gb) gs l1 l2 (by omega)
    · cases h
  · rename_i d a' b'
    obtain ⟨w, v, rfl, g1, g2⟩ := two_args g
    refine lift2_ok (f := fracA) (r := fun S x y => callAt G Fs (d + 2) 15 [x, y] S) ?_ h i g1 g2
    intro a b c x y q i g g'
    unfold fracA at q
    split at q
    · split at q
      · rename_i l h l' h' hb
        cases q
        unfold gam at g g'
        obtain ⟨n, rfl, n1, n2⟩ := g
        obtain ⟨m, rfl, m1, m2⟩ := g'
        have n1' : l ≤ n := n1
        have n2' : n ≤ h := n2
        have m1' : l' ≤ m := m1
        have m2' : m ≤ h' := m2
        have en : n = ((n.toNat : Nat) : Int) := by omega
        have em : m = ((m.toNat : Nat) : Int) := by omega
        have big : m.toNat < 2 ^ 9000 := Nat.lt_of_lt_of_le (show m.toNat < 2 ^ 60 by omega) (Nat.pow_le_pow_right (by decide) (by decide))
        have run := low15 (d := d) (S := S) (n := n.toNat) (m := m.toNat) (by omega) big
        rw [← en, ← em] at run
        show OkE _ S _ (callAt G Fs (d + 2) 15 [.int n, .int m] S)
        rw [run]
        refine .pure i ?_
        have gp : 0 < Nat.gcd n.toNat m.toNat := gcd_pos (by omega)
        have d1 : n.toNat / Nat.gcd n.toNat m.toNat ≤ n.toNat := Nat.div_le_self _ _
        have d2 : m.toNat / Nat.gcd n.toNat m.toNat ≤ m.toNat := Nat.div_le_self _ _
        have d3 : 0 < n.toNat / Nat.gcd n.toNat m.toNat := Nat.div_pos (Nat.gcd_le_left _ (by omega)) gp
        have d4 : 0 < m.toNat / Nat.gcd n.toNat m.toNat := Nat.div_pos (Nat.gcd_le_right _ (by omega)) gp
        unfold gam
        refine ⟨_, rfl, ?_⟩
        unfold gams gams gams gam
        refine ⟨⟨_, rfl, ?_, ?_⟩, ⟨_, rfl, ?_, ?_⟩, trivial⟩
        · show (1 : Int) ≤ ((n.toNat / Nat.gcd n.toNat m.toNat : Nat) : Int); omega
        · show ((n.toNat / Nat.gcd n.toNat m.toNat : Nat) : Int) ≤ h; omega
        · show (1 : Int) ≤ ((m.toNat / Nat.gcd n.toNat m.toNat : Nat) : Int); omega
        · show ((m.toNat / Nat.gcd n.toNat m.toNat : Nat) : Int) ≤ h'; omega
      · cases q
    · cases q
  · cases h
theorem one25_ok {j l : Nat} {d : Nat} {R : Rsc} (x : Ext0 (jarR j l) R) {b c : Ab} {v : W} {S : Sto} (h : one25 d b = some c) (i : R.inv S) (g : gam R S b v) : OkE R S c (callAt G Fs d 25 [R.w, v] S) := by
  have res : gam R S .res R.w := by unfold gam; rfl
  unfold one25 at h
  split at h
  · rename_i z a lo hi
    split at h
    · rename_i hb
      simp only [Option.map_eq_some_iff] at h
      obtain ⟨r, h1, rfl⟩ := h
      unfold gam at g
      obtain ⟨us, rfl, gs⟩ := g
      obtain ⟨p, q, rfl, g1, g2⟩ := two_args gs
      unfold gam at g2
      obtain ⟨vs, rfl, l1, l2, g3⟩ := g2
      obtain ⟨c', h2, h3⟩ := allO_of h1 (List.mem_map.mpr ⟨vs.length - lo, List.mem_range.mpr (by omega), rfl⟩)
      rw [show lo + (vs.length - lo) = vs.length by omega] at h2
      refine (aCall_of shown_ok ga_of sums_ok d R x 25 _ c' h2 [R.w, .tup [p, .tup vs]] S i ?_).mono fun S' w gw => joinAll_of h3 gw
      unfold gams gams gams
      refine ⟨res, ?_, trivial⟩
      unfold gam
      refine ⟨_, rfl, ?_⟩
      unfold gams gams gams
      refine ⟨g1, ?_, trivial⟩
      unfold gam
      exact ⟨vs, rfl, Nat.le_refl _, Nat.le_refl _, g3⟩
    · cases h
  · refine aCall_of shown_ok ga_of sums_ok d R x 25 _ c h [R.w, v] S i ?_
    unfold gams gams gams
    exact ⟨res, g, trivial⟩
theorem sums2_ok {j l : Nat} : ∀ d R, Ext0 (jarR j l) R → ∀ f as a, sums2 d f as = some a → ∀ ws S, R.inv S → gams R S as ws → OkE R S a (callAt G Fs d f ws S) := by
  intro d R x f as a h ws S i g
  unfold sums2 at h
  split at h
  · rename_i a'
    obtain ⟨w, v, rfl, g1, g2⟩ := two_args g
    have e : w = R.w := by unfold gam at g1; exact g1
    subst e
    simp only [Option.map_eq_some_iff] at h
    obtain ⟨r, h1, rfl⟩ := h
    obtain ⟨b, hb, gb⟩ := alts_of g2
    obtain ⟨c', h2, h3⟩ := allO_of h1 (List.mem_map.mpr ⟨b, hb, rfl⟩)
    exact (one25_ok x h2 i gb).mono fun S' w gw => joinAll_of h3 gw
  · exact sums_ok d R x f as a h ws S i g
/-! ### the loom is made -/
def noR : Rsc := { own := fun _ => False, inv := fun _ => True, w := .non, lt := fun _ _ _ h => h.elim, st := fun _ _ _ _ => trivial }
def noS : Nat → Nat → List Ab → Option Ab := fun _ _ _ => none
theorem noS_of {R0 : Rsc} : ∀ d R, Ext0 R0 R → ∀ f as a, noS d f as = some a → ∀ ws S, R.inv S → gams R S as ws → OkE R S a (callAt G Fs d f ws S) := fun _ _ _ _ _ _ h => by cases h
abbrev jarKs : List Key := [.inr "far", .inr "stirred", .inr "times"]
def isJar : Ab → Bool
  | .dic ks [.lsts (.int _ _) _ hi, .int _ _, .int _ _] => decide (ks = jarKs) && decide (hi ≤ 1000)
  | _ => false
theorem jar_an : (match aCall shown_ GA noS Fs 39 10 [.scr 63] with | some a => isJar a | none => false) = true := by decide +kernel
theorem ints_list : ∀ {ws : List W} {S : Sto} {l h : Option Int}, (∀ x ∈ ws, gam noR S (.int l h) x) → ∃ xs : List Int, ws = xs.map W.int
  | [], _, _, _, _ => ⟨[], rfl⟩
  | w :: ws, S, l, h, k => by
    obtain ⟨xs, rfl⟩ := ints_list fun x hx => k x (List.mem_cons_of_mem _ hx)
    have := k w (List.mem_cons_self ..)
    unfold gam at this
    obtain ⟨i, rfl, _⟩ := this
    exact ⟨i :: xs, rfl⟩
theorem jar_run {ns : List Int} (hn : ns.length ≤ 63) : ∃ j l S, callAt G Fs 39 10 [.ref 0] [.lst false (ns.map W.int)] = some (.ok (.ref j) S) ∧ Jar j l S := by
  have an := jar_an
  split at an
  · rename_i a ha
    have g0 : gams noR [.lst false (ns.map W.int)] [.scr 63] [.ref 0] := by
      unfold gams gams gam
      exact ⟨⟨0, _, rfl, fun h => h, rfl, by simpa using hn, fun x hx => by obtain ⟨i, _, rfl⟩ := List.mem_map.mp hx; exact ⟨i, rfl⟩⟩, trivial⟩
    obtain ⟨w, S, h1, h2, h3⟩ := aCall_of (R0 := noR) shown_ok ga_of noS_of 39 noR .refl 10 _ a ha _ _ trivial g0
    unfold isJar at an
    split at an
    · simp only [Bool.and_eq_true, decide_eq_true_eq] at an
      obtain ⟨rfl, hz⟩ := an
      unfold gam at h3
      obtain ⟨j, kvs, rfl, _, hj, hk, gs⟩ := h3
      match kvs, hk, gs with
      | [(k1, v1), (k2, v2), (k3, v3)], hk, gs =>
        simp only [List.map_cons, List.map_nil, List.cons.injEq, and_true] at hk
        obtain ⟨rfl, rfl, rfl⟩ := hk
        simp only [List.map_cons, List.map_nil] at gs
        unfold gams gams gams gams at gs
        obtain ⟨q1, q2, q3, _⟩ := gs
        unfold gam at q1 q2 q3
        obtain ⟨l, ws, rfl, _, hl, _, hw, hx⟩ := q1
        obtain ⟨a', rfl, _⟩ := q2
        obtain ⟨b', rfl, _⟩ := q3
        obtain ⟨xs, rfl⟩ := ints_list hx
        refine ⟨j, l, S, h1, ?_, ⟨a', b', hj⟩, ⟨xs, hl, by simp at hw; omega⟩⟩
        rintro rfl
        rw [hj] at hl
        cases hl
    · cases an
  · cases an
end K03
namespace K03
open PySem L2 Co Lo
theorem due_shown (V : W) : ∃ T, ∀ S, reprW S (dueD V) = some T := by
  have form : ∃ T, ∀ S, reprW S (.str "form") = some T := ⟨_, fun S => repr_of (d := .str "form") rfl rfl (by decide +kernel) (by decide)⟩
  have share : ∃ T, ∀ S, reprW S (.str "share") = some T := ⟨_, fun S => repr_of (d := .str "share") rfl rfl (by decide +kernel) (by decide)⟩
  have sum : ∃ T, ∀ S, reprW S (.str "sum") = some T := ⟨_, fun S => repr_of (d := .str "sum") rfl rfl (by decide +kernel) (by decide)⟩
  have non : ∃ T, ∀ S, reprW S .non = some T := ⟨_, fun S => repr_of (w := .non) (d := .none) rfl rfl (by decide +kernel) (by decide)⟩
  unfold dueD
  split
  · split
    · split
      · exact non
      · exact share
    · split
      · rename_i y _ _
        unfold dueT
        split
        · rename_i ws
          split
          · rename_i hl
            unfold dueS
            cases h1 : firstN sideW ws 0 with
            | some k =>
              have := firstN_lt h1
              exact repr_tup2 "side" k (by decide +kernel) (by omega)
            | none =>
              simp only
              cases h2 : (List.range (ws.length - 1)).find? (ordB ws) with
              | some k =>
                have hk := List.mem_range.mp (List.mem_of_find?_eq_some h2)
                have e : (1 : Int) + (k : Nat) = ((k + 1 : Nat) : Int) := by omega
                simp only
                rw [e]
                exact repr_tup2 "order" (k + 1) (by decide +kernel) (by omega)
              | none =>
                simp only
                split
                · exact non
                · exact sum
          · exact form
        · exact form
      · exact form
  · exact form
/-! ### the inner loop -/
abbrev eD : CE := .call 23 (.cons (.var 13) .nil) .nil []
abbrev eA : CE := .call 9 .nil (.cons (.var 13) .nil) [0]
abbrev eB : CE := .call 9 (.cons (.var 13) .nil) .nil []
abbrev IB : CSs := .cons (.asg (.tup [.name 15, .name 16]) (.tup (.cons (rp (.var 13)) (.cons (rp eD) .nil))))
  (.cons (.asg (.name 14) (.ife (.cmp .eq (.var 12) (.var 2)) eA eB))
  (.cons (.ife (.bool false (.cons (.cmp .ne (rp (.var 14)) (.var 16)) (.cons (.cmp .ne (rp eB) (.var 16)) (.cons (.cmp .ne (rp (.var 13)) (.var 15)) .nil)))) (.cons (.ret (.cst (.bl false))) .nil) .nil) .nil))
theorem inner {S : Sto} {V : W} {t k : Int} {x0 x1 x3 x4 x5 x6 x7 x8 x9 x10 x11 x14 x15 x16 x17 x18 : Option W} (hV : D4 S V) (hs : ∃ T, reprW S V = some T) :
    ∃ y14 y15 y16, runSs G (callAt G Fs 39) IB [x0, x1, some (.int t), x3, x4, x5, x6, x7, x8, x9, x10, x11, some (.int k), some V, x14, x15, x16, x17, x18] S = some (.next [x0, x1, some (.int t), x3, x4, x5, x6, x7, x8, x9, x10, x11, some (.int k), some V, y14, y15, y16, x17, x18] S) := by
  obtain ⟨T, hT⟩ := hs
  obtain ⟨T2, hD⟩ := due_shown V
  have d23 := die23 (d := 34) hV
  have d9 := die9 (d := 34) hV
  have v : ∀ (ρ : En), ρ[13]? = some (some V) → runE G (callAt G Fs 39) (.var 13) ρ S = some (.ok V S) := fun ρ h => var_at h
  have cA : ∀ (ρ : En), ρ[13]? = some (some V) → runE G (callAt G Fs 39) eA ρ S = some (.ok (dueD V) S) := fun ρ h => by
    unfold runE
    simp only [runEs, v ρ h, Rs.bind_ok, okW_eq, List.nil_append]
    exact d9
  have cB : ∀ (ρ : En), ρ[13]? = some (some V) → runE G (callAt G Fs 39) eB ρ S = some (.ok (dueD V) S) := fun ρ h => call1_at (v ρ h) d9
  have s1 : runS G (callAt G Fs 39) (.asg (.tup [.name 15, .name 16]) (.tup (.cons (rp (.var 13)) (.cons (rp eD) .nil)))) [x0, x1, some (.int t), x3, x4, x5, x6, x7, x8, x9, x10, x11, some (.int k), some V, x14, x15, x16, x17, x18] S = some (.next [x0, x1, some (.int t), x3, x4, x5, x6, x7, x8, x9, x10, x11, some (.int k), some V, x14, some (.str T), some (.str T2), x17, x18] S) :=
    asg_at (tup2_at (rp_at (v _ rfl) hT) (rp_at (call1_at (v _ rfl) d23) (hD _))) (by simp [putT, putTs])
  have s2 : runS G (callAt G Fs 39) (.asg (.name 14) (.ife (.cmp .eq (.var 12) (.var 2)) eA eB)) [x0, x1, some (.int t), x3, x4, x5, x6, x7, x8, x9, x10, x11, some (.int k), some V, x14, some (.str T), some (.str T2), x17, x18] S = some (.next [x0, x1, some (.int t), x3, x4, x5, x6, x7, x8, x9, x10, x11, some (.int k), some V, some (dueD V), some (.str T), some (.str T2), x17, x18] S) := by
    refine asg_at (w := dueD V) ?_ (by simp [putT])
    have ct := cmpT_at (G := G) (O := callAt G Fs 39) (c := .eq) (r := decide (k = t)) (ρ := [x0, x1, some (.int t), x3, x4, x5, x6, x7, x8, x9, x10, x11, some (.int k), some V, x14, some (.str T), some (.str T2), x17, x18]) (S := S) (a := .var 12) (b := .var 2) (x := .int k) (y := .int t) (var_at rfl) (var_at rfl) rfl
    conv => lhs; unfold runE
    rw [ct]
    by_cases hk : k = t
    · rw [decide_eq_true hk]
      simp only [Rs.bind_ok, if_true]
      exact cA _ rfl
    · rw [decide_eq_false hk]
      simp only [Rs.bind_ok, Bool.false_eq_true, if_false]
      exact cB _ rfl
  have ct := or3f (G := G) (O := callAt G Fs 39) (ρ := [x0, x1, some (.int t), x3, x4, x5, x6, x7, x8, x9, x10, x11, some (.int k), some V, some (dueD V), some (.str T), some (.str T2), x17, x18]) (ne_at (rp_at (var_at (i := 14) rfl) (hD S)) (var_at (i := 16) rfl)) (ne_at (rp_at (cB _ rfl) (hD S)) (var_at (i := 16) rfl)) (ne_at (rp_at (v _ rfl) hT) (var_at (i := 15) rfl))
  exact ⟨_, _, _, by rw [seq_next s1, seq_next s2, if_go ct, run_nil]⟩
theorem inner_loop {S : Sto} {t : Int} {stays : Sto → Prop} (hst : stays S) : ∀ (its : List W), (∀ w ∈ its, ∃ (k : Int) (V : W), w = .tup [.int k, V] ∧ D4 S V ∧ ∃ T, reprW S V = some T) →
    ∀ (x0 x1 x3 x4 x5 x6 x7 x8 x9 x10 x11 x12 x13 x14 x15 x16 x17 x18 : Option W), ∃ y12 y13 y14 y15 y16,
      forL (putT (.tup [.name 12, .name 13])) (fun ρ' S' => runSs G (callAt G Fs 39) IB ρ' S') stays its [x0, x1, some (.int t), x3, x4, x5, x6, x7, x8, x9, x10, x11, x12, x13, x14, x15, x16, x17, x18] S =
        some (.next [x0, x1, some (.int t), x3, x4, x5, x6, x7, x8, x9, x10, x11, y12, y13, y14, y15, y16, x17, x18] S) := by
  intro its
  induction its with
  | nil =>
    intro _ x0 x1 x3 x4 x5 x6 x7 x8 x9 x10 x11 x12 x13 x14 x15 x16 x17 x18
    refine ⟨x12, x13, x14, x15, x16, ?_⟩
    unfold forL
    rw [if_pos hst]
  | cons w its ih =>
    intro hw x0 x1 x3 x4 x5 x6 x7 x8 x9 x10 x11 x12 x13 x14 x15 x16 x17 x18
    obtain ⟨k, V, rfl, hV, hs⟩ := hw w (List.mem_cons_self ..)
    obtain ⟨y14, y15, y16, hr⟩ := inner (t := t) (k := k) (x0 := x0) (x1 := x1) (x3 := x3) (x4 := x4) (x5 := x5) (x6 := x6) (x7 := x7) (x8 := x8) (x9 := x9) (x10 := x10) (x11 := x11) (x14 := x14) (x15 := x15) (x16 := x16) (x17 := x17) (x18 := x18) hV hs
    obtain ⟨z12, z13, z14, z15, z16, hz⟩ := ih (fun w h => hw w (List.mem_cons_of_mem _ h)) x0 x1 x3 x4 x5 x6 x7 x8 x9 x10 x11 (some (.int k)) (some V) y14 y15 y16 x17 x18
    refine ⟨z12, z13, z14, z15, z16, ?_⟩
    unfold forL
    rw [if_pos hst]
    have put : putT (.tup [.name 12, .name 13]) (.tup [.int k, V]) [x0, x1, some (.int t), x3, x4, x5, x6, x7, x8, x9, x10, x11, x12, x13, x14, x15, x16, x17, x18] = some [x0, x1, some (.int t), x3, x4, x5, x6, x7, x8, x9, x10, x11, some (.int k), some V, x14, x15, x16, x17, x18] := by
      simp [putT, putTs]
    simp only [put, hr, turnS_next]
    exact hz
abbrev FR : CS := .for_ (.tup [.name 12, .name 13]) (.enm (.var 8)) IB
theorem for_is : FR = (.for_ (.tup [(.name 12), (.name 13)]) (.enm (.var 8)) (.cons (.asg (.tup [(.name 15), (.name 16)]) (.tup (.cons (.blt .repr (.cons (.var 13) .nil)) (.cons (.blt .repr (.cons (.call 23 (.cons (.var 13) .nil) .nil []) .nil)) .nil)))) (.cons (.asg (.name 14) (.ife (.cmp .eq (.var 12) (.var 2)) (.call 9 .nil (.cons (.var 13) .nil) [0]) (.call 9 (.cons (.var 13) .nil) .nil []))) (.cons (.ife (.bool false (.cons (.cmp .ne (.blt .repr (.cons (.var 14) .nil)) (.var 16)) (.cons (.cmp .ne (.blt .repr (.cons (.call 9 (.cons (.var 13) .nil) .nil []) .nil)) (.var 16)) (.cons (.cmp .ne (.blt .repr (.cons (.var 13) .nil)) (.var 15)) .nil)))) (.cons (.ret (.cst (.bl false))) .nil) .nil) .nil)))) := rfl
abbrev TB : CSs := appS PF (.cons FR .nil)
theorem pfOk_of {p : Ab → Bool} {o : Out} (h : pfOk p (some o) = true) : ∃ e a l u x y, o.nx = some e ∧ e[1]? = some (some .res) ∧ e[2]? = some (some (.int l u)) ∧ e[8]? = some (some (.lsts a x y)) ∧ p a = true ∧ small a = true ∧ e.length = 19 ∧ o.rt = [] ∧ o.bk = none ∧ o.ct = none := by
  unfold pfOk at h
  simp only [Bool.and_eq_true] at h
  obtain ⟨⟨h1, h2⟩, h3⟩ := h
  cases hn : o.nx with
  | none => rw [hn] at h1; cases h1
  | some e =>
    rw [hn] at h1
    simp only [Bool.and_eq_true] at h1
    obtain ⟨h4, h5⟩ := h1
    split at h4
    · rename_i l u a x y e1 e2 e3
      simp only [Bool.and_eq_true] at h4
      refine ⟨e, a, l, u, x, y, rfl, e1, e2, e3, h4.1, h4.2, eq_of_beq h5, List.isEmpty_iff.mp h2, ?_⟩
      split at h3
      · exact ⟨‹_›, ‹_›⟩
      · cases h3
    · cases h4
theorem e0_gen {j l : Nat} {S : Sto} {t : Int} (h0 : 0 ≤ t) (h8 : t ≤ 8) {ρ : En} (hl : ρ.length = 19) (h1 : ρ[1]? = some (some (.ref j))) (h2 : ρ[2]? = some (some (.int t))) : Gen (jarR j l) S e0 ρ := by
  refine ⟨hl.symm, fun i a q => ?_⟩
  match i, q with
  | 0, q => cases q
  | 1, q =>
    cases q
    refine ⟨_, h1, ?_⟩
    unfold gam
    rfl
  | 2, q =>
    cases q
    refine ⟨_, h2, ?_⟩
    unfold gam
    exact ⟨t, rfl, h0, h8⟩
  | i + 3, q =>
    have q' : (List.replicate 16 (none : Option Ab))[i]? = some (some a) := q
    rw [List.getElem?_replicate] at q'
    split at q' <;> cases q'
/-- a turn of the law's loop -/
theorem turn_ok {j l : Nat} {S : Sto} {t : Int} (h0 : 0 ≤ t) (h8 : t ≤ 8) (i : Jar j l S) {ρ : En} (hl : ρ.length = 19) (h1 : ρ[1]? = some (some (.ref j))) (h2 : ρ[2]? = some (some (.int t))) :
    ∃ ρ' S', runSs G (callAt G Fs 39) TB ρ S = some (.next ρ' S') ∧ Jar j l S' ∧ ρ'.length = 19 ∧ ρ'[1]? = some (some (.ref j)) := by
  have an := pf_an
  cases ho : aSs shown_ GA (aCall shown_ GA sums2 Fs 39) PF e0 with
  | none => rw [ho] at an; cases an
  | some o =>
    rw [ho] at an
    obtain ⟨e, a, lo, hi, x, y, nx, e1, e2, e8, k1, k2, k4, hrt, hbk, hct⟩ := pfOk_of an
    have V : Env (jarR j l) G (callAt G Fs 39) shown_ GA (aCall shown_ GA sums2 Fs 39) := ⟨shown_ok, ga_of, aCall_of shown_ok ga_of sums2_ok 39⟩
    have ok := sndSs V PF .refl ho (S := S) i (e0_gen h0 h8 hl h1 h2)
    cases hr : runSs G (callAt G Fs 39) PF ρ S with
    | none => rw [hr] at ok; exact ok.elim
    | some r =>
      rw [hr] at ok
      cases r with
      | brk ρ1 S1 => obtain ⟨_, e', q, _⟩ := ok; rw [hbk] at q; cases q
      | cont ρ1 S1 => obtain ⟨_, e', q, _⟩ := ok; rw [hct] at q; cases q
      | ret w S1 => obtain ⟨_, a, q, _⟩ := ok; rw [hrt] at q; cases q
      | ex _ _ _ _ => exact ok.elim
      | next ρ1 S1 =>
        obtain ⟨le, e', q, gn⟩ := ok
        rw [nx] at q
        cases q
        have len := gn.len
        rw [k4] at len
        obtain ⟨w1, p1, g1⟩ := gn.at_ _ _ e1
        obtain ⟨w2, p2, g2⟩ := gn.at_ _ _ e2
        obtain ⟨w8, p8, g8⟩ := gn.at_ _ _ e8
        unfold gam at g1 g2 g8
        have g1' : w1 = .ref j := g1
        subst g1'
        obtain ⟨t', rfl, _⟩ := g2
        obtain ⟨n, ws, rfl, _, hn, _, _, gs⟩ := g8
        match ρ1, len with
        | [x0, x1, x2, x3, x4, x5, x6, x7, x8, x9, x10, x11, x12, x13, x14, x15, x16, x17, x18], _ =>
          simp only [List.getElem?_cons_zero, List.getElem?_cons_succ, Option.some.injEq] at p1 p2 p8
          subst p1 p2 p8
          have hits : ∀ w ∈ pairsW ws, ∃ (k : Int) (V : W), w = .tup [.int k, V] ∧ D4 S1 V ∧ ∃ T, reprW S1 V = some T := by
            intro w hw
            unfold pairsW at hw
            obtain ⟨m, hm, rfl⟩ := List.mem_mapIdx.mp hw
            have ga := gs _ (List.getElem_mem hm)
            obtain ⟨T, hT⟩ := repr_small (small_of k2 ga)
            refine ⟨_, _, rfl, (tyA_of 4 k1 ga).d4, T, ?_⟩
            have := hT []
            rwa [List.append_nil] at this
          have hst : Itr.stays ⟨pairsW ws, [(n, ws)]⟩ S1 := fun m us q => by
            rw [List.mem_singleton] at q
            cases q
            exact ⟨true, hn⟩
          obtain ⟨y12, y13, y14, y15, y16, hf⟩ := inner_loop (t := t') hst (pairsW ws) hits x0 (some (.ref j)) x3 x4 x5 x6 x7 (some (.ref n)) x9 x10 x11 x12 x13 x14 x15 x16 x17 x18
          refine ⟨[x0, some (.ref j), some (.int t'), x3, x4, x5, x6, x7, some (.ref n), x9, x10, x11, y12, y13, y14, y15, y16, x17, x18], S1, ?_, le.inv, rfl, rfl⟩
          rw [appS_next PF hr, seq_next (ρ' := [x0, some (.ref j), some (.int t'), x3, x4, x5, x6, x7, some (.ref n), x9, x10, x11, y12, y13, y14, y15, y16, x17, x18]) (S' := S1), run_nil]
          simp only [runS, runI, runE, List.getElem?_cons_zero, List.getElem?_cons_succ, okW_eq, Rs.bind_ok, hn, thenS_ok]
          exact hf
theorem outer {j l : Nat} {stays : Sto → Prop} (hst : ∀ S, stays S) : ∀ (its : List W), (∀ w ∈ its, ∃ t : Int, w = .int t ∧ 0 ≤ t ∧ t ≤ 8) → ∀ (ρ : En) (S : Sto), Jar j l S → ρ.length = 19 → ρ[1]? = some (some (.ref j)) → ∃ ρ' S', forL (putT (.name 2)) (fun ρ' S' => runSs G (callAt G Fs 39) TB ρ' S') stays its ρ S = some (.next ρ' S') ∧ Jar j l S' ∧ ρ'.length = 19 ∧ ρ'[1]? = some (some (.ref j)) := by
  intro its
  induction its with
  | nil =>
    intro _ ρ S i hl h1
    refine ⟨ρ, S, ?_, i, hl, h1⟩
    unfold forL
    rw [if_pos (hst S)]
  | cons w its ih =>
    intro hw ρ S i hl h1
    obtain ⟨t, rfl, t0, t8⟩ := hw w (List.mem_cons_self ..)
    have put : putT (.name 2) (.int t) ρ = some (ρ.set 2 (some (.int t))) := by
      unfold putT
      rw [if_pos (by omega)]
    obtain ⟨ρ1, S1, q1, q2, q3, q4⟩ := turn_ok t0 t8 i (ρ := ρ.set 2 (some (.int t))) (by simpa using hl) (by rw [List.getElem?_set_ne (by decide)]; exact h1) (by rw [List.getElem?_set_self (by omega)])
    obtain ⟨ρ2, S2, q5, q6⟩ := ih (fun w h => hw w (List.mem_cons_of_mem _ h)) ρ1 S1 q2 q3 q4
    refine ⟨ρ2, S2, ?_, q6⟩
    unfold forL
    rw [if_pos (hst S)]
    simp only [put, q1, turnS_next]
    exact q5
end K03
namespace K03
open PySem L2 Co Lo
theorem far4 : (([9, 20, 60, 398] : List Nat).all fun n => (intText? ("1" ++ Txt.mul "0" (n : Int))) == some ((10 : Int) ^ n) && decide (("1" ++ Txt.mul "0" (n : Int) : Str).length ≤ 640)) = true := by decide +kernel
theorem ten4 : (([9, 20, 60, 398] : List Nat).all fun n => decide (10 ^ n < 2 ^ 1390) && decide (1 ≤ n) && decide (n ≤ 1000)) = true := by decide +kernel
end K03
namespace K03
open PySem L2 Co Lo
theorem jar_lt {j l : Nat} {S : Sto} (i : Jar j l S) : j < S.length ∧ l < S.length := by
  obtain ⟨_, ⟨a, b, h1⟩, ⟨xs, h2, _⟩⟩ := i
  exact ⟨(List.getElem?_eq_some_iff.mp h1).1, (List.getElem?_eq_some_iff.mp h2).1⟩
theorem pick_at {j l m : Nat} {S : Sto} {ws : List W} (i : Jar j l S) (hm : S[m]? = some (.lst true ws)) (h1 : m ≠ j) (h2 : m ≠ l) (hl : 1 ≤ ws.length) (hl2 : ws.length < 1000) : ∃ w ∈ ws, ∃ S', callAt G Fs 39 12 [.ref j, .ref m] S = some (.ok w S') := by
  obtain ⟨k, S', e, le, g⟩ := draw_ok (G := G) (F := Fs) (fi := 11) rfl (d := 37) (R := jarR j l) (.refl) (S := S) (m := (ws.length : Int)) (by omega) (by omega) i
  unfold gam at g
  obtain ⟨n, rfl, q1, q2⟩ := g
  have q1' : 0 ≤ n := q1
  have q2' : n ≤ (if (ws.length : Int) ≤ 1 then 0 else (ws.length : Int) - 1) := q2
  have hn : n < (ws.length : Nat) := by split at q2' <;> omega
  have hm' : S'[m]? = some (.lst true ws) := by
    rw [le.get m (List.getElem?_eq_some_iff.mp hm).1 (fun o => o.elim h1 h2)]
    exact hm
  have hk : n.toNat < ws.length := by omega
  refine ⟨ws[n.toNat], List.getElem_mem hk, S', ?_⟩
  rw [call_eq (fd := f12) rfl rfl]
  unfold f12
  simp only
  have st : startE 2 [.ref j, .ref m] = [some (.ref j), some (.ref m)] := rfl
  rw [st]
  have v0 : runE G (callAt G Fs 38) (.var 0) [some (.ref j), some (.ref m)] S = some (.ok (.ref j) S) := var_at rfl
  have v1 : runE G (callAt G Fs 38) (.var 1) [some (.ref j), some (.ref m)] S = some (.ok (.ref m) S) := var_at rfl
  have ln : runE G (callAt G Fs 38) (.blt .len (.cons (.var 1) .nil)) [some (.ref j), some (.ref m)] S = some (.ok (.int (ws.length : Nat)) S) := by
    have : bltW S .len [.ref m] = some (.ok (.int (ws.length : Nat)) S) := by simp [bltW, lenW, itemsW, hm]
    rw [blt_one, v1]
    exact this
  have c := call2_at v0 ln e
  have ix : ixW S' (.ref m) (.int n) = some ws[n.toNat] := by
    have : atI ws n = some ws[n.toNat] := by
      unfold atI ixN
      rw [if_pos q1', if_pos (by omega)]
      simp [hk]
    simp only [ixW, hm', this]
  rw [ret_at (w := ws[n.toNat]) (S' := S')]
  · rfl
  · conv => lhs; unfold runE
    rw [v1]
    simp only [Rs.bind_ok, c, ix, liftW_some]
theorem side_ok {S : Sto} {n a b : Int} (ha : a.natAbs < 2 ^ 1400) (hb : b.natAbs < 2 ^ 1400) : Tyb3 S (.tup [.int n, .tup [.int a, .int b]]) ∧ Sm (.tup [.int n, .tup [.int a, .int b]]) := by
  refine ⟨⟨fun t => ⟨_, rfl⟩, fun x y e => ?_⟩, fun n' a' b' e => ?_⟩
  · cases e
    refine ⟨fun t => ⟨_, rfl⟩, fun t => ⟨_, rfl⟩, fun x y e => ?_⟩
    cases e
    exact ⟨fun t => ⟨_, rfl⟩, fun t => ⟨_, rfl⟩⟩
  · cases e
    exact ⟨ha, hb⟩
theorem die_ok {S : Sto} {ws : List W} (h : ∀ w ∈ ws, Tyb3 S w ∧ Sm w) : D4 S (.tup [.str "die", .tup ws]) := by
  refine ⟨fun t => ⟨_, rfl⟩, fun x y e => ?_⟩
  cases e
  refine ⟨fun t => ⟨_, rfl⟩, ⟨fun t => ⟨_, rfl⟩, fun x y e => ?_⟩, fun us e => ?_⟩
  · cases e
    exact ⟨(h x (by simp)).1.1, (h y (by simp)).1.1⟩
  · cases e
    exact h
/-! ### the near shares -/
abbrev NB : CSs := .cons (.asg (.name 11) (.tup (.cons (.tup (.cons (.cst (.int 0)) (.cons (.var 9) .nil))) (.cons (.tup (.cons (.cst (.int 1)) (.cons (.var 10) .nil))) .nil)))) (.cons (.ife (.cmp .ne (rp (.call 9 (.cons (.tup (.cons (.cst (.str "die")) (.cons (.var 11) .nil))) .nil) .nil [])) (rp (.call 23 (.cons (.tup (.cons (.cst (.str "die")) (.cons (.var 11) .nil))) .nil) .nil []))) (.cons (.ret (.cst (.bl false))) .nil) .nil) .nil)
def SmN (t : Nat × Nat) : Prop := t.1 < 2 ^ 1400 ∧ t.2 < 2 ^ 1400
theorem nb_at {S : Sto} {s u : Nat × Nat} (hs : SmN s) (hu : SmN u) {x0 x1 x2 x3 x4 x5 x6 x7 x8 x11 x12 x13 x14 x15 x16 x17 x18 : Option W} :
    ∃ y11, runSs G (callAt G Fs 39) NB [x0, x1, x2, x3, x4, x5, x6, x7, x8, some (tupN s), some (tupN u), x11, x12, x13, x14, x15, x16, x17, x18] S = some (.next [x0, x1, x2, x3, x4, x5, x6, x7, x8, some (tupN s), some (tupN u), y11, x12, x13, x14, x15, x16, x17, x18] S) := by
  have hV : D4 S (.tup [.str "die", .tup [.tup [.int 0, tupN s], .tup [.int 1, tupN u]]]) := die_ok fun w hw => by
    simp only [List.mem_cons, List.not_mem_nil, or_false] at hw
    rcases hw with rfl | rfl
    · exact side_ok (by rw [Int.natAbs_natCast]; exact hs.1) (by rw [Int.natAbs_natCast]; exact hs.2)
    · exact side_ok (by rw [Int.natAbs_natCast]; exact hu.1) (by rw [Int.natAbs_natCast]; exact hu.2)
  obtain ⟨T, hT⟩ := due_shown (.tup [.str "die", .tup [.tup [.int 0, tupN s], .tup [.int 1, tupN u]]])
  refine ⟨some (.tup [.tup [.int 0, tupN s], .tup [.int 1, tupN u]]), ?_⟩
  have s1 := asg_at (G := G) (O := callAt G Fs 39) (t := .name 11) (ρ := [x0, x1, x2, x3, x4, x5, x6, x7, x8, some (tupN s), some (tupN u), x11, x12, x13, x14, x15, x16, x17, x18]) (S := S) (tup2_at (tup2_at (cst_at (w := .int 0)) (var_at (i := 9) (w := tupN s) rfl)) (tup2_at (cst_at (w := .int 1)) (var_at (i := 10) (w := tupN u) rfl)))
    (show putT (.name 11) (.tup [.tup [.int 0, tupN s], .tup [.int 1, tupN u]]) [x0, x1, x2, x3, x4, x5, x6, x7, x8, some (tupN s), some (tupN u), x11, x12, x13, x14, x15, x16, x17, x18] = some [x0, x1, x2, x3, x4, x5, x6, x7, x8, some (tupN s), some (tupN u), some (.tup [.tup [.int 0, tupN s], .tup [.int 1, tupN u]]), x12, x13, x14, x15, x16, x17, x18] by simp [putT])
  have arg : runE G (callAt G Fs 39) (.tup (.cons (.cst (.str "die")) (.cons (.var 11) .nil))) [x0, x1, x2, x3, x4, x5, x6, x7, x8, some (tupN s), some (tupN u), some (.tup [.tup [.int 0, tupN s], .tup [.int 1, tupN u]]), x12, x13, x14, x15, x16, x17, x18] S = some (.ok (.tup [.str "die", .tup [.tup [.int 0, tupN s], .tup [.int 1, tupN u]]]) S) := tup2_at cst_at (var_at rfl)
  have ct := ne_at (rp_at (call1_at arg (die9 (d := 34) hV)) (hT S)) (rp_at (call1_at arg (die23 (d := 34) hV)) (hT S))
  rw [seq_next s1, if_go ct, run_nil]
theorem near_loop {S : Sto} {stays : Sto → Prop} (hst : stays S) : ∀ (its : List W), (∀ w ∈ its, ∃ s u, w = .tup [tupN s, tupN u] ∧ SmN s ∧ SmN u) →
    ∀ (x0 x1 x2 x3 x4 x5 x6 x7 x8 x9 x10 x11 x12 x13 x14 x15 x16 x17 x18 : Option W), ∃ y9 y10 y11,
      forL (putT (.tup [.name 9, .name 10])) (fun ρ' S' => runSs G (callAt G Fs 39) NB ρ' S') stays its [x0, x1, x2, x3, x4, x5, x6, x7, x8, x9, x10, x11, x12, x13, x14, x15, x16, x17, x18] S =
        some (.next [x0, x1, x2, x3, x4, x5, x6, x7, x8, y9, y10, y11, x12, x13, x14, x15, x16, x17, x18] S) := by
  intro its
  induction its with
  | nil =>
    intro _ x0 x1 x2 x3 x4 x5 x6 x7 x8 x9 x10 x11 x12 x13 x14 x15 x16 x17 x18
    refine ⟨x9, x10, x11, ?_⟩
    unfold forL
    rw [if_pos hst]
  | cons w its ih =>
    intro hw x0 x1 x2 x3 x4 x5 x6 x7 x8 x9 x10 x11 x12 x13 x14 x15 x16 x17 x18
    obtain ⟨s, u, rfl, hs, hu⟩ := hw w (List.mem_cons_self ..)
    obtain ⟨y11, hr⟩ := nb_at (S := S) hs hu (x0 := x0) (x1 := x1) (x2 := x2) (x3 := x3) (x4 := x4) (x5 := x5) (x6 := x6) (x7 := x7) (x8 := x8) (x11 := x11) (x12 := x12) (x13 := x13) (x14 := x14) (x15 := x15) (x16 := x16) (x17 := x17) (x18 := x18)
    obtain ⟨z9, z10, z11, hz⟩ := ih (fun w h => hw w (List.mem_cons_of_mem _ h)) x0 x1 x2 x3 x4 x5 x6 x7 x8 (some (tupN s)) (some (tupN u)) y11 x12 x13 x14 x15 x16 x17 x18
    refine ⟨z9, z10, z11, ?_⟩
    unfold forL
    rw [if_pos hst]
    have put : putT (.tup [.name 9, .name 10]) (.tup [tupN s, tupN u]) [x0, x1, x2, x3, x4, x5, x6, x7, x8, x9, x10, x11, x12, x13, x14, x15, x16, x17, x18] = some [x0, x1, x2, x3, x4, x5, x6, x7, x8, some (tupN s), some (tupN u), x11, x12, x13, x14, x15, x16, x17, x18] := by
      simp [putT, putTs]
    simp only [put, hr, turnS_next]
    exact hz
/-! ### six sides -/
def sd (i : Int) : W := .tup [.int i, .tup [.int 1, .int 6]]
abbrev cE : CE := .tup (.cons (.var 18) (.cons (.tup (.cons (.cst (.int 1)) (.cons (.cst (.int 6)) .nil))) .nil))
theorem six_loop {O : Orc} {stays : Sto → Prop} (hst : ∀ S, stays S) {S0 : Sto} {ρ : En} (hl : ρ.length = 19) : ∀ (l : List Int) (acc : List W), acc.length + l.length ≤ 1000 →
    compL (putT (.name 18)) (fun ρ' S' => noX (runOT G O .none ρ' S')) (fun ρ' S' => noX (runE G O cE ρ' S')) ρ stays S0.length (l.map W.int) (S0 ++ [MO.lst true acc]) = some (.ok (.ref S0.length) (S0 ++ [MO.lst true (acc ++ l.map sd)]))
  | [], acc, _ => by simp [compL, hst]
  | i :: l, acc, hz => by
    have put : putT (.name 18) (.int i) ρ = some (ρ.set 18 (some (.int i))) := by
      unfold putT
      rw [if_pos (by omega)]
    have ct : noX (runOT G O .none (ρ.set 18 (some (.int i))) (S0 ++ [MO.lst true acc])) = some (.ok true (S0 ++ [MO.lst true acc])) := by
      unfold runOT
      rfl
    have v18 : runE G O (.var 18) (ρ.set 18 (some (.int i))) (S0 ++ [MO.lst true acc]) = some (.ok (.int i) (S0 ++ [MO.lst true acc])) := var_at (by rw [List.getElem?_set_self (by omega)])
    have ev : runE G O cE (ρ.set 18 (some (.int i))) (S0 ++ [MO.lst true acc]) = some (.ok (sd i) (S0 ++ [MO.lst true acc])) := tup2_at v18 (tup2_at cst_at cst_at)
    have el : noX (runE G O cE (ρ.set 18 (some (.int i))) (S0 ++ [MO.lst true acc])) = some (.ok (sd i) (S0 ++ [MO.lst true acc])) := by
      rw [ev]
      rfl
    have hat : (S0 ++ [MO.lst true acc])[S0.length]? = some (.lst true acc) := by simp
    have hlt : acc.length < sizeLine := Nat.lt_of_le_of_lt (show acc.length ≤ 1000 by omega) (by decide)
    have hset : (S0 ++ [MO.lst true acc]).set S0.length (.lst true (acc ++ [sd i])) = S0 ++ [MO.lst true (acc ++ [sd i])] := by
      simp [List.set_append]
    have rec_ := six_loop (O := O) hst (S0 := S0) hl l (acc ++ [sd i]) (by simp at hz ⊢; omega)
    rw [List.map_cons]
    unfold compL
    rw [if_pos (hst _)]
    simp only [put, ct, Rs.bind_ok]
    rw [if_pos trivial, el]
    simp only [Rs.bind_ok, hat]
    rw [if_pos hlt, hset, rec_]
    simp
def sixW : List W := [sd 4, sd 5, sd 6, sd 7, sd 8, sd 9]
theorem six_due : (match dueD (.tup [.str "die", .tup sixW]) with | .non => true | _ => false) = true := by decide +kernel
theorem six_due' : dueD (.tup [.str "die", .tup sixW]) = .non := by
  have h := six_due
  split at h
  · assumption
  · cases h
theorem sev_due : dueD (.tup [.str "die", .tup (sixW ++ [sd 9])]) = .str "form" := by
  show dueT (.tup (sixW ++ [sd 9])) = _
  rw [dueT_tup, if_neg (by show ¬ (1 ≤ 7 ∧ 7 ≤ 6); decide)]
theorem six_ok {S : Sto} {ws : List W} (h : ∀ w ∈ ws, ∃ i, w = sd i) : D4 S (.tup [.str "die", .tup ws]) := die_ok fun w hw => by
  obtain ⟨i, rfl⟩ := h w hw
  exact side_ok (Nat.lt_of_lt_of_le (show (1 : Int).natAbs < 2 ^ 3 by decide) (Nat.pow_le_pow_right (by decide) (by decide))) (Nat.lt_of_lt_of_le (show (6 : Int).natAbs < 2 ^ 3 by decide) (Nat.pow_le_pow_right (by decide) (by decide)))
theorem six_all : ∀ w ∈ sixW, ∃ i, w = sd i := by
  intro w hw
  simp only [sixW, List.mem_cons, List.not_mem_nil, or_false] at hw
  rcases hw with rfl | rfl | rfl | rfl | rfl | rfl <;> exact ⟨_, rfl⟩
theorem repr2 : ∃ T, ∀ (S : Sto) (n : Nat), S[n]? = some (.lst true [.non, .str "form"]) → reprW S (.ref n) = some T := by
  refine ⟨(PyData.list [.none, .str "form"]).shown, fun S n h => repr_of ?_ ?_ ?_ ?_⟩
  · have : readD 60 S (.ref n) = (List.mapM (readD 59 S) [.non, .str "form"]).map .list := by simp only [readD, h]
    rw [this]
    rfl
  · decide +kernel
  · decide +kernel
  · decide +kernel
theorem lst2_at {O : Orc} {a b : CE} {ρ : En} {S S1 S2 : Sto} {x y : W} (ha : runE G O a ρ S = some (.ok x S1)) (hb : runE G O b ρ S1 = some (.ok y S2)) : runE G O (.lst (.cons a (.cons b .nil))) ρ S = some (.ok (.ref S2.length) (S2 ++ [MO.lst true [x, y]])) := by
  have z2 : 2 ≤ sizeLine := by decide
  simp [runE, runEs, ha, hb, z2, newL]
abbrev T3 : CS := (.asg (.name 3) (.blt .int (.cons (.bin .add (.cst (.str "1")) (.bin .mul (.cst (.str "0")) (.call 12 (.cons (.var 1) (.cons (.lst (.cons (.cst (.int 9)) (.cons (.cst (.int 20)) (.cons (.cst (.int 60)) (.cons (.cst (.int 398)) .nil))))) .nil)) .nil []))) .nil)))
abbrev T4 : CS := (.asg (.name 4) (.bin .add (.bin .mul (.cst (.int 2)) (.var 3)) (.cst (.int 1))))
abbrev T5 : CS := (.asg (.name 5) (.lst (.cons (.tup (.cons (.tup (.cons (.cst (.int 1)) (.cons (.cst (.int 2)) .nil))) (.cons (.tup (.cons (.var 3) (.cons (.var 4) .nil))) .nil))) (.cons (.tup (.cons (.tup (.cons (.cst (.int 1)) (.cons (.cst (.int 2)) .nil))) (.cons (.tup (.cons (.bin .add (.var 3) (.cst (.int 1))) (.cons (.var 4) .nil))) .nil))) (.cons (.tup (.cons (.tup (.cons (.var 3) (.cons (.var 4) .nil))) (.cons (.tup (.cons (.bin .add (.var 3) (.cst (.int 1))) (.cons (.var 4) .nil))) .nil))) .nil)))))
abbrev T6 : CS := (.for_ (.tup [(.name 9), (.name 10)]) (.seq (.var 5)) (.cons (.asg (.name 11) (.tup (.cons (.tup (.cons (.cst (.int 0)) (.cons (.var 9) .nil))) (.cons (.tup (.cons (.cst (.int 1)) (.cons (.var 10) .nil))) .nil)))) (.cons (.ife (.cmp .ne (.blt .repr (.cons (.call 9 (.cons (.tup (.cons (.cst (.str "die")) (.cons (.var 11) .nil))) .nil) .nil []) .nil)) (.blt .repr (.cons (.call 23 (.cons (.tup (.cons (.cst (.str "die")) (.cons (.var 11) .nil))) .nil) .nil []) .nil))) (.cons (.ret (.cst (.bl false))) .nil) .nil) .nil)))
abbrev T7 : CS := (.asg (.name 6) (.tup (.cons (.cst (.str "die")) (.cons (.blt .tuple (.cons (.comp (.tup (.cons (.var 18) (.cons (.tup (.cons (.cst (.int 1)) (.cons (.cst (.int 6)) .nil))) .nil))) (.name 18) (.rng2 (.cst (.int 4)) (.cst (.int 10))) .none [18]) .nil)) .nil))))
abbrev T8 : CS := (.ret (.cmp .eq (.blt .repr (.cons (.lst (.cons (.call 9 (.cons (.var 6) .nil) .nil []) (.cons (.call 9 (.cons (.tup (.cons (.cst (.str "die")) (.cons (.bin .add (.idx (.var 6) (.cst (.int 1))) (.tup (.cons (.tup (.cons (.cst (.int 9)) (.cons (.tup (.cons (.cst (.int 1)) (.cons (.cst (.int 6)) .nil))) .nil))) .nil))) .nil))) .nil) .nil []) .nil))) .nil)) (.blt .repr (.cons (.lst (.cons (.cst .non) (.cons (.cst (.str "form")) .nil))) .nil))))
theorem t6_is : T6 = .for_ (.tup [.name 9, .name 10]) (.seq (.var 5)) NB := rfl
theorem f26_body : f26.body = .cons (.asg (.name 1) (.call 10 (.cons (.var 0) .nil) .nil [])) (.cons (.for_ (.name 2) (.rng1 (.cst (.int 9))) TB) (.cons T3 (.cons T4 (.cons T5 (.cons T6 (.cons T7 (.cons T8 .nil))))))) := rfl
end K03
namespace K03
open PySem L2 Co Lo
theorem far_facts {n : Nat} (h : n ∈ ([9, 20, 60, 398] : List Nat)) : intText? ("1" ++ Txt.mul "0" (n : Int)) = some ((10 : Int) ^ n) ∧ ("1" ++ Txt.mul "0" (n : Int) : Str).length ≤ 640 ∧ 10 ^ n < 2 ^ 1390 ∧ 1 ≤ n ∧ n ≤ 1000 := by
  have a := List.all_eq_true.mp far4 n h
  have b := List.all_eq_true.mp ten4 n h
  simp only [Bool.and_eq_true, decide_eq_true_eq] at a b
  exact ⟨eq_of_beq a.1, a.2, b.1.1, b.1.2, b.2⟩
theorem far_at {j l : Nat} {S : Sto} (i : Jar j l S) {ρ : En} (h1 : ρ[1]? = some (some (.ref j))) : ∃ (n : Nat) (S2 : Sto), n ∈ ([9, 20, 60, 398] : List Nat) ∧ runE G (callAt G Fs 39) (.blt .int (.cons (.bin .add (.cst (.str "1")) (.bin .mul (.cst (.str "0")) (.call 12 (.cons (.var 1) (.cons (.lst (.cons (.cst (.int 9)) (.cons (.cst (.int 20)) (.cons (.cst (.int 60)) (.cons (.cst (.int 398)) .nil))))) .nil)) .nil []))) .nil)) ρ S = some (.ok (.int ((10 ^ n : Nat) : Int)) S2) := by
  obtain ⟨j1, j2⟩ := jar_lt i
  have l4 : runE G (callAt G Fs 39) (.lst (.cons (.cst (.int 9)) (.cons (.cst (.int 20)) (.cons (.cst (.int 60)) (.cons (.cst (.int 398)) .nil))))) ρ S = some (.ok (.ref S.length) (S ++ [MO.lst true [.int 9, .int 20, .int 60, .int 398]])) := by
    have z4 : 4 ≤ sizeLine := by decide
    simp [runE, runEs, z4, newL]
  obtain ⟨w, hw, S2, pk⟩ := pick_at (jar_app (X := [MO.lst true [.int 9, .int 20, .int 60, .int 398]]) i) (m := S.length) (ws := [.int 9, .int 20, .int 60, .int 398]) (by simp) (by omega) (by omega) (by simp) (by simp)
  have hn : ∃ n : Nat, n ∈ ([9, 20, 60, 398] : List Nat) ∧ w = .int (n : Nat) := by
    simp only [List.mem_cons, List.not_mem_nil, or_false] at hw
    rcases hw with rfl | rfl | rfl | rfl
    · exact ⟨9, by simp, rfl⟩
    · exact ⟨20, by simp, rfl⟩
    · exact ⟨60, by simp, rfl⟩
    · exact ⟨398, by simp, rfl⟩
  obtain ⟨n, hn, rfl⟩ := hn
  obtain ⟨f1, f2, f3, f4, f5⟩ := far_facts hn
  refine ⟨n, S2, hn, ?_⟩
  have c := call2_at (var_at h1) l4 pk
  have zl : ("0" : Str).length ≤ 1000 := by decide +kernel
  have m : op2 S2 .mul (.str "0") (.int (n : Nat)) = some (.ok (.str (Txt.mul "0" (n : Int))) S2) := by
    show (if 1 ≤ ((n : Nat) : Int) ∧ ((n : Nat) : Int) ≤ 1000 ∧ ("0" : Str).length ≤ 1000 then okW (W.str (Txt.mul "0" (n : Int))) S2 else none) = _
    rw [if_pos ⟨by omega, by omega, zl⟩]
    rfl
  have sl : (sizeLine : Nat) = 16777216 := by decide
  have a : op2 S2 .add (.str "1") (.str (Txt.mul "0" (n : Int))) = some (.ok (.str ("1" ++ Txt.mul "0" (n : Int))) S2) := op2_str (by
    rw [strLen_append] at f2
    omega)
  have b : bltW S2 .int [.str ("1" ++ Txt.mul "0" (n : Int))] = some (.ok (.int ((10 : Int) ^ n)) S2) := by
    simp only [bltW, f1]
    rw [if_pos f2]
    rfl
  have e : runE G (callAt G Fs 39) (.bin .add (.cst (.str "1")) (.bin .mul (.cst (.str "0")) (.call 12 (.cons (.var 1) (.cons (.lst (.cons (.cst (.int 9)) (.cons (.cst (.int 20)) (.cons (.cst (.int 60)) (.cons (.cst (.int 398)) .nil))))) .nil)) .nil []))) ρ S = some (.ok (.str ("1" ++ Txt.mul "0" (n : Int))) S2) := by
    conv => lhs; unfold runE
    rw [cst_at]
    simp only [Rs.bind_ok]
    conv => lhs; lhs; unfold runE
    rw [cst_at]
    simp only [Rs.bind_ok, c, m, a]
  rw [blt_one, e]
  simp only [Rs.bind_ok, b]
  congr 3
theorem cmpE2_at {O : Orc} {a b : CE} {ρ : En} {S S1 S2 : Sto} {T : Str} (ha : runE G O a ρ S = some (.ok (.str T) S1)) (hb : runE G O b ρ S1 = some (.ok (.str T) S2)) : runE G O (.cmp .eq a b) ρ S = some (.ok (.bl true) S2) := by
  have e : cmpW S2 .eq (.str T) (.str T) = some true := by simp [cmpW, eqW]
  simp [runE, ha, hb, e]
theorem tail_ok {j l : Nat} {S : Sto} (i : Jar j l S) {ρ : En} (hl : ρ.length = 19) (h1 : ρ[1]? = some (some (.ref j))) : ∃ S', runSs G (callAt G Fs 39) (.cons T3 (.cons T4 (.cons T5 (.cons T6 (.cons T7 (.cons T8 .nil)))))) ρ S = some (.ret (.bl true) S') := by
  match ρ, hl with
  | [x0, x1, x2, x3, x4, x5, x6, x7, x8, x9, x10, x11, x12, x13, x14, x15, x16, x17, x18], _ =>
    simp only [List.getElem?_cons_zero, List.getElem?_cons_succ, Option.some.injEq] at h1
    subst h1
    obtain ⟨n, S2, hn, e3⟩ := far_at i (ρ := [x0, some (.ref j), x2, x3, x4, x5, x6, x7, x8, x9, x10, x11, x12, x13, x14, x15, x16, x17, x18]) rfl
    obtain ⟨_, _, f3, _, _⟩ := far_facts hn
    generalize hf : (10 ^ n : Nat) = f at e3 f3
    have s3 := asg_at (t := .name 3) (ρ1 := [x0, some (.ref j), x2, some (.int (f : Nat)), x4, x5, x6, x7, x8, x9, x10, x11, x12, x13, x14, x15, x16, x17, x18]) e3 (by simp [putT])
    have big : ∀ k : Nat, k ≤ 2 * f + 2 → k < 2 ^ 1400 := fun k hk => by
      have p : (2 : Nat) ^ 1400 = 2 ^ 10 * 2 ^ 1390 := by rw [← Nat.pow_add]
      have q : (2 : Nat) ^ 10 = 1024 := by decide
      rw [p, q]
      generalize (2 : Nat) ^ 1390 = y at f3 ⊢
      omega
    have p14 : (2 : Nat) ^ 1400 < 2 ^ 20000 := Nat.pow_lt_pow_right (by decide) (by decide)
    have v3 : ∀ y4 y5, runE G (callAt G Fs 39) (.var 3) [x0, some (.ref j), x2, some (.int (f : Nat)), y4, y5, x6, x7, x8, x9, x10, x11, x12, x13, x14, x15, x16, x17, x18] S2 = some (.ok (.int (f : Nat)) S2) := fun _ _ => var_at rfl
    have two : (2 : Int).natAbs < 2 ^ 20000 := Nat.lt_of_lt_of_le (show (2 : Int).natAbs < 2 ^ 2 by decide) (Nat.pow_le_pow_right (by decide) (by decide))
    have e4 := add_at (mul_at (cst_at (w := .int 2)) (v3 x4 x5) two (by rw [Int.natAbs_natCast]; exact Nat.lt_trans (big f (by omega)) p14)) (cst_at (w := .int 1))
    have eb : (2 : Int) * (f : Nat) + 1 = ((2 * f + 1 : Nat) : Int) := by omega
    rw [eb] at e4
    generalize hb : 2 * f + 1 = b at e4
    have s4 := asg_at (t := .name 4) (ρ1 := [x0, some (.ref j), x2, some (.int (f : Nat)), some (.int (b : Nat)), x5, x6, x7, x8, x9, x10, x11, x12, x13, x14, x15, x16, x17, x18]) e4 (by simp [putT])
    have v4 : runE G (callAt G Fs 39) (.var 4) [x0, some (.ref j), x2, some (.int (f : Nat)), some (.int (b : Nat)), x5, x6, x7, x8, x9, x10, x11, x12, x13, x14, x15, x16, x17, x18] S2 = some (.ok (.int (b : Nat)) S2) := var_at rfl
    have v3b := v3 (some (.int (b : Nat))) x5
    have f1 : runE G (callAt G Fs 39) (.bin .add (.var 3) (.cst (.int 1))) [x0, some (.ref j), x2, some (.int (f : Nat)), some (.int (b : Nat)), x5, x6, x7, x8, x9, x10, x11, x12, x13, x14, x15, x16, x17, x18] S2 = some (.ok (.int ((f + 1 : Nat) : Int)) S2) := add_at v3b cst_at
    have h12 : runE G (callAt G Fs 39) (.tup (.cons (.cst (.int 1)) (.cons (.cst (.int 2)) .nil))) [x0, some (.ref j), x2, some (.int (f : Nat)), some (.int (b : Nat)), x5, x6, x7, x8, x9, x10, x11, x12, x13, x14, x15, x16, x17, x18] S2 = some (.ok (tupN (1, 2)) S2) := tup2_at cst_at cst_at
    have hfb : runE G (callAt G Fs 39) (.tup (.cons (.var 3) (.cons (.var 4) .nil))) [x0, some (.ref j), x2, some (.int (f : Nat)), some (.int (b : Nat)), x5, x6, x7, x8, x9, x10, x11, x12, x13, x14, x15, x16, x17, x18] S2 = some (.ok (tupN (f, b)) S2) := tup2_at v3b v4
    have hgb : runE G (callAt G Fs 39) (.tup (.cons (.bin .add (.var 3) (.cst (.int 1))) (.cons (.var 4) .nil))) [x0, some (.ref j), x2, some (.int (f : Nat)), some (.int (b : Nat)), x5, x6, x7, x8, x9, x10, x11, x12, x13, x14, x15, x16, x17, x18] S2 = some (.ok (tupN (f + 1, b)) S2) := tup2_at f1 v4
    have l5 := lst3_at (tup2_at h12 hfb) (tup2_at h12 hgb) (tup2_at hfb hgb)
    have s5 := asg_at (t := .name 5) (ρ1 := [x0, some (.ref j), x2, some (.int (f : Nat)), some (.int (b : Nat)), some (.ref S2.length), x6, x7, x8, x9, x10, x11, x12, x13, x14, x15, x16, x17, x18]) l5 (by simp [putT])
    have sm : ∀ k : Nat, k ≤ 2 * f + 2 → k < 2 ^ 1400 := big
    have q1 : SmN (1, 2) := ⟨big 1 (by omega), Nat.lt_of_lt_of_le (show 2 < 2 ^ 2 by decide) (Nat.pow_le_pow_right (by decide) (by decide))⟩
    have q2 : SmN (f, b) := ⟨big f (by omega), big b (by omega)⟩
    have q3 : SmN (f + 1, b) := ⟨big (f + 1) (by omega), big b (by omega)⟩
    generalize hS3 : S2 ++ [MO.lst true [.tup [tupN (1, 2), tupN (f, b)], .tup [tupN (1, 2), tupN (f + 1, b)], .tup [tupN (f, b), tupN (f + 1, b)]]] = S3 at s5
    have at5 : S3[S2.length]? = some (.lst true [.tup [tupN (1, 2), tupN (f, b)], .tup [tupN (1, 2), tupN (f + 1, b)], .tup [tupN (f, b), tupN (f + 1, b)]]) := by rw [← hS3]; simp
    have hst : Itr.stays ⟨[.tup [tupN (1, 2), tupN (f, b)], .tup [tupN (1, 2), tupN (f + 1, b)], .tup [tupN (f, b), tupN (f + 1, b)]], [(S2.length, [.tup [tupN (1, 2), tupN (f, b)], .tup [tupN (1, 2), tupN (f + 1, b)], .tup [tupN (f, b), tupN (f + 1, b)]])]⟩ S3 := fun m us q => by
      rw [List.mem_singleton] at q
      cases q
      exact ⟨true, at5⟩
    obtain ⟨y9, y10, y11, h6⟩ := near_loop hst [.tup [tupN (1, 2), tupN (f, b)], .tup [tupN (1, 2), tupN (f + 1, b)], .tup [tupN (f, b), tupN (f + 1, b)]] (fun w hw => by
      simp only [List.mem_cons, List.not_mem_nil, or_false] at hw
      rcases hw with rfl | rfl | rfl
      · exact ⟨_, _, rfl, q1, q2⟩
      · exact ⟨_, _, rfl, q1, q3⟩
      · exact ⟨_, _, rfl, q2, q3⟩) x0 (some (.ref j)) x2 (some (.int (f : Nat))) (some (.int (b : Nat))) (some (.ref S2.length)) x6 x7 x8 x9 x10 x11 x12 x13 x14 x15 x16 x17 x18
    have s6 : runS G (callAt G Fs 39) T6 [x0, some (.ref j), x2, some (.int (f : Nat)), some (.int (b : Nat)), some (.ref S2.length), x6, x7, x8, x9, x10, x11, x12, x13, x14, x15, x16, x17, x18] S3 = some (.next [x0, some (.ref j), x2, some (.int (f : Nat)), some (.int (b : Nat)), some (.ref S2.length), x6, x7, x8, y9, y10, y11, x12, x13, x14, x15, x16, x17, x18] S3) := by
      rw [t6_is]
      simp only [runS, runI, runE, List.getElem?_cons_zero, List.getElem?_cons_succ, okW_eq, Rs.bind_ok, at5, thenS_ok]
      exact h6
    generalize hρ : [x0, some (W.ref j), x2, some (W.int (f : Nat)), some (W.int (b : Nat)), some (W.ref S2.length), x6, x7, x8, y9, y10, y11, x12, x13, x14, x15, x16, x17, x18] = ρ6 at s6
    have hl6 : ρ6.length = 19 := by rw [← hρ]; rfl
    have ri : runI G (callAt G Fs 39) (.rng2 (.cst (.int 4)) (.cst (.int 10))) ρ6 S3 = some (.ok ⟨rangeW 4 10, []⟩ S3) := rng2_at cst_at cst_at (by decide) (by decide)
    have er : rangeW 4 10 = ([4, 5, 6, 7, 8, 9] : List Int).map W.int := rfl
    have cl := six_loop (O := callAt G Fs 39) (stays := Itr.stays ⟨rangeW 4 10, []⟩) (fun S n ws q => by cases q) (S0 := S3) (ρ := wipeE ρ6 [18]) (by rw [← hρ]; rfl) [4, 5, 6, 7, 8, 9] [] (by simp)
    have ce : runE G (callAt G Fs 39) (.comp cE (.name 18) (.rng2 (.cst (.int 4)) (.cst (.int 10))) .none [18]) ρ6 S3 = some (.ok (.ref S3.length) (S3 ++ [MO.lst true sixW])) := by
      conv => lhs; unfold runE
      rw [ri]
      simp only [Rs.bind_ok]
      rw [er] at cl ⊢
      exact cl
    have te : runE G (callAt G Fs 39) (.blt .tuple (.cons (.comp cE (.name 18) (.rng2 (.cst (.int 4)) (.cst (.int 10))) .none [18]) .nil)) ρ6 S3 = some (.ok (.tup sixW) (S3 ++ [MO.lst true sixW])) := by
      have : bltW (S3 ++ [MO.lst true sixW]) .tuple [.ref S3.length] = some (.ok (.tup sixW) (S3 ++ [MO.lst true sixW])) := by simp [bltW]
      rw [blt_one, ce]
      exact this
    generalize S3 ++ [MO.lst true sixW] = S4 at te
    have s7 := asg_at (t := .name 6) (ρ1 := ρ6.set 6 (some (.tup [.str "die", .tup sixW]))) (tup2_at (cst_at (w := .str "die")) te) (by unfold putT; rw [if_pos (by omega)])
    have v6 : runE G (callAt G Fs 39) (.var 6) (ρ6.set 6 (some (.tup [.str "die", .tup sixW]))) S4 = some (.ok (.tup [.str "die", .tup sixW]) S4) := var_at (by rw [List.getElem?_set_self (by omega)])
    have d1 := die9 (d := 34) (S := S4) (six_ok six_all)
    rw [six_due'] at d1
    have c1 := call1_at v6 d1
    have x61 : runE G (callAt G Fs 39) (.idx (.var 6) (.cst (.int 1))) (ρ6.set 6 (some (.tup [.str "die", .tup sixW]))) S4 = some (.ok (.tup sixW) S4) := idx_at (k := 1) v6 rfl
    have t9 : runE G (callAt G Fs 39) (.tup (.cons (.tup (.cons (.cst (.int 9)) (.cons (.tup (.cons (.cst (.int 1)) (.cons (.cst (.int 6)) .nil))) .nil))) .nil)) (ρ6.set 6 (some (.tup [.str "die", .tup sixW]))) S4 = some (.ok (.tup [sd 9]) S4) := by
      have z1 : 1 ≤ sizeLine := by decide
      have := tup2_at (G := G) (O := callAt G Fs 39) (ρ := ρ6.set 6 (some (.tup [.str "die", .tup sixW]))) (S := S4) (cst_at (w := .int 9)) (tup2_at (cst_at (w := .int 1)) (cst_at (w := .int 6)))
      conv => lhs; unfold runE
      unfold runEs
      rw [this]
      simp only [Rs.bind_ok]
      unfold runEs
      simp [z1]
      rfl
    have pl : runE G (callAt G Fs 39) (.bin .add (.idx (.var 6) (.cst (.int 1))) (.tup (.cons (.tup (.cons (.cst (.int 9)) (.cons (.tup (.cons (.cst (.int 1)) (.cons (.cst (.int 6)) .nil))) .nil))) .nil))) (ρ6.set 6 (some (.tup [.str "die", .tup sixW]))) S4 = some (.ok (.tup (sixW ++ [sd 9])) S4) := by
      have z7 : sixW.length + [sd 9].length ≤ sizeLine := by show 7 ≤ sizeLine; decide
      conv => lhs; unfold runE
      rw [x61]
      simp only [Rs.bind_ok, t9]
      rw [op2_tup z7]
    have d2 := die9 (d := 34) (S := S4) (V := .tup [.str "die", .tup (sixW ++ [sd 9])]) (six_ok fun w hw => by
      rcases List.mem_append.mp hw with hw | hw
      · exact six_all w hw
      · rw [List.mem_singleton] at hw
        exact ⟨9, hw⟩)
    rw [sev_due] at d2
    have c2 := call1_at (tup2_at (cst_at (w := .str "die")) pl) d2
    obtain ⟨T, hT⟩ := repr2
    have l8 := lst2_at c1 c2
    have r8 := rp_at l8 (hT _ _ (by simp))
    have l9 := lst2_at (O := callAt G Fs 39) (ρ := ρ6.set 6 (some (.tup [.str "die", .tup sixW]))) (S := S4 ++ [MO.lst true [.non, .str "form"]]) (cst_at (w := .non)) (cst_at (w := .str "form"))
    have r9 := rp_at l9 (hT _ _ (by simp))
    have fin := ret_at (r := .nil) (cmpE2_at r8 r9)
    exact ⟨_, by rw [seq_next s3, seq_next s4, seq_next s5, seq_next s6, seq_next s7]; exact fin⟩
theorem law_true : LawTrue G Fs 40 26 63 := by
  intro ns hns
  obtain ⟨j, l, S, h1, h2⟩ := jar_run hns
  obtain ⟨ρ1, S1, h3, j3, l3, p3⟩ := outer (j := j) (l := l) (stays := Itr.stays ⟨rangeW 0 9, []⟩) (fun S n ws q => by cases q) (rangeW 0 9) (fun w hw => by
    unfold rangeW at hw
    obtain ⟨k, hk, rfl⟩ := List.mem_map.mp hw
    have := List.mem_range.mp hk
    refine ⟨_, rfl, ?_, ?_⟩ <;> omega) ((startE 19 [.ref 0]).set 1 (some (.ref j))) S h2 rfl rfl
  obtain ⟨S3, h5⟩ := tail_ok j3 l3 p3
  refine ⟨S3, ?_⟩
  have e : callAt G Fs 40 26 [.ref 0] [.lst false (ns.map .int)] = backW (runSs G (callAt G Fs 39) f26.body (startE 19 [.ref 0]) [.lst false (ns.map .int)]) := by
    conv => lhs; unfold callAt
    rfl
  have a1 : runS G (callAt G Fs 39) (.asg (.name 1) (.call 10 (.cons (.var 0) .nil) .nil [])) (startE 19 [.ref 0]) [.lst false (ns.map .int)] = some (.next ((startE 19 [.ref 0]).set 1 (some (.ref j))) S) := by
    have v0 : (startE 19 [.ref 0])[0]? = some (some (.ref 0)) := rfl
    simp only [runS, runE, runEs, v0, okW_eq, Rs.bind_ok, List.filterMap_nil, List.append_nil, h1, thenS_ok]
    rfl
  have a2 : runS G (callAt G Fs 39) (.for_ (.name 2) (.rng1 (.cst (.int 9))) TB) ((startE 19 [.ref 0]).set 1 (some (.ref j))) S = some (.next ρ1 S1) := by
    have b : (-(2 : Int) ^ 62 ≤ 9 ∧ (9 : Int) < 2 ^ 62) := by decide
    simp only [runS, runI, runE, okW_eq, Rs.bind_ok, b, if_true, thenS_ok]
    exact h3
  rw [e, f26_body, seq_next a1, seq_next a2, h5]
  rfl
end K03
open PySem PySem.W PyProof.Rows
set_option maxRecDepth 100000 in
set_option maxHeartbeats 0 in
theorem PySem.Challenge.cw_everystart_k03_what_dice_are_holds : PySem.Challenge.rw_everystart_k03_what_dice_are.Holds := by
  w_on; o_law; k_head; (case hw => w_witness2)
  k_fill
  refine Co.walkG (l := PySem.Challenge.rw_everystart_k03_what_dice_are) (n := 63) (d := 40) (i := 26) (P := K03.P) (G := K03.G) (F := K03.Fs) (law := "law") (x := "script") rfl (by decide) rfl ⟨rfl, by decide, by decide⟩ rfl rfl K03.law_true (fun w h Y => PySem.W.kIn_of Y) (fun _ => rfl) (by decide +kernel) ?F
  case F =>
    intro w mg h KX G
    refine' K03.all_mk KX G ?a0 ?l0 ?c0 ?k0 ?a1 ?l1 ?c1 ?k1 ?a2 ?l2 ?c2 ?k2 ?a3 ?l3 ?c3 ?k3 ?a4 ?l4 ?c4 ?k4 ?a5 ?l5 ?c5 ?k5 ?a6 ?l6 ?c6 ?k6 ?a7 ?l7 ?c7 ?k7 ?a8 ?l8 ?c8 ?k8 ?a9 ?l9 ?c9 ?k9 ?a10 ?l10 ?c10 ?k10 ?a11 ?l11 ?c11 ?k11 ?a12 ?l12 ?c12 ?k12 ?a13 ?l13 ?c13 ?k13 ?a14 ?l14 ?c14 ?k14 ?a15 ?l15 ?c15 ?k15 ?a16 ?l16 ?c16 ?k16 ?a17 ?l17 ?c17 ?k17 ?a18 ?l18 ?c18 ?k18 ?a19 ?l19 ?c19 ?k19 ?a20 ?l20 ?c20 ?k20 ?a21 ?l21 ?c21 ?k21 ?a22 ?l22 ?c22 ?k22 ?a23 ?l23 ?c23 ?k23 ?a24 ?l24 ?c24 ?k24 ?a25 ?l25 ?c25 ?k25 ?a26 ?l26 ?c26 ?k26 ?z0 ?z1 ?z2 ?z3 ?z4 ?z5 ?z6 ?z7 ?z8 ?z9 ?z10 ?z11 ?z12 ?z13 ?z14 ?z15 ?z16 ?glo0 ?glo1
    (case a0 => k_is); (case l0 => k_is); (case c0 => k_is); (case k0 => k_is)
    (case a1 => k_is); (case l1 => k_is); (case c1 => k_is); (case k1 => k_is)
    (case a2 => k_is); (case l2 => k_is); (case c2 => k_is); (case k2 => k_is)
    (case a3 => k_is); (case l3 => k_is); (case c3 => k_is); (case k3 => k_is)
    (case a4 => k_is); (case l4 => k_is); (case c4 => k_is); (case k4 => k_is)
    (case a5 => k_is); (case l5 => k_is); (case c5 => k_is); (case k5 => k_is)
    (case a6 => k_is); (case l6 => k_is); (case c6 => k_is); (case k6 => k_is)
    (case a7 => k_is); (case l7 => k_is); (case c7 => k_is); (case k7 => k_is)
    (case a8 => k_is); (case l8 => k_is); (case c8 => k_is); (case k8 => k_is)
    (case a9 => k_is); (case l9 => k_is); (case c9 => k_is); (case k9 => k_is)
    (case a10 => k_is); (case l10 => k_is); (case c10 => k_is); (case k10 => k_is)
    (case a11 => k_is); (case l11 => k_is); (case c11 => k_is); (case k11 => k_is)
    (case a12 => k_is); (case l12 => k_is); (case c12 => k_is); (case k12 => k_is)
    (case a13 => k_is); (case l13 => k_is); (case c13 => k_is); (case k13 => k_is)
    (case a14 => k_is); (case l14 => k_is); (case c14 => k_is); (case k14 => k_is)
    (case a15 => k_is); (case l15 => k_is); (case c15 => k_is); (case k15 => k_is)
    (case a16 => k_is); (case l16 => k_is); (case c16 => k_is); (case k16 => k_is)
    (case a17 => k_is); (case l17 => k_is); (case c17 => k_is); (case k17 => k_is)
    (case a18 => k_is); (case l18 => k_is); (case c18 => k_is); (case k18 => k_is)
    (case a19 => k_is); (case l19 => k_is); (case c19 => k_is); (case k19 => k_is)
    (case a20 => k_is); (case l20 => k_is); (case c20 => k_is); (case k20 => k_is)
    (case a21 => k_is); (case l21 => k_is); (case c21 => k_is); (case k21 => k_is)
    (case a22 => k_is); (case l22 => k_is); (case c22 => k_is); (case k22 => k_is)
    (case a23 => k_is); (case l23 => k_is); (case c23 => k_is); (case k23 => k_is)
    (case a24 => k_is); (case l24 => k_is); (case c24 => k_is); (case k24 => k_is)
    (case a25 => k_is); (case l25 => k_is); (case c25 => k_is); (case k25 => k_is)
    (case a26 => k_is); (case l26 => k_is); (case c26 => k_is); (case k26 => k_is)
    (case z0 => k_is)
    (case z1 => k_is)
    (case z2 => k_is)
    (case z3 => k_is)
    (case z4 => k_is)
    (case z5 => k_is)
    (case z6 => k_is)
    (case z7 => k_is)
    (case z8 => k_is)
    (case z9 => k_is)
    (case z10 => k_is)
    (case z11 => k_is)
    (case z12 => k_is)
    (case z13 => k_is)
    (case z14 => k_is)
    (case z15 => k_is)
    (case z16 => k_is)
    (case glo0 => k_is)
    (case glo1 => k_is)
