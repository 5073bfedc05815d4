import PyProof.Rows.All
import Wide.All
import OpenK.AllK
import Wide.FinOn
import PyProof.ReprReads
import PyProof.EqLayable
import PyProof.ReprText
import PyProof.FitsInt
import PyProof.StrLawsRepr
import HandS.ForMost
import HandS.Deep
import HandS.TupAny
import HandS.TupMul
import HandS.Wide
import HandS.Zip
import HandS.IsInst
import HandS.Style
import HandS.EndBits
import HandS.Star
import HandS.WideBits
import HandS.SortInts
import HandS.SetFor
import HandS.Strs
import HandS.Flow
import HandS.Text
import KE.GoesMore
import PySem.Challenge.RW_latewires_k34_whole_within_for_promised
section
set_option autoImplicit false
/-! The pure layer: Python values without a heap, lists as cells of a small memory, defs as functions. -/
namespace PL
open PySem
/-- a value: tuples are data, a list (or dict) is a cell of the memory, cst: an object of the module by its address -/
inductive PV where
  | non | bl (b : Bool) | int (i : Int) | str (x : Str) | tup (l : List PV) | ref (n : Nat) | cst (a : Nat)
deriving Inhabited
/-- a cell -/
inductive PO where
  | lst (l : List PV) | ro (l : List PV) | dct (kvs : List (Sum Int Str × PV))
deriving Inhabited
abbrev Mem := List PO
abbrev Env := List (Option PV)
/-- an exception: its class by name, what it keeps -/
structure PX where
  cls : Str
  fs : List (Str × PV)
inductive Res (α : Type) where
  | ok (a : α) (μ : Mem) | exc (c : PX) (μ : Mem) | stuck
namespace Res
variable {α β : Type}
def bind (r : Res α) (k : α → Mem → Res β) : Res β := match r with | .ok a μ => k a μ | .exc c μ => .exc c μ | .stuck => .stuck
@[simp] theorem bind_ok (a : α) (μ : Mem) (k : α → Mem → Res β) : (Res.ok a μ).bind k = k a μ := id rfl
@[simp] theorem bind_exc (c : PX) (μ : Mem) (k : α → Mem → Res β) : (Res.exc c μ : Res α).bind k = .exc c μ := id rfl
@[simp] theorem bind_stuck (k : α → Mem → Res β) : (Res.stuck : Res α).bind k = .stuck := id rfl
end Res
abbrev Ex := Env → Mem → Res PV
abbrev Fn := List PV → Mem → Res PV
abbrev Ag := Env → Mem → Res (List PV)
abbrev SL : Nat := 16777216
/-! ### expressions -/
def v (i : Nat) : Ex := fun env μ => match env[i]? with | some (some p) => .ok p μ | _ => .stuck
def c (p : PV) : Ex := fun _ μ => .ok p μ
def an : Ag := fun _ μ => .ok [] μ
def ac (a : Ex) (r : Ag) : Ag := fun env μ => (a env μ).bind fun p μ1 => (r env μ1).bind fun ps μ2 => .ok (p :: ps) μ2
/-- *a, .. -/
def acs (a : Ex) (r : Ag) : Ag := fun env μ => (a env μ).bind fun p μ1 => match p with
  | .tup l => (r env μ1).bind fun ps μ2 => .ok (l ++ ps) μ2
  | .ref n => match μ1[n]? with | some (.lst l) => (r env μ1).bind fun ps μ2 => .ok (l ++ ps) μ2 | _ => .stuck
  | _ => .stuck
def app (f : Fn) (as : Ag) : Ex := fun env μ => (as env μ).bind fun ps μ1 => f ps μ1
def app1 (f : Fn) (a : Ex) : Ex := fun env μ => (a env μ).bind fun p μ1 => f [p] μ1
/-- the receiver of a method: a list, a text, a dict -/
inductive Kd where | list | str | dict
def isKd (k : Kd) (μ : Mem) (p : PV) : Bool := match k, p with
  | .str, .str _ => true
  | .list, .ref n => match μ[n]? with | some (.lst _) => true | _ => false
  | .dict, .ref n => match μ[n]? with | some (.dct _) => true | _ => false
  | _, _ => false
def mth (k : Kd) (f : Fn) (o : Ex) (g : Ag) : Ex := fun env μ => (o env μ).bind fun p μ1 => if isKd k μ1 p = true then (g env μ1).bind fun ps μ2 => f (p :: ps) μ2 else .stuck
def app2 (f : Fn) (a b : Ex) : Ex := fun env μ => (a env μ).bind fun p μ1 => (b env μ1).bind fun q μ2 => f [p, q] μ2
def app3 (f : Fn) (a b d : Ex) : Ex := fun env μ => (a env μ).bind fun p μ1 => (b env μ1).bind fun q μ2 => (d env μ2).bind fun r μ3 => f [p, q, r] μ3
/-- what follows a truth value -/
def onB {α : Type} (p : PV) (a b : Res α) : Res α := match p with | .bl true => a | .bl false => b | _ => .stuck
@[simp] theorem onB_true {α : Type} (a b : Res α) : onB (.bl true) a b = a := id rfl
@[simp] theorem onB_false {α : Type} (a b : Res α) : onB (.bl false) a b = b := id rfl
theorem onB_bl {α : Type} (t : Bool) (a b : Res α) : onB (.bl t) a b = if t = true then a else b := by cases t <;> rfl
def asB (p : PV) (μ : Mem) : Res Bool := match p with | .bl b => .ok b μ | _ => .stuck
theorem onB_asB {α : Type} (p : PV) (μ : Mem) (a b : Res α) : onB p a b = (asB p μ).bind fun t _ => if t = true then a else b := by
  cases p with
  | bl t => cases t <;> rfl
  | _ => rfl
def ite (t a b : Ex) : Ex := fun env μ => (t env μ).bind fun p μ1 => onB p (a env μ1) (b env μ1)
def and (a b : Ex) : Ex := fun env μ => (a env μ).bind fun p μ1 => onB p (b env μ1) (.ok (.bl false) μ1)
def or (a b : Ex) : Ex := fun env μ => (a env μ).bind fun p μ1 => onB p (.ok (.bl true) μ1) (b env μ1)
def chain (f g : Fn) (a b d : Ex) : Ex := fun env μ => (a env μ).bind fun p μ1 => (b env μ1).bind fun q μ2 => (f [p, q] μ2).bind fun t μ3 =>
  onB t ((d env μ3).bind fun r μ4 => g [q, r] μ4) (.ok (.bl false) μ3)
/-! ### targets -/
abbrev Tg := PV → Env → Mem → Res Env
abbrev Tgs := List PV → Env → Mem → Res Env
def tn (i : Nat) : Tg := fun p env μ => .ok (env.set i (some p)) μ
def t0 : Tgs := fun ps env μ => match ps with | [] => .ok env μ | _ => .stuck
def tc (g : Tg) (r : Tgs) : Tgs := fun ps env μ => match ps with | p :: qs => (g p env μ).bind fun e μ1 => r qs e μ1 | [] => .stuck
def tt (n : Nat) (r : Tgs) : Tg := fun p env μ => match p with
  | .tup l => if l.length = n then r l env μ else .stuck
  | .ref k => match μ[k]? with | some (.lst l) => if l.length = n then r l env μ else .stuck | _ => .stuck
  | _ => .stuck
def tsub (f : Fn) (o i : Ex) : Tg := fun p env μ => (o env μ).bind fun x μ1 => (i env μ1).bind fun y μ2 => (f [x, y, p] μ2).bind fun _ μ3 => .ok env μ3
/-! ### statements -/
inductive Out where
  | nx (env : Env) (μ : Mem) | rt (p : PV) (μ : Mem) | bk (env : Env) (μ : Mem) | ct (env : Env) (μ : Mem) | exc (c : PX) (μ : Mem) | stuck
def Out.of {α : Type} (r : Res α) (k : α → Mem → Out) : Out := match r with | .ok a μ => k a μ | .exc c μ => .exc c μ | .stuck => .stuck
@[simp] theorem Out.of_ok {α : Type} (a : α) (μ : Mem) (k : α → Mem → Out) : Out.of (.ok a μ) k = k a μ := id rfl
@[simp] theorem Out.of_exc {α : Type} (c : PX) (μ : Mem) (k : α → Mem → Out) : Out.of (.exc c μ : Res α) k = .exc c μ := id rfl
@[simp] theorem Out.of_stuck {α : Type} (k : α → Mem → Out) : Out.of (.stuck : Res α) k = .stuck := id rfl
def Out.then (o : Out) (k : Env → Mem → Out) : Out := match o with | .nx e m => k e m | o => o
@[simp] theorem Out.then_nx (e : Env) (m : Mem) (k : Env → Mem → Out) : (Out.nx e m).then k = k e m := id rfl
@[simp] theorem Out.then_rt (p : PV) (m : Mem) (k : Env → Mem → Out) : (Out.rt p m).then k = .rt p m := id rfl
@[simp] theorem Out.then_bk (e : Env) (m : Mem) (k : Env → Mem → Out) : (Out.bk e m).then k = .bk e m := id rfl
@[simp] theorem Out.then_ct (e : Env) (m : Mem) (k : Env → Mem → Out) : (Out.ct e m).then k = .ct e m := id rfl
@[simp] theorem Out.then_exc (x : PX) (m : Mem) (k : Env → Mem → Out) : (Out.exc x m).then k = .exc x m := id rfl
@[simp] theorem Out.then_stuck (k : Env → Mem → Out) : (Out.stuck).then k = .stuck := id rfl
abbrev Sm := Env → Mem → Out
/-- what this layer does not follow -/
def stuckS : Sm := fun _ _ => .stuck
def skip : Sm := fun env μ => .nx env μ
def brk : Sm := fun env μ => .bk env μ
def cnt : Sm := fun env μ => .ct env μ
def seq (a b : Sm) : Sm := fun env μ => (a env μ).then b
def exp (e : Ex) : Sm := fun env μ => .of (e env μ) fun _ μ1 => .nx env μ1
def ret (e : Ex) : Sm := fun env μ => .of (e env μ) fun p μ1 => .rt p μ1
def onS (p : PV) (a b : Out) : Out := match p with | .bl true => a | .bl false => b | _ => .stuck
@[simp] theorem onS_true (a b : Out) : onS (.bl true) a b = a := id rfl
@[simp] theorem onS_false (a b : Out) : onS (.bl false) a b = b := id rfl
theorem onS_bl (t : Bool) (a b : Out) : onS (.bl t) a b = if t = true then a else b := by cases t <;> rfl
def cond (t : Ex) (a b : Sm) : Sm := fun env μ => .of (t env μ) fun p μ1 => onS p (a env μ1) (b env μ1)
def asg (g : Tg) (e : Ex) : Sm := fun env μ => .of (e env μ) fun p μ1 => .of (g p env μ1) fun e2 μ2 => .nx e2 μ2
def setv (i : Nat) (e : Ex) : Sm := fun env μ => .of (e env μ) fun p μ1 => .nx (env.set i (some p)) μ1
def par (i j : Nat) (a b : Ex) : Sm := fun env μ => .of (a env μ) fun p μ1 => .of (b env μ1) fun q μ2 => .nx ((env.set i (some p)).set j (some q)) μ2
def par3 (i j k : Nat) (a b d : Ex) : Sm := fun env μ => .of (a env μ) fun p μ1 => .of (b env μ1) fun q μ2 => .of (d env μ2) fun r μ3 => .nx (((env.set i (some p)).set j (some q)).set k (some r)) μ3
/-! ### loops -/
/-- what is walked: the items, the list cells that must stay as they are -/
structure Its where
  items : List PV
  lk : List (Nat × List PV)
abbrev It := Env → Mem → Res Its
def locked (lk : List (Nat × List PV)) (μ : Mem) : Prop := ∀ x ∈ lk, μ[x.1]? = some (.lst x.2) ∨ μ[x.1]? = some (.ro x.2)
theorem locked_nil (μ : Mem) : locked [] μ := fun _ h => (nomatch h)
open Classical in
noncomputable def forN (lk : List (Nat × List PV)) (g : Tg) (body : Sm) : List PV → Env → Mem → Out
  | [], env, μ => if locked lk μ then .nx env μ else .stuck
  | p :: ps, env, μ => if locked lk μ then .of (g p env μ) fun e1 μ1 => match body e1 μ1 with
      | .nx e m => forN lk g body ps e m
      | .ct e m => forN lk g body ps e m
      | .bk e m => .nx e m
      | o => o
    else .stuck
noncomputable def forS (it : It) (g : Tg) (body : Sm) : Sm := fun env μ => .of (it env μ) fun z μ1 => forN z.lk g body z.items env μ1
def whileN (t : Ex) (body : Sm) : Nat → Env → Mem → Out
  | 0, _, _ => .stuck
  | n + 1, env, μ => .of (t env μ) fun p μ1 => onS p (match body env μ1 with
      | .nx e m => whileN t body n e m
      | .ct e m => whileN t body n e m
      | .bk e m => .nx e m
      | o => o) (.nx env μ1)
def fuel : Nat := 100000000
def whileS (t : Ex) (body : Sm) : Sm := fun env μ => whileN t body fuel env μ
/-! ### comprehensions -/
def wipe (env : Env) : List Nat → Env
  | [] => env
  | i :: is => (wipe env is).set i none
def push1 (n : Nat) (p : PV) (μ : Mem) : Option Mem := match μ[n]? with
  | some (.lst l) => if l.length < SL then some (μ.set n (.lst (l ++ [p]))) else none
  | _ => none
/- n: the cell of the list that is made -/
open Classical in
noncomputable def lcN (lk : List (Nat × List PV)) (g : Tg) (t e : Ex) (vs : List Nat) (n : Nat) (env : Env) : List PV → Mem → Res Unit
  | [], μ => if locked lk μ then .ok () μ else .stuck
  | p :: ps, μ => if locked lk μ then (g p (wipe env vs) μ).bind fun e1 μ1 => (t e1 μ1).bind fun b μ2 =>
      onB b ((e e1 μ2).bind fun q μ3 => match push1 n q μ3 with
        | some μ4 => lcN lk g t e vs n env ps μ4
        | none => .stuck) (lcN lk g t e vs n env ps μ2)
    else .stuck
noncomputable def lc (it : It) (g : Tg) (t e : Ex) (vs : List Nat) : Ex := fun env μ => (it env μ).bind fun z μ1 =>
  (lcN z.lk g t e vs μ1.length env z.items (μ1 ++ [.lst []])).bind fun _ μ2 => .ok (.ref μ1.length) μ2
def yes : Ex := c (.bl true)
/-! ### values -/
mutual
def PV.under (n : Nat) : PV → Bool
  | .non => true | .bl _ => true | .int _ => true | .str _ => true | .cst _ => true
  | .tup l => PV.unders n l
  | .ref k => decide (k < n)
def PV.unders (n : Nat) : List PV → Bool
  | [] => true
  | p :: ps => PV.under n p && PV.unders n ps
end
def PO.under (n : Nat) : PO → Bool
  | .lst l => PV.unders n l
  | .ro l => PV.unders n l
  | .dct kvs => PV.unders n (kvs.map (·.2))
/-- what a def's own lists leave behind goes, where nothing speaks of it -/
def GcOk (μ : Mem) (p : PV) (m : Mem) : Prop := μ.length ≤ m.length ∧ p.under μ.length = true ∧ ∀ i, i < μ.length → m[i]? = μ[i]? ∨ ∃ o, m[i]? = some o ∧ o.under μ.length = true
open Classical in
noncomputable def gc (μ : Mem) (r : Res PV) : Res PV := match r with
  | .ok p m => if GcOk μ p m then .ok p (m.take μ.length) else .ok p m
  | r => r
/-- a body's end as a call's result -/
def Out.res : Out → Res PV
  | .rt p m => .ok p m
  | .nx _ m => .ok .non m
  | .exc x m => .exc x m
  | _ => .stuck
def run (n : Nat) (b : Sm) : Fn := fun args μ => (b (args.map some ++ List.replicate (n - args.length) none) μ).res
/-- a def of so many names with a body -/
noncomputable def fn (n : Nat) (b : Sm) : Fn := fun args μ => gc μ (run n b args μ)
/-! ### what is read of the memory -/
mutual
def PV.conv (r : Nat → Option PyData) : PV → Option PyData
  | .non => some .none
  | .bl b => some (.bool b)
  | .int i => some (.int i)
  | .str x => some (.str x)
  | .tup l => (PV.convs r l).map .tuple
  | .ref n => r n
  | .cst _ => none
def PV.convs (r : Nat → Option PyData) : List PV → Option (List PyData)
  | [] => some []
  | p :: ps => (PV.conv r p).bind fun d => (PV.convs r ps).map fun ds => d :: ds
end
def toDn (μ : Mem) : Nat → PV → Option PyData
  | 0 => PV.conv fun _ => none
  | n + 1 => PV.conv fun k => match μ[k]? with
    | some (.lst l) => (PV.convs (fun j => toDn μ n (.ref j)) l).map .list
    | some (.ro l) => (PV.convs (fun j => toDn μ n (.ref j)) l).map .list
    | _ => none
def toD (μ : Mem) (p : PV) : Option PyData := toDn μ 5 p
def getL (μ : Mem) (p : PV) : Option (List PV) := match p with
  | .ref n => match μ[n]? with | some (.lst l) => some l | some (.ro l) => some l | _ => none
  | .tup l => some l
  | _ => none
/-! ### operations -/
def mulOk (i j : Int) : Prop := (-(2 ^ 64) < i ∧ i < 2 ^ 64) ∨ (-(2 ^ 64) < j ∧ j < 2 ^ 64) ∨ i.natAbs.log2 + j.natAbs.log2 < 1000000
instance (i j : Int) : Decidable (mulOk i j) := by unfold mulOk; infer_instance
def divOk (j : Int) : Prop := 0 < j ∧ j.natAbs.log2 < 9000
instance (j : Int) : Decidable (divOk j) := by unfold divOk; infer_instance
def newL (l : List PV) (μ : Mem) : Res PV := .ok (.ref μ.length) (μ ++ [.lst l])
def fTup : Fn := fun ps μ => if ps.length ≤ SL then .ok (.tup ps) μ else .stuck
def fLst : Fn := fun ps μ => if ps.length ≤ SL then newL ps μ else .stuck
def fAdd : Fn
  | [.int i, .int j], μ => .ok (.int (i + j)) μ
  | [.str a, .str b], μ => if a.length + b.length ≤ SL then .ok (.str (a ++ b)) μ else .stuck
  | [.tup a, .tup b], μ => if a.length + b.length ≤ SL then .ok (.tup (a ++ b)) μ else .stuck
  | [.ref a, .ref b], μ => match μ[a]?, μ[b]? with
    | some (.lst xs), some (.lst ys) => if xs.length + ys.length ≤ SL then newL (xs ++ ys) μ else .stuck
    | _, _ => .stuck
  | _, _ => .stuck
def fSub : Fn
  | [.int i, .int j], μ => .ok (.int (i - j)) μ
  | _, _ => .stuck
def fMul : Fn
  | [.int i, .int j], μ => if mulOk i j then .ok (.int (i * j)) μ else .stuck
  | [.ref a, .int k], μ => match μ[a]? with
    | some (.lst xs) => if -(2 ^ 63) ≤ k ∧ k < 2 ^ 63 ∧ xs.length * k.toNat ≤ SL then newL (List.replicate k.toNat xs).flatten μ else .stuck
    | _ => .stuck
  | [.tup xs, .int k], μ => if xs ≠ [] ∧ 2 ≤ k ∧ k ≤ 1000 ∧ xs.length ≤ 1000 then .ok (.tup (List.replicate k.toNat xs).flatten) μ else .stuck
  | _, _ => .stuck
def fDiv : Fn
  | [.int i, .int j], μ => if divOk j then .ok (.int (i / j)) μ else .stuck
  | _, _ => .stuck
def fMod : Fn
  | [.int i, .int j], μ => if 0 < j then .ok (.int (i % j)) μ else .stuck
  | _, _ => .stuck
def fPow : Fn
  | [.int i, .int j], μ => if 0 ≤ j ∧ j ≤ 1000000 ∧ i.natAbs < 2 ^ 64 then .ok (.int (i ^ j.toNat)) μ else .stuck
  | _, _ => .stuck
def shlOk (i j : Int) : Prop := 0 ≤ j ∧ (Builtin.Int.intBits i : Int) + j ≤ 2 ^ 27
instance (i j : Int) : Decidable (shlOk i j) := by unfold shlOk; infer_instance
def fShl : Fn
  | [.int i, .int j], μ => if shlOk i j then .ok (.int (i * 2 ^ j.toNat)) μ else .stuck
  | _, _ => .stuck
def fShr : Fn
  | [.int i, .int j], μ => if 0 ≤ j then .ok (.int (i / 2 ^ j.toNat)) μ else .stuck
  | _, _ => .stuck
def fBAnd : Fn
  | [.int i, .int j], μ => .ok (.int (Builtin.bitAnd i j)) μ
  | _, _ => .stuck
def fBOr : Fn
  | [.int i, .int j], μ => .ok (.int (Builtin.bitOr i j)) μ
  | _, _ => .stuck
def fBXor : Fn
  | [.int i, .int j], μ => .ok (.int (Builtin.bitXor i j)) μ
  | _, _ => .stuck
def fNeg : Fn
  | [.int i], μ => .ok (.int (-i)) μ
  | _, _ => .stuck
def fNot : Fn
  | [.bl b], μ => .ok (.bl (!b)) μ
  | _, _ => .stuck
/-- two flat values of one kind, or None beside one -/
def scalP : PV → PV → Option Bool
  | .int i, .int j => some (decide (i = j))
  | .str x, .str y => some (decide (x = y))
  | .bl x, .bl y => some (decide (x = y))
  | _, _ => none
def eqR (μ : Mem) (p q : PV) : Option Bool := match scalP p q with
  | some b => some b
  | none => match toD μ p, toD μ q with
    | some d, some e => if SeqAt.shaped d = true ∧ SeqAt.shaped e = true then some (PyData.eqv d e) else none
    | _, _ => none
def fEq : Fn
  | [p, q], μ => match eqR μ p q with | some b => .ok (.bl b) μ | none => .stuck
  | _, _ => .stuck
def fNe : Fn
  | [p, q], μ => match eqR μ p q with | some b => .ok (.bl (!b)) μ | none => .stuck
  | _, _ => .stuck
def fLt : Fn
  | [.int i, .int j], μ => .ok (.bl (decide (i < j))) μ
  | _, _ => .stuck
def fLe : Fn
  | [.int i, .int j], μ => .ok (.bl (decide (i ≤ j))) μ
  | _, _ => .stuck
def fGt : Fn
  | [.int i, .int j], μ => .ok (.bl (decide (j < i))) μ
  | _, _ => .stuck
def fGe : Fn
  | [.int i, .int j], μ => .ok (.bl (decide (j ≤ i))) μ
  | _, _ => .stuck
def isNon : PV → Bool
  | .non => true
  | _ => false
def fIsN : Fn
  | [p, .non], μ => .ok (.bl (isNon p)) μ
  | _, _ => .stuck
def fNotN : Fn
  | [p, .non], μ => .ok (.bl (!isNon p)) μ
  | _, _ => .stuck
def flatP : PV → Bool
  | .non => true | .bl _ => true | .int _ => true | .str _ => true
  | _ => false
/-- == of flat values -/
def eqF : PV → PV → Bool
  | .non, .non => true
  | .bl a, .bl b => a == b
  | .bl a, .int b => (if a then 1 else 0) == b
  | .int a, .bl b => a == (if b then 1 else 0)
  | .int a, .int b => a == b
  | .str a, .str b => a == b
  | _, _ => false
def inDeep (μ : Mem) (p q : PV) : Option Bool := match q with
  | .ref _ => match toD μ p, toD μ q with
    | some d, some (.list es) => if SeqAt.shaped d = true ∧ SeqAt.shaped (.list es) = true then some (es.any fun z => PyData.eqv z d) else none
    | _, _ => none
  | _ => none
def inSeq (μ : Mem) (p q : PV) : Option Bool := match getL μ q with
  | some l => if flatP p = true ∧ l.all flatP = true then some (l.any fun z => eqF z p) else inDeep μ p q
  | none => none
def strPair (p q : PV) : Option (Str × Str) := match p, q with
  | .str x, .str y => some (x, y)
  | _, _ => none
def inStr (x y : Str) : Option Bool := match x.cps.toList with
  | [k] => some (decide (k ∈ y.cps.toList))
  | _ => none
def inR (μ : Mem) (p q : PV) : Option Bool := match strPair p q with
  | some z => inStr z.1 z.2
  | none => inSeq μ p q
def fIn : Fn
  | [p, q], μ => match inR μ p q with | some b => .ok (.bl b) μ | none => .stuck
  | _, _ => .stuck
def fNotIn : Fn
  | [p, q], μ => match inR μ p q with | some b => .ok (.bl (!b)) μ | none => .stuck
  | _, _ => .stuck
/-! places -/
def ixN (n : Nat) (i : Int) : Option Nat := if 0 ≤ i then (if i < n then some i.toNat else none) else if -(n : Int) ≤ i then some (i + n).toNat else none
def atI {α : Type} (xs : List α) (i : Int) : Option α := (ixN xs.length i).bind fun j => xs[j]?
def sIx (n d : Nat) : Option Int → Nat
  | none => d
  | some v => if v < 0 then (v + (n : Int)).toNat else min v.toNat n
def cut {α : Type} (xs : List α) (lo hi : Option Int) : List α := (xs.drop (sIx xs.length 0 lo)).take (sIx xs.length xs.length hi - sIx xs.length 0 lo)
def fIx : Fn
  | [.str z, .int i], μ => if z.length ≤ SL then match atI z.cps.toList i with | some k => .ok (.str ⟨#[k]⟩) μ | none => .stuck else .stuck
  | [p, .int i], μ => match getL μ p with
    | some l => match atI l i with | some q => .ok q μ | none => .stuck
    | none => .stuck
  | _, _ => .stuck
def optI : PV → Option (Option Int)
  | .non => some none
  | .int i => some (some i)
  | _ => none
def fSl : Fn
  | [p, lo, hi], μ => match optI lo, optI hi with
    | some lo, some hi => match p with
      | .tup l => .ok (.tup (cut l lo hi)) μ
      | .ref n => match getL μ (.ref n) with | some l => newL (cut l lo hi) μ | none => .stuck
      | .str z => if z.length ≤ SL then .ok (.str ⟨(cut z.cps.toList lo hi).toArray⟩) μ else .stuck
      | _ => .stuck
    | _, _ => .stuck
  | _, _ => .stuck
def fRev : Fn
  | [.tup l], μ => .ok (.tup l.reverse) μ
  | [.ref n], μ => match getL μ (.ref n) with | some l => newL l.reverse μ | none => .stuck
  | _, _ => .stuck
def fRevL : Fn
  | [.ref n], μ => fRev [.ref n] μ
  | [.tup l], μ => .ok (.tup l.reverse) μ
  | _, _ => .stuck
def fPart : Fn
  | [.int i], μ => .ok (.int i) μ
  | _, _ => .stuck
def onPart (q : PV) (m : Mem) : Res PV := match optI q with | some _ => .ok q m | none => .stuck
def sl (a lo hi : Ex) : Ex := fun env μ => (a env μ).bind fun p μ1 => ((lo env μ1).bind onPart).bind fun ql μ2 => ((hi env μ2).bind onPart).bind fun qh μ3 => fSl [p, ql, qh] μ3
/-- the values in the parameters' order -/
def perm {α : Type} (is : List Nat) (l : List α) : List α := is.filterMap (l[·]?)
def callK (m : Fn) (is : List Nat) (g gk : Ag) : Ex := fun env μ => (g env μ).bind fun as μ1 => (gk env μ1).bind fun bs μ2 => m (perm is (as ++ bs)) μ2
def fLen : Fn
  | [.str z], μ => if z.length ≤ SL then .ok (.int z.length) μ else .stuck
  | [p], μ => match getL μ p with | some l => .ok (.int l.length) μ | none => .stuck
  | _, _ => .stuck
def fInt : Fn
  | [.int i], μ => .ok (.int i) μ
  | [.bl b], μ => .ok (.int (if b then 1 else 0)) μ
  | _, _ => .stuck
def fAbs : Fn
  | [.int i], μ => .ok (.int (if i < 0 then -i else i)) μ
  | _, _ => .stuck
def intsOf : List PV → Option (List Int)
  | [] => some []
  | .int i :: r => (intsOf r).map fun is => i :: is
  | _ => none
def boolsOf : List PV → Option (List Bool)
  | [] => some []
  | .bl i :: r => (boolsOf r).map fun is => i :: is
  | _ => none
def maxL : Int → List Int → Int
  | m, [] => m
  | m, x :: xs => maxL (if x > m then x else m) xs
def minL : Int → List Int → Int
  | m, [] => m
  | m, x :: xs => minL (if x < m then x else m) xs
def fMax : Fn
  | [.int i, .int j], μ => .ok (.int (if j > i then j else i)) μ
  | [.ref n], μ => match (getL μ (.ref n)).bind intsOf with
    | some (i :: is) => .ok (.int (maxL i is)) μ
    | _ => .stuck
  | _, _ => .stuck
def fMin : Fn
  | [.int i, .int j], μ => .ok (.int (if j < i then j else i)) μ
  | [.ref n], μ => match (getL μ (.ref n)).bind intsOf with
    | some (i :: is) => .ok (.int (minL i is)) μ
    | _ => .stuck
  | _, _ => .stuck
def fSum : Fn
  | [.ref n], μ => match (getL μ (.ref n)).bind intsOf with
    | some is => .ok (.int is.sum) μ
    | _ => .stuck
  | _, _ => .stuck
def fAll : Fn
  | [.ref n], μ => match (getL μ (.ref n)).bind boolsOf with
    | some bs => .ok (.bl (bs.all id)) μ
    | _ => .stuck
  | _, _ => .stuck
def fAny : Fn
  | [.ref n], μ => match (getL μ (.ref n)).bind boolsOf with
    | some bs => .ok (.bl (bs.any id)) μ
    | _ => .stuck
  | _, _ => .stuck
def fTuple : Fn
  | [p], μ => match getL μ p with | some l => .ok (.tup l) μ | none => .stuck
  | _, _ => .stuck
def fList : Fn
  | [p], μ => match getL μ p with | some l => newL l μ | none => .stuck
  | _, _ => .stuck
def fStr : Fn
  | [.int i], μ => if i.natAbs.log2 < 1920 then .ok (.str (toString i : String)) μ else .stuck
  | _, _ => .stuck
def fRepr : Fn
  | [p], μ => match toD μ p with
    | some d => if d.showable = true ∧ d.shown.length ≤ SL ∧ d.depth ≤ 64 then .ok (.str d.shown) μ else .stuck
    | none => .stuck
  | _, _ => .stuck
/-- the builtin types that isinstance asks for -/
inductive Ty where | int | bool | str | tuple | list | dict
def Ty.isL : Ty → Bool | .list => true | _ => false
def Ty.isD : Ty → Bool | .dict => true | _ => false
def isTy (μ : Mem) : Ty → PV → Option Bool
  | .int, .int _ => some true | .int, .bl _ => some true
  | .int, .non => some false | .int, .str _ => some false | .int, .tup _ => some false
  | .bool, .bl _ => some true
  | .bool, .int _ => some false | .bool, .non => some false | .bool, .str _ => some false | .bool, .tup _ => some false
  | .str, .str _ => some true
  | .str, .int _ => some false | .str, .bl _ => some false | .str, .non => some false | .str, .tup _ => some false
  | .tuple, .tup _ => some true
  | .tuple, .int _ => some false | .tuple, .bl _ => some false | .tuple, .non => some false | .tuple, .str _ => some false
  | .list, .int _ => some false | .list, .bl _ => some false | .list, .non => some false | .list, .str _ => some false | .list, .tup _ => some false
  | .dict, .int _ => some false | .dict, .bl _ => some false | .dict, .non => some false | .dict, .str _ => some false | .dict, .tup _ => some false
  | t, .ref n => match μ[n]? with
    | some (.lst _) => some t.isL
    | some (.dct _) => some t.isD
    | _ => none
  | _, .cst _ => none
def fIsi (t : Ty) : Fn
  | [p], μ => match isTy μ t p with | some b => .ok (.bl b) μ | none => .stuck
  | _, _ => .stuck
/-! methods of lists -/
def fAppend : Fn
  | [.ref n, p], μ => match push1 n p μ with | some m => .ok .non m | none => .stuck
  | _, _ => .stuck
def fExtend : Fn
  | [.ref n, .ref k], μ => match μ[n]?, μ[k]? with
    | some (.lst xs), some (.lst ys) => if xs.length + ys.length ≤ SL then .ok .non (μ.set n (.lst (xs ++ ys))) else .stuck
    | _, _ => .stuck
  | _, _ => .stuck
def fPop : Fn
  | [.ref n], μ => match μ[n]? with
    | some (.lst xs) => match xs[xs.length - 1]? with | some q => .ok q (μ.set n (.lst xs.dropLast)) | none => .stuck
    | _ => .stuck
  | [.ref n, .int i], μ => match μ[n]? with
    | some (.lst xs) => if -(2 ^ 63) ≤ i ∧ i < 2 ^ 63 then match ixN xs.length i with
      | some k => match xs[k]? with | some q => .ok q (μ.set n (.lst (xs.eraseIdx k))) | none => .stuck
      | none => .stuck
      else .stuck
    | _ => .stuck
  | _, _ => .stuck
def fSet : Fn
  | [.ref n, .int i, p], μ => match μ[n]? with
    | some (.lst xs) => match ixN xs.length i with | some k => .ok .non (μ.set n (.lst (xs.set k p))) | none => .stuck
    | _ => .stuck
  | _, _ => .stuck
/-! what a for walks -/
def itsOf (p : PV) (m : Mem) : Res Its := match p with
  | .tup l => .ok ⟨l, []⟩ m
  | .ref n => match getL m (.ref n) with | some l => .ok ⟨l, [(n, l)]⟩ m | none => .stuck
  | _ => .stuck
def iVal (e : Ex) : It := fun env μ => (e env μ).bind itsOf
def rangeL (i : Int) (n : Nat) : List PV := (List.range n).map fun (k : Nat) => .int (i + (k : Int))
def big62 (i : Int) : Prop := -(2 ^ 62) ≤ i ∧ i < 2 ^ 62
instance (i : Int) : Decidable (big62 i) := by unfold big62; infer_instance
def iRng1 (e : Ex) : It := fun env μ => (e env μ).bind fun p μ1 => match p with
  | .int j => if big62 j then .ok ⟨rangeL 0 j.toNat, []⟩ μ1 else .stuck
  | _ => .stuck
def iRng2 (a b : Ex) : It := fun env μ => (a env μ).bind fun p μ1 => (b env μ1).bind fun q μ2 => match p, q with
  | .int i, .int j => if big62 i ∧ big62 j then .ok ⟨rangeL i (j - i).toNat, []⟩ μ2 else .stuck
  | _, _ => .stuck
def iRng2w (a b : Ex) : It := fun env μ => (a env μ).bind fun p μ1 => (b env μ1).bind fun q μ2 => match p, q with
  | .int i, .int j => .ok ⟨rangeL i (j - i).toNat, []⟩ μ2
  | _, _ => .stuck
def enumL : Nat → List PV → List PV
  | _, [] => []
  | k, p :: ps => .tup [.int k, p] :: enumL (k + 1) ps
def enumOf (p : PV) (m : Mem) : Res Its := match p with
  | .tup l => .ok ⟨enumL 0 l, []⟩ m
  | .ref n => match getL m (.ref n) with | some l => .ok ⟨enumL 0 l, [(n, l)]⟩ m | none => .stuck
  | _ => .stuck
def iEnum (e : Ex) : It := fun env μ => (e env μ).bind enumOf
def zipL : List PV → List PV → List PV
  | p :: ps, q :: qs => .tup [p, q] :: zipL ps qs
  | _, _ => []
def iZip (a b : Ex) : It := fun env μ => (a env μ).bind fun p μ1 => (b env μ1).bind fun q μ2 => match p, q with
  | .tup l, .tup k => .ok ⟨zipL l k, []⟩ μ2
  | .ref n, .ref m => match getL μ2 (.ref n), getL μ2 (.ref m) with
    | some l, some k => .ok ⟨zipL l k, [(n, l), (m, k)]⟩ μ2
    | _, _ => .stuck
  | _, _ => .stuck
end PL
end
section
set_option autoImplicit false
/-! More pure operations. -/
namespace PL
open PySem
def fIndex : Fn
  | [.ref n, p], μ => match toD μ p, toD μ (.ref n) with
    | some d, some (.list es) => if SeqAt.shaped d = true ∧ SeqAt.shaped (.list es) = true then (match es.findIdx? (fun z => PyData.eqv z d) with
        | some j => .ok (.int (j : Nat)) μ
        | none => .stuck) else .stuck
    | _, _ => .stuck
  | _, _ => .stuck
/-- is True, is False -/
def fIsB : Fn
  | [.bl a, .bl b], μ => .ok (.bl (decide (a = b))) μ
  | _, _ => .stuck
def fNotB : Fn
  | [.bl a, .bl b], μ => .ok (.bl (!decide (a = b))) μ
  | _, _ => .stuck
end PL
end
section
set_option autoImplicit false
/-! Pure dicts with keys numbers and texts; divmod; sorted. -/
namespace PL
open PySem
abbrev DK := Sum Int Str
abbrev KVs := List (DK × PV)
def keyOf : PV → Option DK
  | .int i => some (.inl i)
  | .str x => some (.inr x)
  | _ => none
def valD (kvs : KVs) (k : DK) : Option PV := (kvs.find? fun kv => decide (kv.1 = k)).map (·.2)
def putD (kvs : KVs) (k : DK) (p : PV) : KVs := if (kvs.any fun kv => decide (kv.1 = k)) = true then kvs.map (fun kv => if kv.1 = k then (kv.1, p) else kv) else kvs ++ [(k, p)]
def mergeD (kvs more : KVs) : KVs := more.foldl (fun acc kv => putD acc kv.1 kv.2) kvs
def dctAt (μ : Mem) (p : PV) : Option KVs := match p with
  | .ref n => match μ[n]? with | some (.dct kvs) => some kvs | _ => none
  | _ => none
/-- d[k] -/
def fDGet : Fn
  | [d, q], μ => match dctAt μ d, keyOf q with
    | some kvs, some k => match valD kvs k with | some p => .ok p μ | none => .stuck
    | _, _ => .stuck
  | _, _ => .stuck
/-- d[k] = p -/
def fDPut : Fn
  | [.ref n, q, p], μ => match μ[n]?, keyOf q with
    | some (.dct kvs), some k => if kvs.length < SL then .ok .non (μ.set n (.dct (putD kvs k p))) else .stuck
    | _, _ => .stuck
  | _, _ => .stuck
/-- k in d -/
def fDIn : Fn
  | [q, d], μ => match dctAt μ d, keyOf q with
    | some kvs, some k => .ok (.bl (valD kvs k).isSome) μ
    | _, _ => .stuck
  | _, _ => .stuck
def fDNotIn : Fn
  | [q, d], μ => match dctAt μ d, keyOf q with
    | some kvs, some k => .ok (.bl (!(valD kvs k).isSome)) μ
    | _, _ => .stuck
  | _, _ => .stuck
def fDLen : Fn
  | [d], μ => match dctAt μ d with | some kvs => .ok (.int kvs.length) μ | none => .stuck
  | _, _ => .stuck
/-- d[k] = e, as a statement: e, d, k in this order -/
def dput (o i e : Ex) : Sm := fun env μ => .of (e env μ) fun p μ1 => .of (o env μ1) fun x μ2 => .of (i env μ2) fun y μ3 => .of (fDPut [x, y, p] μ3) fun _ μ4 => .nx env μ4
/-- the pairs of a display -/
abbrev Ap := Env → Mem → Res (List (PV × PV))
def dn : Ap := fun _ μ => .ok [] μ
def dc (k x : Ex) (r : Ap) : Ap := fun env μ => (k env μ).bind fun p μ1 => (x env μ1).bind fun q μ2 => (r env μ2).bind fun ps μ3 => .ok ((p, q) :: ps) μ3
def keysOf : List (PV × PV) → Option KVs
  | [] => some []
  | pq :: r => match keyOf pq.1, keysOf r with | some k, some ks => some ((k, pq.2) :: ks) | _, _ => none
def dfin (n : Nat) (ps : List (PV × PV)) (μ : Mem) : Res PV := match μ[n]?, keysOf ps with
  | some (.dct []), some kvs => if kvs.length ≤ 15 then .ok (.ref n) (μ.set n (.dct (mergeD [] kvs))) else .stuck
  | _, _ => .stuck
/-- {k: v, ..} -/
def dsp (r : Ap) : Ex := fun env μ => (r env (μ ++ [.dct []])).bind fun ps μ1 => dfin μ.length ps μ1
/-- {} -/
def dnew : Ex := fun _ μ => .ok (.ref μ.length) (μ ++ [.dct []])
def fDivmod : Fn
  | [.int i, .int j], μ => if 0 < j ∧ j < 2 ^ 62 ∧ -(2 ^ 62) < i ∧ i < 2 ^ 62 then .ok (.tup [.int (i / j), .int (i % j)]) μ else .stuck
  | _, _ => .stuck
/-- a tuple so many times -/
def fMulT : Fn
  | [.tup xs, .int k], μ => if -(2 ^ 63) ≤ k ∧ k ≤ 1000 ∧ xs.length ≤ 1000 then .ok (.tup (List.replicate k.toNat xs).flatten) μ else .stuck
  | _, _ => .stuck
end PL
end
section
set_option autoImplicit false
/-! `or` of values that are none, numbers or truth values. -/
namespace PL
open PySem
def truP : PV → Option Bool
  | .non => some false
  | .bl b => some b
  | .int i => some (i != 0)
  | _ => none
def orV (a b : Ex) : Ex := fun env μ => (a env μ).bind fun p μ1 => match truP p with
  | some true => .ok p μ1
  | some false => b env μ1
  | none => .stuck
end PL
end
section
set_option autoImplicit false
set_option Elab.async false
set_option linter.all false
set_option maxRecDepth 100000
set_option maxHeartbeats 1000000
/-! The pure layer stands for the hand layer: relations between values, memories and the abstract heap. -/
namespace PL
open PySem L2
theorem SL_eq : sizeLine = SL := by rw [sizeLine_eq]
mutual
/-- a value of the hand layer bears a pure one; ρ: where the cells stand -/
def Rep (K : PySem.W.Frag) (H : Hp) (ρ : List Addr) : PV → V → Prop
  | .non, v => v = .non
  | .bl b, v => v = .bl b
  | .int i, v => v = .int i
  | .str x, v => v = .str x
  | .cst a, v => v = .ref a
  | .tup l, v => ∃ a xs, v = .ref a ∧ SqT K H a xs ∧ Reps K H ρ l xs
  | .ref n, v => ∃ a, ρ[n]? = some a ∧ v = .ref a
def Reps (K : PySem.W.Frag) (H : Hp) (ρ : List Addr) : List PV → List V → Prop
  | [], xs => xs = []
  | p :: ps, xs => ∃ y ys, xs = y :: ys ∧ Rep K H ρ p y ∧ Reps K H ρ ps ys
end
/-- a list that is only read -/
def RoL (K : PySem.W.Frag) (H : Hp) (a : Addr) (xs : List V) : Prop := (∃ o, H a = some (.frz o (.lst xs))) ∨ ∀ H', SqL K H' a xs
theorem RoL.seq {K : PySem.W.Frag} {H : Hp} {a : Addr} {xs : List V} (h : RoL K H a xs) : SqL K H a xs := by
  rcases h with ⟨o, h⟩ | h
  · exact .inl (.inr ⟨o, h⟩)
  · exact h H
def RepK (K : PySem.W.Frag) (H : Hp) (ρ : List Addr) : List (Sum Int Str × PV) → List (Key × V) → Prop
  | [], xs => xs = []
  | p :: ps, xs => ∃ y ys, xs = (p.1, y) :: ys ∧ Rep K H ρ p.2 y ∧ RepK K H ρ ps ys
def RepO (K : PySem.W.Frag) (H : Hp) (ρ : List Addr) : PO → Addr → Prop
  | .lst l, a => ∃ xs, H a = some (.lst xs) ∧ Reps K H ρ l xs
  | .ro l, a => ∃ xs, RoL K H a xs ∧ Reps K H ρ l xs
  | .dct kvs, a => ∃ xs, H a = some (.dK xs) ∧ RepK K H ρ kvs xs
/-- a cell that may be written -/
def PO.mut : PO → Bool
  | .ro _ => false
  | _ => true
structure MemOk (K : PySem.W.Frag) (H : Hp) (ρ : List Addr) (μ : Mem) : Prop where
  len : ρ.length = μ.length
  at' : ∀ (n : Nat) (o : PO) (a : Addr), μ[n]? = some o → ρ[n]? = some a → RepO K H ρ o a
  inj : ∀ (n m : Nat) (a : Addr) (o u : PO), ρ[n]? = some a → ρ[m]? = some a → μ[n]? = some o → μ[m]? = some u → o.mut = true → u.mut = true → n = m
structure EnvOk (K : PySem.W.Frag) (H : Hp) (ρ : List Addr) (env : Env) (σ : L2.St) : Prop where
  len : env.length = σ.length
  at' : ∀ (i : Nat) (p : PV), env[i]? = some (some p) → ∃ x, σ[i]? = some (some x) ∧ Rep K H ρ p x
/-- the tuples stay -/
def Keep (K : PySem.W.Frag) (H H' : Hp) : Prop := ∀ a xs, SqT K H a xs → SqT K H' a xs
theorem Keep.refl (K : PySem.W.Frag) (H : Hp) : Keep K H H := fun _ _ h => h
theorem Keep.trans {K : PySem.W.Frag} {H H1 H2 : Hp} (a : Keep K H H1) (b : Keep K H1 H2) : Keep K H H2 := fun c xs h => b c xs (a c xs h)
theorem Keep.upd {K : PySem.W.Frag} {H : Hp} {p : Addr} {o : HO} (h : ∀ xs, H p ≠ some (.tup xs)) (h' : ∀ ob xs, H p ≠ some (.frz ob (.tup xs))) : Keep K H (upd H p o) := by
  intro a xs k
  rcases k with (k | ⟨ob, k⟩) | k
  · exact .inl (.inl (by rw [upd_ne (show a ≠ p from fun e => by subst e; exact h xs k)]; exact k))
  · exact .inl (.inr ⟨ob, by rw [upd_ne (show a ≠ p from fun e => by subst e; exact h' ob xs k)]; exact k⟩)
  · exact .inr k
/-- a later state: more cells, the tuples as they were -/
structure Lat (K : PySem.W.Frag) (H : Hp) (ρ : List Addr) (H' : Hp) (ρ' : List Addr) : Prop where
  pre : ∃ t, ρ' = ρ ++ t
  keep : Keep K H H'
theorem Lat.refl (K : PySem.W.Frag) (H : Hp) (ρ : List Addr) : Lat K H ρ H ρ := ⟨⟨[], by simp⟩, .refl K H⟩
section
variable {K : PySem.W.Frag} {H H' H1 H2 : Hp} {ρ ρ' ρ1 ρ2 : List Addr}
theorem Lat.trans (a : Lat K H ρ H1 ρ1) (b : Lat K H1 ρ1 H2 ρ2) : Lat K H ρ H2 ρ2 := by
  obtain ⟨t, rfl⟩ := a.pre
  obtain ⟨u, rfl⟩ := b.pre
  exact ⟨⟨t ++ u, by simp⟩, a.keep.trans b.keep⟩
theorem Lat.get (l : Lat K H ρ H' ρ') {n : Nat} {a : Addr} (h : ρ[n]? = some a) : ρ'[n]? = some a := by
  obtain ⟨t, rfl⟩ := l.pre
  rw [List.getElem?_append_left (List.getElem?_eq_some_iff.mp h).1]
  exact h
mutual
theorem Rep.mono (l : Lat K H ρ H' ρ') : ∀ (p : PV) (x : V), Rep K H ρ p x → Rep K H' ρ' p x
  | .non, _, h => by simpa only [Rep] using h
  | .bl _, _, h => by simpa only [Rep] using h
  | .int _, _, h => by simpa only [Rep] using h
  | .str _, _, h => by simpa only [Rep] using h
  | .cst _, _, h => by simpa only [Rep] using h
  | .tup ps, x, h => by
    simp only [Rep] at h ⊢
    obtain ⟨a, xs, e, s, r⟩ := h
    exact ⟨a, xs, e, l.keep a xs s, Reps.mono l ps xs r⟩
  | .ref n, x, h => by
    simp only [Rep] at h ⊢
    obtain ⟨a, e, r⟩ := h
    exact ⟨a, l.get e, r⟩
theorem Reps.mono (l : Lat K H ρ H' ρ') : ∀ (ps : List PV) (xs : List V), Reps K H ρ ps xs → Reps K H' ρ' ps xs
  | [], _, h => by simpa only [Reps] using h
  | p :: ps, xs, h => by
    simp only [Reps] at h ⊢
    obtain ⟨y, ys, e, r, t⟩ := h
    exact ⟨y, ys, e, Rep.mono l p y r, Reps.mono l ps ys t⟩
end
theorem RepK.mono (l : Lat K H ρ H' ρ') : ∀ (ps : List (Sum Int Str × PV)) (xs : List (Key × V)), RepK K H ρ ps xs → RepK K H' ρ' ps xs
  | [], _, h => h
  | p :: ps, xs, h => by
    obtain ⟨y, ys, e, r, t⟩ := h
    exact ⟨y, ys, e, Rep.mono l p.2 y r, RepK.mono l ps ys t⟩
theorem EnvOk.mono {env : Env} {σ : L2.St} (e : EnvOk K H ρ env σ) (l : Lat K H ρ H' ρ') : EnvOk K H' ρ' env σ :=
  ⟨e.len, fun i p h => let ⟨x, a, b⟩ := e.at' i p h; ⟨x, a, Rep.mono l p x b⟩⟩
theorem Reps.length : ∀ {ps : List PV} {xs : List V}, Reps K H ρ ps xs → xs.length = ps.length
  | [], xs, h => by simp only [Reps] at h; subst h; rfl
  | p :: ps, xs, h => by
    simp only [Reps] at h
    obtain ⟨y, ys, rfl, _, t⟩ := h
    simp [Reps.length t]
theorem Reps.get : ∀ {ps : List PV} {xs : List V} {i : Nat} {p : PV}, Reps K H ρ ps xs → ps[i]? = some p → ∃ x, xs[i]? = some x ∧ Rep K H ρ p x
  | [], xs, i, p, h, e => by simp at e
  | q :: ps, xs, 0, p, h, e => by
    simp only [Reps] at h
    obtain ⟨y, ys, rfl, r, _⟩ := h
    simp only [List.getElem?_cons_zero, Option.some.injEq] at e
    subst e
    exact ⟨y, rfl, r⟩
  | q :: ps, xs, i + 1, p, h, e => by
    simp only [Reps] at h
    obtain ⟨y, ys, rfl, _, t⟩ := h
    simp only [List.getElem?_cons_succ] at e
    obtain ⟨x, a, b⟩ := Reps.get (i := i) t e
    exact ⟨x, by simpa using a, b⟩
theorem Reps.nil : Reps K H ρ [] [] := by simp only [Reps]
theorem Reps.cons {p : PV} {ps : List PV} {x : V} {xs : List V} (r : Rep K H ρ p x) (t : Reps K H ρ ps xs) : Reps K H ρ (p :: ps) (x :: xs) := by
  simp only [Reps]
  exact ⟨x, xs, rfl, r, t⟩
theorem Reps.cons_iff {p : PV} {ps : List PV} {zs : List V} : Reps K H ρ (p :: ps) zs ↔ ∃ x xs, zs = x :: xs ∧ Rep K H ρ p x ∧ Reps K H ρ ps xs := by
  simp only [Reps]
theorem Reps.append : ∀ {ps qs : List PV} {xs ys : List V}, Reps K H ρ ps xs → Reps K H ρ qs ys → Reps K H ρ (ps ++ qs) (xs ++ ys)
  | [], _, xs, _, h, t => by simp only [Reps] at h; subst h; exact t
  | p :: ps, _, xs, _, h, t => by
    obtain ⟨y, ys, rfl, r, u⟩ := Reps.cons_iff.mp h
    exact .cons r (Reps.append u t)
theorem Reps.take : ∀ {ps : List PV} {xs : List V} (n : Nat), Reps K H ρ ps xs → Reps K H ρ (ps.take n) (xs.take n)
  | [], xs, n, h => by simp only [Reps] at h; subst h; simp [Reps]
  | p :: ps, xs, 0, h => by simp [Reps]
  | p :: ps, xs, n + 1, h => by
    obtain ⟨y, ys, rfl, r, u⟩ := Reps.cons_iff.mp h
    simp only [List.take_succ_cons]
    exact .cons r (Reps.take n u)
theorem Reps.drop : ∀ {ps : List PV} {xs : List V} (n : Nat), Reps K H ρ ps xs → Reps K H ρ (ps.drop n) (xs.drop n)
  | [], xs, n, h => by simp only [Reps] at h; subst h; simp [Reps]
  | p :: ps, xs, 0, h => by simpa using h
  | p :: ps, xs, n + 1, h => by
    obtain ⟨y, ys, rfl, r, u⟩ := Reps.cons_iff.mp h
    simp only [List.drop_succ_cons]
    exact Reps.drop n u
theorem Reps.set : ∀ {ps : List PV} {xs : List V} {p : PV} {x : V} (n : Nat), Reps K H ρ ps xs → Rep K H ρ p x → Reps K H ρ (ps.set n p) (xs.set n x)
  | [], xs, _, _, n, h, _ => by simp only [Reps] at h; subst h; simp [Reps]
  | p :: ps, xs, _, _, 0, h, r => by
    obtain ⟨y, ys, rfl, _, u⟩ := Reps.cons_iff.mp h
    exact .cons r u
  | p :: ps, xs, _, _, n + 1, h, r => by
    obtain ⟨y, ys, rfl, q, u⟩ := Reps.cons_iff.mp h
    exact .cons q (Reps.set n u r)
theorem Reps.erase : ∀ {ps : List PV} {xs : List V} (n : Nat), Reps K H ρ ps xs → Reps K H ρ (ps.eraseIdx n) (xs.eraseIdx n)
  | [], xs, n, h => by simp only [Reps] at h; subst h; simp [Reps]
  | p :: ps, xs, 0, h => by
    obtain ⟨y, ys, rfl, _, u⟩ := Reps.cons_iff.mp h
    exact u
  | p :: ps, xs, n + 1, h => by
    obtain ⟨y, ys, rfl, q, u⟩ := Reps.cons_iff.mp h
    exact .cons q (Reps.erase n u)
theorem Reps.dropLast {ps : List PV} {xs : List V} (h : Reps K H ρ ps xs) : Reps K H ρ ps.dropLast xs.dropLast := by
  rw [List.dropLast_eq_take, List.dropLast_eq_take, h.length]
  exact h.take _
theorem Reps.reverse : ∀ {ps : List PV} {xs : List V}, Reps K H ρ ps xs → Reps K H ρ ps.reverse xs.reverse
  | [], xs, h => by simp only [Reps] at h; subst h; simp [Reps]
  | p :: ps, xs, h => by
    obtain ⟨y, ys, rfl, q, u⟩ := Reps.cons_iff.mp h
    rw [List.reverse_cons, List.reverse_cons]
    exact (Reps.reverse u).append (.cons q .nil)
theorem Reps.rep {ps : List PV} {xs : List V} (h : Reps K H ρ ps xs) : ∀ n : Nat, Reps K H ρ (List.replicate n ps).flatten (List.replicate n xs).flatten
  | 0 => by simp [Reps]
  | n + 1 => by
    rw [List.replicate_succ, List.replicate_succ, List.flatten_cons, List.flatten_cons]
    exact h.append (Reps.rep h n)
theorem RepO.mono {o : PO} {a : Addr} (l : Lat K H ρ H' ρ') (hs : H' a = H a) (h : RepO K H ρ o a) : RepO K H' ρ' o a := by
  cases o with
  | lst ps => obtain ⟨xs, e, r⟩ := h; exact ⟨xs, hs.trans e, Reps.mono l ps xs r⟩
  | ro ps =>
    obtain ⟨xs, e, r⟩ := h
    refine ⟨xs, ?_, Reps.mono l ps xs r⟩
    rcases e with ⟨o, e⟩ | e
    · exact .inl ⟨o, hs.trans e⟩
    · exact .inr e
  | dct ps => obtain ⟨xs, e, r⟩ := h; exact ⟨xs, hs.trans e, RepK.mono l ps xs r⟩
/-- a new cell -/
theorem MemOk.push {μ : Mem} {p : Addr} {ho : HO} {o : PO} (M : MemOk K H ρ μ) (hp : H p = none) (h : ∀ H' ρ', Lat K H ρ H' ρ' → H' p = some ho → RepO K H' ρ' o p) :
    MemOk K (upd H p ho) (ρ ++ [p]) (μ ++ [o]) ∧ Lat K H ρ (upd H p ho) (ρ ++ [p]) := by
  have L : Lat K H ρ (upd H p ho) (ρ ++ [p]) := ⟨⟨[p], rfl⟩, .upd (fun xs e => by rw [hp] at e; cases e) fun ob xs e => by rw [hp] at e; cases e⟩
  have hl := M.len
  have old : ∀ n u a, μ[n]? = some u → ρ[n]? = some a → RepO K (upd H p ho) (ρ ++ [p]) u a ∧ (u.mut = true → a ≠ p) := fun n u a hu ha => by
    have r := M.at' n u a hu ha
    by_cases e : a = p
    · subst e
      cases u with
      | lst ps => obtain ⟨xs, e, _⟩ := r; rw [hp] at e; cases e
      | ro ps =>
        obtain ⟨xs, e, q⟩ := r
        rcases e with ⟨o', e⟩ | e
        · rw [hp] at e; cases e
        · exact ⟨⟨xs, .inr e, Reps.mono L ps xs q⟩, fun z => nomatch z⟩
      | dct ps => obtain ⟨xs, e, _⟩ := r; rw [hp] at e; cases e
    · exact ⟨r.mono L (upd_ne e), fun _ => e⟩
  refine ⟨⟨by simp [hl], fun n u a hu ha => ?_, fun n m a u w hn hm hu hw mu mw => ?_⟩, L⟩
  · by_cases hn : n < μ.length
    · rw [List.getElem?_append_left hn] at hu
      rw [List.getElem?_append_left (by omega)] at ha
      exact (old n u a hu ha).1
    · have hn2 : n = μ.length := by
        have := (List.getElem?_eq_some_iff.mp hu).1
        simp at this
        omega
      subst hn2
      rw [List.getElem?_append_right (Nat.le_refl _)] at hu
      rw [List.getElem?_append_right (by omega)] at ha
      simp [hl] at hu ha
      subst hu ha
      exact h _ _ L upd_same
  · have key : ∀ k (b : Addr) (z : PO), (ρ ++ [p])[k]? = some b → (μ ++ [o])[k]? = some z → z.mut = true → (k < μ.length ∧ ρ[k]? = some b ∧ μ[k]? = some z ∧ b ≠ p) ∨ (k = μ.length ∧ b = p) := fun k b z hb hz mz => by
      by_cases hk : k < μ.length
      · rw [List.getElem?_append_left hk] at hz
        rw [List.getElem?_append_left (by omega)] at hb
        exact .inl ⟨hk, hb, hz, (old k z b hz hb).2 mz⟩
      · have hk2 : k = μ.length := by
          have := (List.getElem?_eq_some_iff.mp hz).1
          simp at this
          omega
        subst hk2
        rw [List.getElem?_append_right (by omega)] at hb
        simp [hl] at hb
        exact .inr ⟨rfl, hb.symm⟩
    rcases key n a u hn hu mu with ⟨h1, h2, h3, h4⟩ | ⟨h1, h2⟩
    · rcases key m a w hm hw mw with ⟨g1, g2, g3, g4⟩ | ⟨g1, g2⟩
      · exact M.inj n m a u w h2 g2 h3 g3 mu mw
      · exact absurd g2 h4
    · rcases key m a w hm hw mw with ⟨g1, g2, g3, g4⟩ | ⟨g1, g2⟩
      · exact absurd h2 g4
      · omega
/-- a cell written -/
theorem MemOk.set {μ : Mem} {n : Nat} {p : Addr} {ho : HO} {o u : PO} (M : MemOk K H ρ μ) (hn : μ[n]? = some o) (hr : ρ[n]? = some p) (hm : o.mut = true)
    (h : RepO K (upd H p ho) ρ u p) : MemOk K (upd H p ho) ρ (μ.set n u) ∧ Lat K H ρ (upd H p ho) ρ := by
  have hH : (∃ xs, H p = some (.lst xs)) ∨ ∃ xs, H p = some (.dK xs) := by
    have r := M.at' n o p hn hr
    cases o with
    | lst ps => obtain ⟨xs, e, _⟩ := r; exact .inl ⟨xs, e⟩
    | ro ps => cases hm
    | dct ps => obtain ⟨xs, e, _⟩ := r; exact .inr ⟨xs, e⟩
  have L : Lat K H ρ (upd H p ho) ρ := by
    refine ⟨⟨[], by simp⟩, .upd (fun xs e => ?_) fun ob xs e => ?_⟩
    · rcases hH with ⟨ys, q⟩ | ⟨ys, q⟩ <;> (rw [q] at e; cases e)
    · rcases hH with ⟨ys, q⟩ | ⟨ys, q⟩ <;> (rw [q] at e; cases e)
  have hnl : n < μ.length := (List.getElem?_eq_some_iff.mp hn).1
  refine ⟨⟨by simp [M.len], fun m w a hw ha => ?_, fun k m a w z hk hm' hw hz mw mz => ?_⟩, L⟩
  · by_cases e : n = m
    · subst e
      rw [List.getElem?_set_self hnl] at hw
      rw [hr] at ha
      cases hw
      cases ha
      exact h
    · rw [List.getElem?_set_ne e] at hw
      have r := M.at' m w a hw ha
      by_cases ea : a = p
      · subst ea
        cases w with
        | lst ps => exact absurd (M.inj n m a o _ hr ha hn hw hm rfl) e
        | dct ps => exact absurd (M.inj n m a o _ hr ha hn hw hm rfl) e
        | ro ps =>
          obtain ⟨xs, e1, q⟩ := r
          refine ⟨xs, ?_, Reps.mono L ps xs q⟩
          rcases e1 with ⟨o', e1⟩ | e1
          · rcases hH with ⟨ys, q⟩ | ⟨ys, q⟩ <;> (rw [q] at e1; cases e1)
          · exact .inr e1
      · exact r.mono L (upd_ne ea)
  · have key : ∀ (j : Nat) (y : PO), (μ.set n u)[j]? = some y → y.mut = true → ∃ y', μ[j]? = some y' ∧ y'.mut = true := fun j y hy my => by
      by_cases e : n = j
      · subst e
        exact ⟨o, hn, hm⟩
      · rw [List.getElem?_set_ne e] at hy
        exact ⟨y, hy, my⟩
    obtain ⟨w', hw', mw'⟩ := key k w hw mw
    obtain ⟨z', hz', mz'⟩ := key m z hz mz
    exact M.inj k m a w' z' hk hm' hw' hz' mw' mz'
/-- a new tuple, which is no cell -/
theorem MemOk.other {μ : Mem} {p : Addr} {ho : HO} (M : MemOk K H ρ μ) (hp : H p = none) : MemOk K (upd H p ho) ρ μ ∧ Lat K H ρ (upd H p ho) ρ := by
  have L : Lat K H ρ (upd H p ho) ρ := ⟨⟨[], by simp⟩, .upd (fun xs e => by rw [hp] at e; cases e) fun ob xs e => by rw [hp] at e; cases e⟩
  refine ⟨⟨M.len, fun n u a hu ha => ?_, M.inj⟩, L⟩
  have r := M.at' n u a hu ha
  by_cases e : a = p
  · subst e
    cases u with
    | lst ps => obtain ⟨xs, e, _⟩ := r; rw [hp] at e; cases e
    | ro ps =>
      obtain ⟨xs, e, q⟩ := r
      rcases e with ⟨o', e⟩ | e
      · rw [hp] at e; cases e
      · exact ⟨xs, .inr e, Reps.mono L ps xs q⟩
    | dct ps => obtain ⟨xs, e, _⟩ := r; rw [hp] at e; cases e
  · exact r.mono L (upd_ne e)
end
end PL
end
section
set_option autoImplicit false
set_option Elab.async false
set_option linter.all false
set_option maxRecDepth 100000
set_option maxHeartbeats 1000000
/-! What a pure result asks; the judgements; operations by values. -/
namespace PL
open PySem L2
section
variable (K : PySem.W.Frag) (mg : Str → Option Value) (E : XK)
/-- fields of an exception -/
def RepF (H : Hp) (ρ : List Addr) (fs : List (Str × PV)) (ys : List (Str × V)) : Prop := fs.map (·.1) = ys.map (·.1) ∧ Reps K H ρ (fs.map (·.2)) (ys.map (·.2))
/-- what a pure result asks of the wish Q -/
def Post {α β : Type} (R : Hp → List Addr → α → β → Prop) (H : Hp) (ρ : List Addr) (Q : β → Hp → Prop) : Res α → Prop
  | .ok a m => ∀ b H' ρ', Lat K H ρ H' ρ' → MemOk K H' ρ' m → R H' ρ' a b → Q b H'
  | .exc x m => ∃ C, mg x.cls = some (.ref C) ∧ ∀ H' ρ', Lat K H ρ H' ρ' → MemOk K H' ρ' m → match x.fs with
    | [] => E (.ref C) none H'
    | fs => ∀ d ys, H' d = some (.xd ys) → RepF K H' ρ' fs ys → E (.ref C) (some d) H'
  | .stuck => False
variable {K mg E} {α β γ δ : Type} {R : Hp → List Addr → α → β → Prop} {R' : Hp → List Addr → γ → δ → Prop} {H H1 : Hp} {ρ ρ1 : List Addr} {Q : β → Hp → Prop}
theorem Post.later {r : Res α} (h : Post K mg E R H ρ Q r) (l : Lat K H ρ H1 ρ1) : Post K mg E R H1 ρ1 Q r := by
  cases r with
  | ok a m => exact fun b H' ρ' l' => h b H' ρ' (l.trans l')
  | exc x m => obtain ⟨C, e, h⟩ := h; exact ⟨C, e, fun H' ρ' l' => h H' ρ' (l.trans l')⟩
  | stuck => exact h
theorem Post.imp {r : Res α} {Q' : β → Hp → Prop} (h : Post K mg E R H ρ Q r) (i : ∀ b H', Q b H' → Q' b H') : Post K mg E R H ρ Q' r := by
  cases r with
  | ok a m => exact fun b H' ρ' l M r => i _ _ (h b H' ρ' l M r)
  | exc x m => exact h
  | stuck => exact h
theorem Post.rel {R2 : Hp → List Addr → α → β → Prop} {r : Res α} (h : Post K mg E R H ρ Q r) (i : ∀ H' ρ' a b, R2 H' ρ' a b → R H' ρ' a b) : Post K mg E R2 H ρ Q r := by
  cases r with
  | ok a m => exact fun b H' ρ' l M q => h b H' ρ' l M (i _ _ _ _ q)
  | exc x m => exact h
  | stuck => exact h
theorem Post.bind {r : Res α} {k : α → Mem → Res γ} {Q' : δ → Hp → Prop} (h : Post K mg E R' H ρ Q' (r.bind k)) :
    Post K mg E R H ρ (fun b H1 => ∃ a m ρ1, r = .ok a m ∧ Lat K H ρ H1 ρ1 ∧ MemOk K H1 ρ1 m ∧ R H1 ρ1 a b ∧ Post K mg E R' H1 ρ1 Q' (k a m)) r := by
  cases r with
  | ok a m => exact fun b H' ρ' l M r => ⟨a, m, ρ', rfl, l, M, r, Post.later (r := k a m) h l⟩
  | exc x m => exact h
  | stuck => exact h
theorem Post.val {a : α} {μ : Mem} {b : β} (h : Post K mg E R H ρ Q (.ok a μ)) (M : MemOk K H ρ μ) (r : R H ρ a b) : Q b H := h b H ρ (.refl K H ρ) M r
end
section
variable {K : PySem.W.Frag} {mg : Str → Option Value} {E : XK} {H : Hp} {ρ : List Addr} {Q : V → Hp → Prop} {μ : Mem}
abbrev RP (K : PySem.W.Frag) : Hp → List Addr → PV → V → Prop := Rep K
theorem Post.newL {l : List PV} {xs : List V} (h : Post K mg E (RP K) H ρ Q (newL l μ)) (M : MemOk K H ρ μ) (r : Reps K H ρ l xs) : ∀ p, H p = none → Q (.ref p) (upd H p (.lst xs)) := fun p hp => by
  have q := M.push (ho := .lst xs) (o := .lst l) hp fun H' ρ' L e => ⟨xs, e, Reps.mono L l xs r⟩
  refine h (.ref p) _ _ q.2 q.1 ?_
  show Rep K _ _ (.ref μ.length) (.ref p)
  simp only [Rep]
  exact ⟨p, by rw [← M.len, List.getElem?_append_right (Nat.le_refl _)]; simp, rfl⟩
theorem Post.newT {l : List PV} {xs : List V} (h : Post K mg E (RP K) H ρ Q (.ok (.tup l) μ)) (M : MemOk K H ρ μ) (r : Reps K H ρ l xs) : ∀ p, H p = none → Q (.ref p) (upd H p (.tup xs)) := fun p hp => by
  have q := M.other (ho := .tup xs) hp
  refine h (.ref p) _ _ q.2 q.1 ?_
  show Rep K _ _ (.tup l) (.ref p)
  simp only [Rep]
  exact ⟨p, xs, rfl, SqT.of upd_same, Reps.mono q.2 l xs r⟩
/-- a cell is written -/
theorem Post.write {n : Nat} {a : Addr} {l l' : List PV} {xs' : List V} {p : PV} {b : V} (h : Post K mg E (RP K) H ρ Q (.ok p (μ.set n (.lst l')))) (M : MemOk K H ρ μ) (hn : μ[n]? = some (.lst l)) (ha : ρ[n]? = some a)
    (r : Reps K H ρ l' xs') (rp : Rep K H ρ p b) : Q b (upd H a (.lst xs')) := by
  have L0 : Lat K H ρ (upd H a (.lst xs')) ρ := by
    obtain ⟨ys, e, _⟩ := M.at' n _ a hn ha
    exact ⟨⟨[], by simp⟩, .upd (fun xs q => by rw [e] at q; cases q) fun ob xs q => by rw [e] at q; cases q⟩
  have q := M.set (ho := .lst xs') (u := .lst l') hn ha rfl ⟨xs', upd_same, Reps.mono L0 l' xs' r⟩
  exact h b _ _ q.2 q.1 (Rep.mono q.2 p b rp)
/-! what is read -/
theorem rep_ref {n : Nat} {x : V} (M : MemOk K H ρ μ) (r : Rep K H ρ (.ref n) x) : ∃ a, ρ[n]? = some a ∧ x = .ref a := by simpa only [Rep] using r
theorem mem_lst {n : Nat} {x : V} {l : List PV} (M : MemOk K H ρ μ) (r : Rep K H ρ (.ref n) x) (e : μ[n]? = some (.lst l)) : ∃ a xs, ρ[n]? = some a ∧ x = .ref a ∧ H a = some (.lst xs) ∧ Reps K H ρ l xs := by
  obtain ⟨a, h1, h2⟩ := rep_ref M r
  obtain ⟨xs, h3, h4⟩ := M.at' n _ a e h1
  exact ⟨a, xs, h1, h2, h3, h4⟩
theorem getL_ref {n : Nat} {x : V} {l : List PV} (M : MemOk K H ρ μ) (r : Rep K H ρ (.ref n) x) (e : getL μ (.ref n) = some l) : ∃ a xs, x = .ref a ∧ SqL K H a xs ∧ Reps K H ρ l xs ∧ (μ[n]? = some (.lst l) ∨ μ[n]? = some (.ro l)) := by
  obtain ⟨a, h1, h2⟩ := rep_ref M r
  simp only [getL] at e
  split at e
  · rename_i l' q
    cases e
    obtain ⟨xs, h3, h4⟩ := M.at' n _ a q h1
    exact ⟨a, xs, h2, SqL.of h3, h4, .inl q⟩
  · rename_i l' q
    cases e
    obtain ⟨xs, h3, h4⟩ := M.at' n _ a q h1
    exact ⟨a, xs, h2, h3.seq, h4, .inr q⟩
  · cases e
theorem rep_tup {x : V} {l : List PV} (r : Rep K H ρ (.tup l) x) : ∃ a xs, x = .ref a ∧ SqT K H a xs ∧ Reps K H ρ l xs := by simpa only [Rep] using r
theorem getL_any {p : PV} {x : V} {l : List PV} (M : MemOk K H ρ μ) (r : Rep K H ρ p x) (e : getL μ p = some l) : ∃ a xs, x = .ref a ∧ (SqL K H a xs ∨ SqT K H a xs) ∧ Reps K H ρ l xs := by
  cases p with
  | tup l' =>
    simp only [getL, Option.some.injEq] at e
    subst e
    obtain ⟨a, xs, h1, h2, h3⟩ := rep_tup r
    exact ⟨a, xs, h1, .inr h2, h3⟩
  | ref n =>
    obtain ⟨a, xs, h1, h2, h3, _⟩ := getL_ref M r e
    exact ⟨a, xs, h1, .inl h2, h3⟩
  | _ => simp [getL] at e
theorem intsOf_map : ∀ {l : List PV} {is : List Int} {xs : List V}, intsOf l = some is → Reps K H ρ l xs → xs = is.map V.int
  | [], is, xs, e, r => by
    simp only [intsOf, Option.some.injEq] at e
    subst e
    simp only [Reps] at r
    exact r
  | p :: ps, is, xs, e, r => by
    cases p with
    | int i =>
      obtain ⟨y, ys, rfl, h1, h2⟩ := Reps.cons_iff.mp r
      simp only [intsOf] at e
      cases q : intsOf ps with
      | none => rw [q] at e; simp at e
      | some js =>
        rw [q] at e
        simp only [Option.map_some, Option.some.injEq] at e
        subst e
        simp only [Rep] at h1
        rw [h1, intsOf_map q h2]
        rfl
    | _ => simp [intsOf] at e
theorem boolsOf_map : ∀ {l : List PV} {is : List Bool} {xs : List V}, boolsOf l = some is → Reps K H ρ l xs → xs = is.map V.bl
  | [], is, xs, e, r => by
    simp only [boolsOf, Option.some.injEq] at e
    subst e
    simp only [Reps] at r
    exact r
  | p :: ps, is, xs, e, r => by
    cases p with
    | bl i =>
      obtain ⟨y, ys, rfl, h1, h2⟩ := Reps.cons_iff.mp r
      simp only [boolsOf] at e
      cases q : boolsOf ps with
      | none => rw [q] at e; simp at e
      | some js =>
        rw [q] at e
        simp only [Option.map_some, Option.some.injEq] at e
        subst e
        simp only [Rep] at h1
        rw [h1, boolsOf_map q h2]
        rfl
    | _ => simp [boolsOf] at e
mutual
theorem dp_conv {r : Nat → Option PyData} (hr : ∀ n d x, r n = some d → Rep K H ρ (.ref n) x → Dp K H x d) : ∀ (p : PV) (d : PyData) (x : V), PV.conv r p = some d → Rep K H ρ p x → Dp K H x d
  | .non, d, x, e, h => by simp only [PV.conv, Option.some.injEq] at e; subst e; simp only [Rep] at h; subst h; exact .non
  | .bl b, d, x, e, h => by simp only [PV.conv, Option.some.injEq] at e; subst e; simp only [Rep] at h; subst h; exact .bl b
  | .int b, d, x, e, h => by simp only [PV.conv, Option.some.injEq] at e; subst e; simp only [Rep] at h; subst h; exact .int b
  | .str b, d, x, e, h => by simp only [PV.conv, Option.some.injEq] at e; subst e; simp only [Rep] at h; subst h; exact .str b
  | .tup l, d, x, e, h => by
    simp only [PV.conv] at e
    obtain ⟨a, xs, rfl, h2, h3⟩ := rep_tup h
    cases q : PV.convs r l with
    | none => rw [q] at e; simp at e
    | some ds =>
      rw [q] at e
      simp only [Option.map_some, Option.some.injEq] at e
      subst e
      exact .tup h2 (dp_convs hr l ds xs q h3)
  | .ref n, d, x, e, h => hr n d x (by simpa only [PV.conv] using e) h
  | .cst _, d, x, e, h => by simp [PV.conv] at e
theorem dp_convs {r : Nat → Option PyData} (hr : ∀ n d x, r n = some d → Rep K H ρ (.ref n) x → Dp K H x d) : ∀ (l : List PV) (ds : List PyData) (xs : List V), PV.convs r l = some ds → Reps K H ρ l xs → DpAll K H xs ds
  | [], ds, xs, e, h => by simp only [PV.convs, Option.some.injEq] at e; subst e; simp only [Reps] at h; subst h; exact .nil
  | p :: ps, ds, xs, e, h => by
    obtain ⟨y, ys, rfl, h1, h2⟩ := Reps.cons_iff.mp h
    simp only [PV.convs] at e
    cases q : PV.conv r p with
    | none => rw [q] at e; simp at e
    | some d =>
      rw [q] at e
      simp only [Option.bind_some] at e
      cases q2 : PV.convs r ps with
      | none => rw [q2] at e; simp at e
      | some es =>
        rw [q2] at e
        simp only [Option.map_some, Option.some.injEq] at e
        subst e
        exact .cons (dp_conv hr p d y q h1) (dp_convs hr ps es ys q2 h2)
end
theorem dp_toDn (M : MemOk K H ρ μ) : ∀ (n : Nat) (p : PV) (d : PyData) (x : V), toDn μ n p = some d → Rep K H ρ p x → Dp K H x d
  | 0, p, d, x, e, h => dp_conv (fun _ _ _ q => by cases q) p d x e h
  | n + 1, p, d, x, e, h => by
    have hr : ∀ (k : Nat) (d : PyData) (x : V), (match μ[k]? with
        | some (.lst l) => (PV.convs (fun j => toDn μ n (.ref j)) l).map PyData.list
        | some (.ro l) => (PV.convs (fun j => toDn μ n (.ref j)) l).map PyData.list
        | _ => none) = some d → Rep K H ρ (.ref k) x → Dp K H x d := fun k d x e h => by
      have go : ∀ l, getL μ (.ref k) = some l → (PV.convs (fun j => toDn μ n (.ref j)) l).map PyData.list = some d → Dp K H x d := fun l hl e => by
        obtain ⟨a, xs, rfl, h2, h3, _⟩ := getL_ref M h hl
        cases q : PV.convs (fun j => toDn μ n (.ref j)) l with
        | none => rw [q] at e; simp at e
        | some ds =>
          rw [q] at e
          simp only [Option.map_some, Option.some.injEq] at e
          subst e
          exact .lst h2 (dp_convs (fun j d x q h => dp_toDn M n (.ref j) d x q h) l ds xs q h3)
      split at e
      · rename_i l q; exact go l (by simp [getL, q]) e
      · rename_i l q; exact go l (by simp [getL, q]) e
      · cases e
    exact dp_conv hr p d x e h
theorem dp_toD (M : MemOk K H ρ μ) {p : PV} {d : PyData} {x : V} (e : toD μ p = some d) (h : Rep K H ρ p x) : Dp K H x d := dp_toDn M 5 p d x e h
theorem reps1 {p : PV} {xs : List V} (h : Reps K H ρ [p] xs) : ∃ x, xs = [x] ∧ Rep K H ρ p x := by
  obtain ⟨y, ys, rfl, h1, h2⟩ := Reps.cons_iff.mp h
  simp only [Reps] at h2
  subst h2
  exact ⟨y, rfl, h1⟩
theorem reps2 {p q : PV} {xs : List V} (h : Reps K H ρ [p, q] xs) : ∃ x y, xs = [x, y] ∧ Rep K H ρ p x ∧ Rep K H ρ q y := by
  obtain ⟨y, ys, rfl, h1, h2⟩ := Reps.cons_iff.mp h
  obtain ⟨z, rfl, h3⟩ := reps1 h2
  exact ⟨y, z, rfl, h1, h3⟩
end
/-! ### readings by pure functions of values -/
section
variable (K : PySem.W.Frag) (mg : Str → Option Value) (E : XK) (f : Fn)
def rP2 : R2 := fun x y H Q => ∃ μ ρ p q, MemOk K H ρ μ ∧ Rep K H ρ p x ∧ Rep K H ρ q y ∧ Post K mg E (RP K) H ρ Q (f [p, q] μ)
def rP1 : V → Hp → VK → Prop := fun x H Q => ∃ μ ρ p, MemOk K H ρ μ ∧ Rep K H ρ p x ∧ Post K mg E (RP K) H ρ Q (f [p] μ)
def rPn : List V → Hp → VK → Prop := fun xs H Q => ∃ μ ρ ps, MemOk K H ρ μ ∧ Reps K H ρ ps xs ∧ Post K mg E (RP K) H ρ Q (f ps μ)
def rPm : V → List V → Hp → VK → Prop := fun x xs H Q => ∃ μ ρ p ps, MemOk K H ρ μ ∧ Rep K H ρ p x ∧ Reps K H ρ ps xs ∧ Post K mg E (RP K) H ρ Q (f (p :: ps) μ)
end
theorem vint {K : PySem.W.Frag} {H : Hp} {ρ : List Addr} {i : Int} {x : V} (h : Rep K H ρ (.int i) x) : x = .int i := by simpa only [Rep] using h
theorem vbl {K : PySem.W.Frag} {H : Hp} {ρ : List Addr} {i : Bool} {x : V} (h : Rep K H ρ (.bl i) x) : x = .bl i := by simpa only [Rep] using h
theorem vstr {K : PySem.W.Frag} {H : Hp} {ρ : List Addr} {i : Str} {x : V} (h : Rep K H ρ (.str i) x) : x = .str i := by simpa only [Rep] using h
theorem vnon {K : PySem.W.Frag} {H : Hp} {ρ : List Addr} {x : V} (h : Rep K H ρ .non x) : x = .non := by simpa only [Rep] using h
theorem rint {K : PySem.W.Frag} {H : Hp} {ρ : List Addr} {i : Int} : Rep K H ρ (.int i) (.int i) := by simp only [Rep]
theorem rbl {K : PySem.W.Frag} {H : Hp} {ρ : List Addr} {i : Bool} : Rep K H ρ (.bl i) (.bl i) := by simp only [Rep]
theorem rstr {K : PySem.W.Frag} {H : Hp} {ρ : List Addr} {i : Str} : Rep K H ρ (.str i) (.str i) := by simp only [Rep]
theorem rnon {K : PySem.W.Frag} {H : Hp} {ρ : List Addr} : Rep K H ρ .non .non := by simp only [Rep]
section
variable {X : Cx} {E : XK}
theorem opP_sub : OpR X (binaryOp .Sub) (rP2 X.K X.mg E fSub) := by
  intro pins s σ H x y v u Q I rx ry h
  obtain ⟨μ, ρ, p, q, M, hp, hq, h⟩ := h
  cases p <;> cases q <;> first | exact h.elim | skip
  rename_i i j
  obtain rfl := vint hp
  obtain rfl := vint hq
  exact op_sub pins s σ H _ _ v u Q I rx ry ⟨i, j, rfl, rfl, h.val M rint⟩
theorem opP_add : OpR X (binaryOp .Add) (rP2 X.K X.mg E fAdd) := by
  intro pins s σ H x y v u Q I rx ry h
  obtain ⟨μ, ρ, p, q, M, hp, hq, h⟩ := h
  cases p <;> cases q <;> first | exact h.elim | skip
  · rename_i i j
    obtain rfl := vint hp
    obtain rfl := vint hq
    exact op_add pins s σ H _ _ v u Q I rx ry ⟨i, j, rfl, rfl, h.val M rint⟩
  · rename_i i j
    obtain rfl := vstr hp
    obtain rfl := vstr hq
    simp only [fAdd] at h
    split at h
    · rename_i hz
      exact op_add_str pins s σ H _ _ v u Q I rx ry ⟨i, j, rfl, rfl, by rw [SL_eq]; exact hz, h.val M rstr⟩
    · exact h.elim
  · rename_i i j
    obtain ⟨a, xs, rfl, h1, h2⟩ := rep_tup hp
    obtain ⟨b, ys, rfl, h3, h4⟩ := rep_tup hq
    simp only [fAdd] at h
    split at h
    · rename_i hz
      refine op_catA pins s σ H _ _ v u Q I rx ry ⟨a, b, xs, ys, rfl, rfl, h1, h3, by rw [SL_eq, h2.length, h4.length]; exact hz, fun e => ?_, fun _ e => ?_, fun _ _ => h.newT M (h2.append h4)⟩
      · subst e
        have e2 : i = [] := List.eq_nil_of_length_eq_zero (by rw [← h2.length]; rfl)
        subst e2
        exact h.val M (by show Rep _ _ _ _ _; simp only [Rep]; exact ⟨b, ys, rfl, h3, h4⟩)
      · subst e
        have e2 : j = [] := List.eq_nil_of_length_eq_zero (by rw [← h4.length]; rfl)
        subst e2
        exact h.val M (by show Rep _ _ _ _ _; simp only [Rep]; exact ⟨a, xs, rfl, h1, by simpa using h2⟩)
    · exact h.elim
  · rename_i n m
    simp only [fAdd] at h
    split at h
    · rename_i xs ys e1 e2
      obtain ⟨a, zs, g1, rfl, g3, g4⟩ := mem_lst M hp e1
      obtain ⟨b, ws, k1, rfl, k3, k4⟩ := mem_lst M hq e2
      split at h
      · rename_i hz
        exact op_cat pins s σ H _ _ v u Q I rx ry ⟨a, b, zs, ws, rfl, rfl, g3, k3, by rw [SL_eq, g4.length, k4.length]; exact hz, h.newL M (g4.append k4)⟩
      · exact h.elim
    · exact h.elim
theorem opP_mul : OpR X (binaryOp .Mult) (rP2 X.K X.mg E fMul) := by
  intro pins s σ H x y v u Q I rx ry h
  obtain ⟨μ, ρ, p, q, M, hp, hq, h⟩ := h
  cases p <;> cases q <;> first | exact h.elim | skip
  · rename_i i j
    obtain rfl := vint hp
    obtain rfl := vint hq
    simp only [fMul] at h
    split at h
    · rename_i hz
      have hh := h.val M rint
      rcases hz with hz | hz | hz
      · exact op_mul pins s σ H _ _ v u Q I rx ry ⟨i, j, rfl, rfl, .inl hz, hh⟩
      · exact op_mul pins s σ H _ _ v u Q I rx ry ⟨i, j, rfl, rfl, .inr hz, hh⟩
      · exact op_mulW pins s σ H _ _ v u Q I rx ry ⟨i, j, rfl, rfl, hz, hh⟩
    · exact h.elim
  · rename_i l j
    obtain rfl := vint hq
    obtain ⟨a, xs, rfl, h1, h2⟩ := rep_tup hp
    simp only [fMul] at h
    split at h
    · rename_i hz
      obtain ⟨z1, z2, z3, z4⟩ := hz
      refine op_repT pins s σ H _ _ v u Q I rx ry ⟨a, j, xs, rfl, rfl, h1, fun e => z1 ?_, z2, z3, by rw [h2.length]; exact z4, h.newT M (h2.rep _)⟩
      exact List.eq_nil_of_length_eq_zero (by rw [← h2.length, e]; rfl)
    · exact h.elim
  · rename_i n j
    obtain rfl := vint hq
    simp only [fMul] at h
    split at h
    · rename_i l e1
      obtain ⟨a, zs, g1, rfl, g3, g4⟩ := mem_lst M hp e1
      split at h
      · rename_i hz
        obtain ⟨z1, z2, z3⟩ := hz
        exact op_rep pins s σ H _ _ v u Q I rx ry ⟨a, j, zs, rfl, rfl, g3, z1, z2, by rw [SL_eq, g4.length]; exact z3, h.newL M (g4.rep _)⟩
      · exact h.elim
    · exact h.elim
theorem opP_div : OpR X (binaryOp .FloorDiv) (rP2 X.K X.mg E fDiv) := by
  intro pins s σ H x y v u Q I rx ry h
  obtain ⟨μ, ρ, p, q, M, hp, hq, h⟩ := h
  cases p <;> cases q <;> first | exact h.elim | skip
  rename_i i j
  obtain rfl := vint hp
  obtain rfl := vint hq
  simp only [fDiv] at h
  split at h
  · rename_i hz
    exact op_fdivW pins s σ H _ _ v u Q I rx ry ⟨i, j, rfl, rfl, hz, h.val M rint⟩
  · exact h.elim
theorem opP_mod : OpR X (binaryOp .Mod) (rP2 X.K X.mg E fMod) := by
  intro pins s σ H x y v u Q I rx ry h
  obtain ⟨μ, ρ, p, q, M, hp, hq, h⟩ := h
  cases p <;> cases q <;> first | exact h.elim | skip
  rename_i i j
  obtain rfl := vint hp
  obtain rfl := vint hq
  simp only [fMod] at h
  split at h
  · rename_i hz
    exact op_mod pins s σ H _ _ v u Q I rx ry ⟨i, j, rfl, rfl, hz, h.val M rint⟩
  · exact h.elim
theorem opP_pow : OpR X (binaryOp .Pow) (rP2 X.K X.mg E fPow) := by
  intro pins s σ H x y v u Q I rx ry h
  obtain ⟨μ, ρ, p, q, M, hp, hq, h⟩ := h
  cases p <;> cases q <;> first | exact h.elim | skip
  rename_i i j
  obtain rfl := vint hp
  obtain rfl := vint hq
  simp only [fPow] at h
  split at h
  · rename_i hz
    exact op_pow pins s σ H _ _ v u Q I rx ry ⟨i, j, rfl, rfl, hz, h.val M rint⟩
  · exact h.elim
theorem unP_neg : UnR X (unaryOp .USub) (rP1 X.K X.mg E fNeg) := by
  intro pins s σ H x v Q I rx h
  obtain ⟨μ, ρ, p, M, hp, h⟩ := h
  cases p <;> first | exact h.elim | skip
  rename_i i
  obtain rfl := vint hp
  exact un_neg pins s σ H _ v Q I rx ⟨i, rfl, h.val M rint⟩
theorem cmpP_lt : OpR X (compareOp .Lt) (rP2 X.K X.mg E fLt) := by
  intro pins s σ H x y v u Q I rx ry h
  obtain ⟨μ, ρ, p, q, M, hp, hq, h⟩ := h
  cases p <;> cases q <;> first | exact h.elim | skip
  rename_i i j
  obtain rfl := vint hp
  obtain rfl := vint hq
  exact op_lt pins s σ H _ _ v u Q I rx ry ⟨i, j, rfl, rfl, h.val M rbl⟩
theorem cmpP_le : OpR X (compareOp .LtE) (rP2 X.K X.mg E fLe) := by
  intro pins s σ H x y v u Q I rx ry h
  obtain ⟨μ, ρ, p, q, M, hp, hq, h⟩ := h
  cases p <;> cases q <;> first | exact h.elim | skip
  rename_i i j
  obtain rfl := vint hp
  obtain rfl := vint hq
  exact op_le pins s σ H _ _ v u Q I rx ry ⟨i, j, rfl, rfl, h.val M rbl⟩
theorem cmpP_gt : OpR X (compareOp .Gt) (rP2 X.K X.mg E fGt) := by
  intro pins s σ H x y v u Q I rx ry h
  obtain ⟨μ, ρ, p, q, M, hp, hq, h⟩ := h
  cases p <;> cases q <;> first | exact h.elim | skip
  rename_i i j
  obtain rfl := vint hp
  obtain rfl := vint hq
  exact op_gt pins s σ H _ _ v u Q I rx ry ⟨i, j, rfl, rfl, h.val M rbl⟩
theorem cmpP_ge : OpR X (compareOp .GtE) (rP2 X.K X.mg E fGe) := by
  intro pins s σ H x y v u Q I rx ry h
  obtain ⟨μ, ρ, p, q, M, hp, hq, h⟩ := h
  cases p <;> cases q <;> first | exact h.elim | skip
  rename_i i j
  obtain rfl := vint hp
  obtain rfl := vint hq
  exact op_ge pins s σ H _ _ v u Q I rx ry ⟨i, j, rfl, rfl, h.val M rbl⟩
theorem scal_of {K : PySem.W.Frag} {H : Hp} {ρ : List Addr} {p q : PV} {x y : V} {b : Bool} (hp : Rep K H ρ p x) (hq : Rep K H ρ q y) (e : scalP p q = some b) : scal x y = true ∧ b = decide (x = y) := by
  cases p <;> cases q <;> simp only [scalP, reduceCtorEq, Option.some.injEq] at e <;> subst e
  · rename_i i j
    obtain rfl := vbl hp
    obtain rfl := vbl hq
    exact ⟨rfl, by simp⟩
  · rename_i i j
    obtain rfl := vint hp
    obtain rfl := vint hq
    exact ⟨rfl, by simp⟩
  · rename_i i j
    obtain rfl := vstr hp
    obtain rfl := vstr hq
    exact ⟨rfl, by simp⟩
theorem eq_run {op : CmpOp} {g : Bool → Bool} (h1 : OpR X (compareOp op) (fun x y H Q => scal x y = true ∧ Q (.bl (g (decide (x = y)))) H))
    (h2 : OpR X (compareOp op) (fun x y H Q => ∃ d e, Dp X.K H x d ∧ Dp X.K H y e ∧ SeqAt.shaped d = true ∧ SeqAt.shaped e = true ∧ Q (.bl (g (PyData.eqv d e))) H)) {f : Fn}
    (hf : ∀ p q μ, f [p, q] μ = match eqR μ p q with | some b => .ok (.bl (g b)) μ | none => .stuck) : OpR X (compareOp op) (rP2 X.K X.mg E f) := by
  intro pins s σ H x y v u Q I rx ry h
  obtain ⟨μ, ρ, p, q, M, hp, hq, h⟩ := h
  rw [hf] at h
  cases e : eqR μ p q with
  | none => rw [e] at h; exact h.elim
  | some b =>
    rw [e] at h
    have hv := h.val M rbl
    unfold eqR at e
    cases e2 : scalP p q with
    | some b' =>
      rw [e2] at e
      cases e
      obtain ⟨z1, z2⟩ := scal_of hp hq e2
      exact h1 pins s σ H x y v u Q I rx ry ⟨z1, by rw [← z2]; exact hv⟩
    | none =>
      rw [e2] at e
      simp only at e
      split at e
      · rename_i d d' e3 e4
        split at e
        · rename_i hz
          cases e
          exact h2 pins s σ H x y v u Q I rx ry ⟨d, d', dp_toD M e3 hp, dp_toD M e4 hq, hz.1, hz.2, hv⟩
        · cases e
      · cases e
theorem cmpP_eq (hu : X.A.units + 64 < cLine) : OpR X (compareOp .Eq) (rP2 X.K X.mg E fEq) := eq_run (g := id) op_eq (op_eqD hu) fun _ _ _ => rfl
theorem cmpP_ne (hu : X.A.units + 64 < cLine) : OpR X (compareOp .NotEq) (rP2 X.K X.mg E fNe) := eq_run (g := fun b => !b) op_ne (op_neD hu) fun _ _ _ => rfl
theorem flat_of {K : PySem.W.Frag} {H : Hp} {ρ : List Addr} {p : PV} {x : V} (h : Rep K H ρ p x) (e : flatP p = true) : flatV x = true := by
  cases p <;> simp only [Rep] at h <;> first | (subst h; rfl) | cases e
theorem eqF_of {K : PySem.W.Frag} {H : Hp} {ρ : List Addr} {p q : PV} {x y : V} (h : Rep K H ρ p x) (h' : Rep K H ρ q y) (e : flatP p = true) (e' : flatP q = true) : eqF p q = eqV x y := by
  cases p <;> cases q <;> simp only [Rep] at h h' <;> first | (subst h; subst h'; rfl) | exact absurd e Bool.false_ne_true | exact absurd e' Bool.false_ne_true
theorem flats_of {K : PySem.W.Frag} {H : Hp} {ρ : List Addr} : ∀ {l : List PV} {xs : List V}, Reps K H ρ l xs → l.all flatP = true → xs.all flatV = true
  | [], xs, h, _ => by simp only [Reps] at h; subst h; rfl
  | p :: ps, xs, h, e => by
    obtain ⟨y, ys, rfl, h1, h2⟩ := Reps.cons_iff.mp h
    simp only [List.all_cons, Bool.and_eq_true] at e ⊢
    exact ⟨flat_of h1 e.1, flats_of h2 e.2⟩
theorem anyF_of {K : PySem.W.Frag} {H : Hp} {ρ : List Addr} {p : PV} {x : V} (h : Rep K H ρ p x) (e : flatP p = true) : ∀ {l : List PV} {xs : List V}, Reps K H ρ l xs → l.all flatP = true → (l.any fun z => eqF z p) = inV x xs
  | [], xs, h, _ => by simp only [Reps] at h; subst h; rfl
  | q :: ps, xs, h', e' => by
    obtain ⟨y, ys, rfl, h1, h2⟩ := Reps.cons_iff.mp h'
    simp only [List.all_cons, Bool.and_eq_true] at e'
    have ih := anyF_of h e h2 e'.2
    show (eqF q p || ps.any fun z => eqF z p) = inV x (y :: ys)
    rw [ih, eqF_of h1 h e'.1 e]
    rfl
theorem in_run {op : CmpOp} {neg : Bool} (h0 : OpR X (compareOp op) (fun x y H Q => ∃ (k : Nat) (z : Str), x = .str ⟨#[k]⟩ ∧ y = .str z ∧ Q (.bl (if neg then !decide (k ∈ z.cps.toList) else decide (k ∈ z.cps.toList))) H))
    (h1 : OpR X (compareOp op) (rIn X.K neg))
    (h2 : OpR X (compareOp op) (fun x y H Q => ∃ d ds, Dp X.K H x d ∧ Dp X.K H y (.list ds) ∧ SeqAt.shaped d = true ∧ SeqAt.shaped (.list ds) = true ∧ Q (.bl (if neg then !(ds.any fun z => PyData.eqv z d) else ds.any fun z => PyData.eqv z d)) H)) {f : Fn}
    (hf : ∀ p q μ, f [p, q] μ = match inR μ p q with | some b => .ok (.bl (if neg then !b else b)) μ | none => .stuck) : OpR X (compareOp op) (rP2 X.K X.mg E f) := by
  intro pins s σ H x y v u Q I rx ry h
  obtain ⟨μ, ρ, p, q, M, hp, hq, h⟩ := h
  rw [hf] at h
  cases e : inR μ p q with
  | none => rw [e] at h; exact h.elim
  | some b =>
    rw [e] at h
    have hv := h.val M rbl
    unfold inR at e
    split at e
    · rename_i z hz
      cases p <;> cases q <;> simp only [strPair, reduceCtorEq, Option.some.injEq] at hz
      rename_i a w
      subst hz
      obtain rfl := vstr hp
      obtain rfl := vstr hq
      unfold inStr at e
      simp only at e
      split at e
      · rename_i k hk
        simp only [Option.some.injEq] at e
        subst e
        refine h0 pins s σ H _ _ v u Q I rx ry ⟨k, w, ?_, rfl, hv⟩
        have : a = ⟨#[k]⟩ := by
          cases a with
          | mk cps =>
            congr 1
            exact Array.toList_inj.mp (by simpa using hk)
        rw [this]
      · cases e
    · unfold inSeq at e
      split at e
      · rename_i l hl
        split at e
        · rename_i hz
          cases e
          obtain ⟨a, xs, rfl, k1, k2⟩ := getL_any M hq hl
          refine h1 pins s σ H x _ v u Q I rx ry ⟨a, xs, rfl, k1, flat_of hp hz.1, flats_of k2 hz.2, ?_⟩
          rw [← anyF_of hp hz.1 k2 hz.2]
          exact hv
        · unfold inDeep at e
          split at e
          · split at e
            · rename_i d es e3 e4
              split at e
              · rename_i hz
                cases e
                exact h2 pins s σ H x y v u Q I rx ry ⟨d, es, dp_toD M e3 hp, dp_toD M e4 hq, hz.1, hz.2, hv⟩
              · cases e
            · cases e
          · cases e
      · cases e
theorem cmpP_in (hu : X.A.units + 65 < cLine) : OpR X (compareOp .In) (rP2 X.K X.mg E fIn) :=
  in_run (neg := false) op_in_sign op_in_seq (op_inD hu) fun p q μ => by simp only [fIn, Bool.false_eq_true, if_false]; try rfl
theorem cmpP_notIn (hu : X.A.units + 65 < cLine) : OpR X (compareOp .NotIn) (rP2 X.K X.mg E fNotIn) :=
  in_run (neg := true) op_notIn_sign op_notIn_seq (op_notInD hu) fun p q μ => by simp only [fNotIn, if_true]; try rfl
theorem isNon_of {K : PySem.W.Frag} {H : Hp} {ρ : List Addr} {p : PV} {x : V} (h : Rep K H ρ p x) : isNon p = decide (x = .non) := by
  cases p <;> simp only [Rep] at h
  · subst h; rfl
  · subst h; rfl
  · subst h; rfl
  · subst h; rfl
  · obtain ⟨a, xs, rfl, _⟩ := h; rfl
  · obtain ⟨a, _, rfl⟩ := h; rfl
  · subst h; rfl
theorem cmpP_isN : OpR X (compareOp .Is) (rP2 X.K X.mg E fIsN) := by
  intro pins s σ H x y v u Q I rx ry h
  obtain ⟨μ, ρ, p, q, M, hp, hq, h⟩ := h
  cases q <;> first | exact h.elim | skip
  obtain rfl := vnon hq
  have e : fIsN [p, .non] μ = .ok (.bl (isNon p)) μ := by cases p <;> rfl
  rw [e] at h
  exact op_isN pins s σ H _ _ v u Q I rx ry ⟨rfl, by rw [← isNon_of hp]; exact h.val M rbl⟩
theorem cmpP_notN : OpR X (compareOp .IsNot) (rP2 X.K X.mg E fNotN) := by
  intro pins s σ H x y v u Q I rx ry h
  obtain ⟨μ, ρ, p, q, M, hp, hq, h⟩ := h
  cases q <;> first | exact h.elim | skip
  obtain rfl := vnon hq
  have e : fNotN [p, .non] μ = .ok (.bl (!isNon p)) μ := by cases p <;> rfl
  rw [e] at h
  exact op_notN pins s σ H _ _ v u Q I rx ry ⟨rfl, by rw [← isNon_of hp]; exact h.val M rbl⟩
theorem atI_get {K : PySem.W.Frag} {H : Hp} {ρ : List Addr} {l : List PV} {xs : List V} {i : Int} {q : PV} (h : Reps K H ρ l xs) (e : PL.atI l i = some q) : ∃ y, L2.atI xs i = some y ∧ Rep K H ρ q y := by
  unfold PL.atI at e
  unfold L2.atI
  have en : PL.ixN l.length i = L2.ixN xs.length i := by rw [h.length]; rfl
  rw [← en]
  cases z : PL.ixN l.length i with
  | none => rw [z] at e; simp at e
  | some j =>
    rw [z] at e
    simp only [Option.bind_some] at e ⊢
    exact h.get e
theorem ixP : IxR X (rP2 X.K X.mg E fIx) := by
  intro value slice pins s σ H x y v u Q I rx ry h hs
  obtain ⟨μ, ρ, p, q, M, hp, hq, h⟩ := h
  cases q with
  | int i =>
    obtain rfl := vint hq
    have seqs : (match getL μ p with
      | some l => match PL.atI l i with | some q => Res.ok q μ | none => .stuck
      | none => .stuck) = fIx [p, .int i] μ → wpAny (model X.prog X.w) X.A (PyProof.Rows.subscriptTail value slice v u) (EP X pins σ Q) X.xe s := fun e => by
      rw [← e] at h
      split at h
      · rename_i l hl
        split at h
        · rename_i q hq2
          cases p with
          | tup l' =>
            simp only [getL, Option.some.injEq] at hl
            subst hl
            obtain ⟨a, xs, rfl, k1, k2⟩ := rep_tup hp
            obtain ⟨z, z1, z2⟩ := atI_get k2 hq2
            exact ix_tup value slice pins s σ H _ _ v u Q I rx ry ⟨a, xs, i, z, rfl, rfl, k1, z1, h.val M z2⟩ hs
          | ref n =>
            obtain ⟨a, xs, rfl, k1, k2, _⟩ := getL_ref M hp hl
            obtain ⟨z, z1, z2⟩ := atI_get k2 hq2
            exact ix_list value slice pins s σ H _ _ v u Q I rx ry ⟨a, xs, i, z, rfl, rfl, k1, z1, h.val M z2⟩ hs
          | _ => simp [getL] at hl
        · exact h.elim
      · exact h.elim
    cases p with
    | str z =>
      obtain rfl := vstr hp
      simp only [fIx] at h
      split at h
      · rename_i hz
        split at h
        · rename_i k hk
          exact ix_str value slice pins s σ H _ _ v u Q I rx ry ⟨z, i, k, rfl, rfl, by rw [SL_eq]; exact hz, hk, h.val M rstr⟩ hs
        · exact h.elim
      · exact h.elim
    | _ => exact seqs rfl
  | _ => cases p <;> exact h.elim
theorem cut_get {K : PySem.W.Frag} {H : Hp} {ρ : List Addr} {l : List PV} {xs : List V} (lo hi : Option Int) (h : Reps K H ρ l xs) : Reps K H ρ (cut l lo hi) (cutV xs lo hi) := by
  unfold cut cutV
  rw [h.length]
  exact (h.drop _).take _
end
end PL
end
section
set_option autoImplicit false
set_option Elab.async false
set_option linter.all false
set_option maxRecDepth 100000
set_option maxHeartbeats 1000000
/-! The judgements over the pure layer and their rules. -/
namespace PL
open PySem L2
/-! ### readings by pure functions -/
section
variable (K : PySem.W.Frag) (mg : Str → Option Value) (E : XK)
abbrev RB : Hp → List Addr → Bool → Bool → Prop := fun _ _ p b => b = p
abbrev RPs (K : PySem.W.Frag) : Hp → List Addr → List PV → List V → Prop := Reps K
abbrev RU : Hp → List Addr → Unit → Unit → Prop := fun _ _ _ _ => True
def tE (f : Ex) : TE := fun σ H Q => ∃ env μ ρ, EnvOk K H ρ env σ ∧ MemOk K H ρ μ ∧ Post K mg E (RP K) H ρ Q (f env μ)
def tT (f : Ex) : TT := fun σ H Q => ∃ env μ ρ, EnvOk K H ρ env σ ∧ MemOk K H ρ μ ∧ Post K mg E RB H ρ Q ((f env μ).bind asB)
def tA (f : Ag) : TA := fun σ H Q => ∃ env μ ρ, EnvOk K H ρ env σ ∧ MemOk K H ρ μ ∧ Post K mg E (RPs K) H ρ Q (f env μ)
/-- what a pure statement's end asks -/
def PostS (H : Hp) (ρ : List Addr) (D : Ends) : Out → Prop
  | .nx env m => ∀ σ' H' ρ', Lat K H ρ H' ρ' → MemOk K H' ρ' m → EnvOk K H' ρ' env σ' → D.nx σ' H'
  | .bk env m => ∀ σ' H' ρ', Lat K H ρ H' ρ' → MemOk K H' ρ' m → EnvOk K H' ρ' env σ' → D.bk σ' H'
  | .ct env m => ∀ σ' H' ρ', Lat K H ρ H' ρ' → MemOk K H' ρ' m → EnvOk K H' ρ' env σ' → D.ct σ' H'
  | .rt p m => ∀ x H' ρ', Lat K H ρ H' ρ' → MemOk K H' ρ' m → Rep K H' ρ' p x → D.rt x H'
  | .exc x m => Post K mg E RU H ρ (fun _ _ => True) (.exc x m)
  | .stuck => False
def tS (f : Sm) : TS := fun D σ H => ∃ env μ ρ, EnvOk K H ρ env σ ∧ MemOk K H ρ μ ∧ PostS K mg E H ρ D (f env μ)
/-- the slots but those at is are as they were -/
def OutOf (is : List Nat) (σ σ' : L2.St) : Prop := σ'.length = σ.length ∧ ∀ j, j ∉ is → σ'[j]? = σ[j]?
def RG (K : PySem.W.Frag) (is : List Nat) (σ : L2.St) : Hp → List Addr → Env → L2.St → Prop := fun H' ρ' env σ' => EnvOk K H' ρ' env σ' ∧ OutOf is σ σ'
def tG (is : List Nat) (g : Tg) : TG := fun x σ H Q => ∃ env μ ρ p, EnvOk K H ρ env σ ∧ MemOk K H ρ μ ∧ Rep K H ρ p x ∧ Post K mg E (RG K is σ) H ρ Q (g p env μ)
def tGs (is : List Nat) (g : Tgs) : TGs := fun xs σ H Q => ∃ env μ ρ ps, EnvOk K H ρ env σ ∧ MemOk K H ρ μ ∧ Reps K H ρ ps xs ∧ Post K mg E (RG K is σ) H ρ Q (g ps env μ)
/-- an iterator goes through the items while the locks hold -/
structure ItOk (H0 : Hp) (ρ0 : List Addr) (z : Its) (J : L2.It) : Prop where
  go : ∀ H ρ μ i p, Lat K H0 ρ0 H ρ → MemOk K H ρ μ → locked z.lk μ → z.items[i]? = some p → J.go i H ∧ ∀ x H', J.yld i H x H' → Lat K H ρ H' ρ ∧ MemOk K H' ρ μ ∧ Rep K H' ρ p x
  stop : ∀ H ρ μ, Lat K H0 ρ0 H ρ → MemOk K H ρ μ → locked z.lk μ → J.stop z.items.length H
def tI (f : PL.It) : TI := fun σ H R => ∃ env μ ρ, EnvOk K H ρ env σ ∧ MemOk K H ρ μ ∧ Post K mg E (fun H' ρ' z J => ItOk K H' ρ' z J) H ρ R (f env μ)
end
section
variable (X : Cx) (E : XK)
structure PP (e : Expr) (f : Ex) : Prop where pe : PE X e (tE X.K X.mg E f)
structure PPT (e : Expr) (f : Ex) : Prop where pt : PT X e (tT X.K X.mg E f)
structure PPW (e : Expr) (f : Ex) : Prop where pw : PW X e (tT X.K X.mg E f)
structure PPA (es : List Expr) (f : Ag) : Prop where
  pa : PA X es (tA X.K X.mg E f)
  len : ∀ env μ as μ', f env μ = .ok as μ' → as.length = es.length
structure PPs (st : Stmt) (f : Sm) : Prop where ps : PS X st (tS X.K X.mg E f)
structure PPb (st : List Stmt) (f : Sm) : Prop where ps : PSs X st (tS X.K X.mg E f)
structure PPG (e : Expr) (is : List Nat) (g : Tg) : Prop where pg : PG X e (tG X.K X.mg E is g)
structure PPGs (es : List Expr) (is : List Nat) (g : Tgs) : Prop where pg : PGs X es (tGs X.K X.mg E is g)
structure PPI (tg iter : Expr) (f : PL.It) : Prop where pi : PI X tg iter (tI X.K X.mg E f)
end
/-! ### weaker readings -/
section
variable {X : Cx}
theorem PE.imp {e : Expr} {t t' : TE} (h : PE X e t) (i : ∀ σ H Q, t' σ H Q → t σ H Q) : PE X e t' := ⟨fun pins s σ H Q I q => h.run pins s σ H Q I (i σ H Q q)⟩
theorem PT.imp {e : Expr} {t t' : TT} (h : PT X e t) (i : ∀ σ H Q, t' σ H Q → t σ H Q) : PT X e t' := ⟨fun pins s σ H Q I q => h.run pins s σ H Q I (i σ H Q q)⟩
theorem PW.imp {e : Expr} {t t' : TT} (h : PW X e t) (i : ∀ σ H Q, t' σ H Q → t σ H Q) : PW X e t' := ⟨fun wh pins s σ H Q I q => h.run wh pins s σ H Q I (i σ H Q q)⟩
theorem PA.imp {e : List Expr} {t t' : TA} (h : PA X e t) (i : ∀ σ H Q, t' σ H Q → t σ H Q) : PA X e t' := ⟨fun p pins s σ H Q I q => h.run p pins s σ H Q I (i σ H Q q)⟩
theorem PS.imp {e : Stmt} {t t' : TS} (h : PS X e t) (i : ∀ D σ H, t' D σ H → t D σ H) : PS X e t' := ⟨fun pins s σ H D I q => h.run pins s σ H D I (i D σ H q)⟩
theorem PSs.imp {e : List Stmt} {t t' : TS} (h : PSs X e t) (i : ∀ D σ H, t' D σ H → t D σ H) : PSs X e t' := ⟨fun pins s σ H D I q => h.run pins s σ H D I (i D σ H q)⟩
theorem PG.imp {e : Expr} {t t' : TG} (h : PG X e t) (i : ∀ v σ H Q, t' v σ H Q → t v σ H Q) : PG X e t' := ⟨fun pins s σ H v u Q I r q => h.run pins s σ H v u Q I r (i v σ H Q q)⟩
theorem PGs.imp {e : List Expr} {t t' : TGs} (h : PGs X e t) (i : ∀ v σ H Q, t' v σ H Q → t v σ H Q) : PGs X e t' := ⟨fun pins s σ H v u Q I r q => h.run pins s σ H v u Q I r (i v σ H Q q)⟩
theorem PI.imp {tg e : Expr} {t t' : TI} (h : PI X tg e t) (i : ∀ σ H Q, t' σ H Q → t σ H Q) : PI X tg e t' := ⟨fun pins s σ H Q I q => h.run pins s σ H Q I (i σ H Q q)⟩
theorem PI.or {tg e : Expr} {t t' : TI} (h : PI X tg e t) (h' : PI X tg e t') : PI X tg e (fun σ H Q => t σ H Q ∨ t' σ H Q) := ⟨fun pins s σ H Q I q => q.elim (fun q => h.run pins s σ H Q I q) fun q => h'.run pins s σ H Q I q⟩
end
section
variable {K : PySem.W.Frag} {mg : Str → Option Value} {E : XK} {H H1 : Hp} {ρ ρ1 : List Addr} {D : Ends}
theorem PostS.later {o : Out} (h : PostS K mg E H ρ D o) (l : Lat K H ρ H1 ρ1) : PostS K mg E H1 ρ1 D o := by
  cases o with
  | nx env m => exact fun a b c l' => h a b c (l.trans l')
  | bk env m => exact fun a b c l' => h a b c (l.trans l')
  | ct env m => exact fun a b c l' => h a b c (l.trans l')
  | rt env m => exact fun a b c l' => h a b c (l.trans l')
  | exc x m => exact Post.later (K := K) (mg := mg) (E := E) (R := RU) (Q := fun _ _ => True) (r := (.exc x m : Res Unit)) h l
  | stuck => exact h
theorem PostS.of {α β : Type} {R : Hp → List Addr → α → β → Prop} {r : Res α} {k : α → Mem → Out} (h : PostS K mg E H ρ D (.of r k)) :
    Post K mg E R H ρ (fun b H1 => ∃ a m ρ1, r = .ok a m ∧ Lat K H ρ H1 ρ1 ∧ MemOk K H1 ρ1 m ∧ R H1 ρ1 a b ∧ PostS K mg E H1 ρ1 D (k a m)) r := by
  cases r with
  | ok a m => exact fun b H' ρ' l M r => ⟨a, m, ρ', rfl, l, M, r, PostS.later (o := k a m) h l⟩
  | exc x m => exact h
  | stuck => exact h
theorem PostS.then {o : Out} {k : Sm} (h : PostS K mg E H ρ D (o.then k)) :
    PostS K mg E H ρ { D with nx := fun σ' H' => ∃ env m ρ', Lat K H ρ H' ρ' ∧ MemOk K H' ρ' m ∧ EnvOk K H' ρ' env σ' ∧ PostS K mg E H' ρ' D (k env m) } o := by
  cases o with
  | nx env m => exact fun σ' H' ρ' l M e => ⟨env, m, ρ', l, M, e, PostS.later (o := k env m) h l⟩
  | bk env m => exact h
  | ct env m => exact h
  | rt p m => exact h
  | exc x m => exact h
  | stuck => exact h
theorem PostS.imp {D' : Ends} {o : Out} (h : PostS K mg E H ρ D o) (h1 : ∀ σ H, D.nx σ H → D'.nx σ H) (h2 : ∀ x H, D.rt x H → D'.rt x H) (h3 : ∀ σ H, D.bk σ H → D'.bk σ H) (h4 : ∀ σ H, D.ct σ H → D'.ct σ H) : PostS K mg E H ρ D' o := by
  cases o with
  | nx env m => exact fun a b c l M e => h1 _ _ (h a b c l M e)
  | bk env m => exact fun a b c l M e => h3 _ _ (h a b c l M e)
  | ct env m => exact fun a b c l M e => h4 _ _ (h a b c l M e)
  | rt env m => exact fun a b c l M e => h2 _ _ (h a b c l M e)
  | exc x m => exact h
  | stuck => exact h
theorem tE.imp {f : Ex} {σ : L2.St} {Q Q' : VK} (h : tE K mg E f σ H Q) (i : ∀ x H', Q x H' → Q' x H') : tE K mg E f σ H Q' := by
  obtain ⟨env, μ, ρ, e, M, h⟩ := h
  exact ⟨env, μ, ρ, e, M, h.imp i⟩
end
/-! ### expressions -/
section
variable {X : Cx} {E : XK} {a b d e : Expr} {es rest : List Expr} {fa fb fd fe : Ex} {pos : Pos}
theorem pp_v (i : Nat) {x : Str} (hN : X.N[i]? = some x := by rfl) (hv : Vis X.env.scope x := by first | exact Or.inl rfl | exact Or.inr (Or.inl rfl) | exact Or.inr (Or.inr rfl)) (hd : (x == ("__debug__" : Str)) = false := by decide)
    (hcd : (x == ("__classdict__" : Str)) = false := by decide) : PP X E (.Name x pos) (v i) := ⟨by
  refine PE.imp (pe_var (i := i) hN hv hd hcd) fun σ H Q h => ?_
  obtain ⟨env, μ, ρ, e, M, h⟩ := h
  unfold v at h
  split at h
  · rename_i p hp
    obtain ⟨x, h1, h2⟩ := e.at' i p hp
    exact ⟨x, h1, h.val M h2⟩
  · exact h.elim⟩
theorem pp_const {e : Expr} {p : PV} {x : V} (h : PE X e (tC x)) (r : ∀ H ρ, Rep X.K H ρ p x) : PP X E e (c p) := ⟨by
  refine PE.imp h fun σ H Q h => ?_
  obtain ⟨env, μ, ρ, e, M, h⟩ := h
  exact Post.val (R := RP X.K) (show Post X.K X.mg E (RP X.K) H ρ Q (Res.ok p μ) from h) M (r H ρ)⟩
theorem pp_int {i : Int} {j : Nat} : PP X E (.Constant (.int i) j pos) (c (.int i)) := pp_const pe_int fun _ _ => rint
theorem pp_bl {i : Bool} {j : Nat} : PP X E (.Constant (.bool i) j pos) (c (.bl i)) := pp_const pe_bl fun _ _ => rbl
theorem pp_str {i : Str} {j : Nat} : PP X E (.Constant (.str i) j pos) (c (.str i)) := pp_const pe_str fun _ _ => rstr
theorem pp_non {j : Nat} : PP X E (.Constant .none j pos) (c .non) := pp_const pe_non fun _ _ => rnon
/-- a constant of the module -/
theorem pp_glob {x : Str} {p : PV} {w : V} {u : Value} (hm : X.mg x = some u) (r : RelV w u) (h : ∀ H ρ, Rep X.K H ρ p w) (hg : Gl X x := by rfl) (hd : (x == ("__debug__" : Str)) = false := by decide) : PP X E (.Name x pos) (c p) := pp_const (pe_glob hg hm r hd) h
/-- the step from one part to what follows -/
theorem tE_bind {K : PySem.W.Frag} {mg : Str → Option Value} {γ δ : Type} {R' : Hp → List Addr → γ → δ → Prop} {H : Hp} {ρ : List Addr} {Q' : δ → Hp → Prop} {env : Env} {μ : Mem} {σ : L2.St} {k : PV → Mem → Res γ} (eo : EnvOk K H ρ env σ) (M : MemOk K H ρ μ)
    (h : Post K mg E R' H ρ Q' ((fa env μ).bind k)) {Q : VK} (i : ∀ x H1 p m ρ1, fa env μ = .ok p m → Lat K H ρ H1 ρ1 → EnvOk K H1 ρ1 env σ → MemOk K H1 ρ1 m → Rep K H1 ρ1 p x → Post K mg E R' H1 ρ1 Q' (k p m) → Q x H1) : tE K mg E fa σ H Q :=
  ⟨env, μ, ρ, eo, M, (Post.bind (R := RP K) h).imp fun x H1 ⟨p, m, ρ1, e, l, M1, r, q⟩ => i x H1 p m ρ1 e l (eo.mono l) M1 r q⟩
theorem pp_op {op : Operator} {f : Fn} (ho : OpR X (binaryOp op) (rP2 X.K X.mg E f)) (ha : PP X E a fa) (hb : PP X E b fb) : PP X E (.BinOp a op b pos) (app2 f fa fb) := ⟨by
  refine PE.imp (pe_op ho ha.pe hb.pe) fun σ H Q h => ?_
  obtain ⟨env, μ, ρ, eo, M, h⟩ := h
  exact tE_bind eo M h fun x H1 p m ρ1 _ l1 e1 M1 r1 q1 => tE_bind e1 M1 q1 fun y H2 q m2 ρ2 _ l2 e2 M2 r2 q2 => ⟨m2, ρ2, p, q, M2, Rep.mono l2 _ _ r1, r2, q2⟩⟩
theorem pp_cmp {op : CmpOp} {f : Fn} (ho : OpR X (compareOp op) (rP2 X.K X.mg E f)) (ha : PP X E a fa) (hb : PP X E b fb) (hm : behindInMarks op b = false := by first | exact nobehind _ (by decide) (by decide) | rfl | with_unfolding_all rfl) : PP X E (.Compare a [op] [b] pos) (app2 f fa fb) := ⟨by
  refine PE.imp (pe_cmpR ho ha.pe hb.pe hm) fun σ H Q h => ?_
  obtain ⟨env, μ, ρ, eo, M, h⟩ := h
  exact tE_bind eo M h fun x H1 p m ρ1 _ l1 e1 M1 r1 q1 => tE_bind e1 M1 q1 fun y H2 q m2 ρ2 _ l2 e2 M2 r2 q2 => ⟨m2, ρ2, p, q, M2, Rep.mono l2 _ _ r1, r2, q2⟩⟩
theorem post_test {K : PySem.W.Frag} {mg : Str → Option Value} {H : Hp} {ρ : List Addr} {Q : Bool → Hp → Prop} {r : Res PV} (h : Post K mg E RB H ρ Q (r.bind asB)) : Post K mg E (RP K) H ρ (fun x H' => ∃ k, x = .bl k ∧ Q k H') r := by
  cases r with
  | ok p m =>
    cases p with
    | bl b =>
      intro x H' ρ' l M rx
      exact ⟨b, vbl rx, h b H' ρ' l M rfl⟩
    | _ => exact h.elim
  | exc x m => exact h
  | stuck => exact h
theorem tE_test {K : PySem.W.Frag} {mg : Str → Option Value} {f : Ex} {σ : L2.St} {H : Hp} {Q : Bool → Hp → Prop} (h : tT K mg E f σ H Q) : tE K mg E f σ H (fun x H' => ∃ k, x = .bl k ∧ Q k H') := by
  obtain ⟨env, μ, ρ, e, M, h⟩ := h
  exact ⟨env, μ, ρ, e, M, post_test h⟩
/-- a test's outcome, then what follows -/
theorem tT_bind {K : PySem.W.Frag} {mg : Str → Option Value} {γ δ : Type} {R' : Hp → List Addr → γ → δ → Prop} {H : Hp} {ρ : List Addr} {Q' : δ → Hp → Prop} {env : Env} {μ : Mem} {σ : L2.St} {k1 k2 : Mem → Res γ} (eo : EnvOk K H ρ env σ) (M : MemOk K H ρ μ)
    (h : Post K mg E R' H ρ Q' ((fa env μ).bind fun p m => onB p (k1 m) (k2 m))) {Q : Bool → Hp → Prop} (i : ∀ t H1 m ρ1, fa env μ = .ok (.bl t) m → Lat K H ρ H1 ρ1 → EnvOk K H1 ρ1 env σ → MemOk K H1 ρ1 m → Post K mg E R' H1 ρ1 Q' (if t = true then k1 m else k2 m) → Q t H1) : tT K mg E fa σ H Q := by
  refine ⟨env, μ, ρ, eo, M, ?_⟩
  cases e : fa env μ with
  | ok p m =>
    rw [e] at h
    cases p with
    | bl t =>
      intro b H1 ρ1 l M1 rb
      cases rb
      refine i t H1 m ρ1 e l (eo.mono l) M1 ?_
      have h2 : Post K mg E R' H ρ Q' (onB (.bl t) (k1 m) (k2 m)) := h
      rw [onB_bl] at h2
      exact h2.later l
    | _ => exact h.elim
  | exc x m => rw [e] at h; exact h
  | stuck => rw [e] at h; exact h
/-- a value that is a truth value, as a test -/
theorem PP.t (h : PP X E e fe) (he : ∀ whole, isTrue e X.env whole = (do let v ← whole; standAt e.pos; holding [v] (truthy v)) := by intro _; rfl) : PPT X E e fe := ⟨PT.imp (pt_val h.pe he) fun _ _ _ h => tE_test h⟩
theorem ppt_cmp {op : CmpOp} {f : Fn} (ho : OpR X (compareOp op) (rP2 X.K X.mg E f)) (ha : PP X E a fa) (hb : PP X E b fb) (hm : behindInMarks op b = false := by first | exact nobehind _ (by decide) (by decide) | rfl | with_unfolding_all rfl) : PPT X E (.Compare a [op] [b] pos) (app2 f fa fb) := ⟨by
  refine PT.imp (pt_cmpR ho ha.pe hb.pe hm) fun σ H Q h => ?_
  obtain ⟨env, μ, ρ, eo, M, h⟩ := tE_test h
  exact tE_bind eo M h fun x H1 p m ρ1 _ l1 e1 M1 r1 q1 => tE_bind e1 M1 q1 fun y H2 q m2 ρ2 _ l2 e2 M2 r2 q2 => ⟨m2, ρ2, p, q, M2, Rep.mono l2 _ _ r1, r2, q2⟩⟩
theorem chain_read {f g : Fn} {K : PySem.W.Frag} {mg : Str → Option Value} {σ : L2.St} {H : Hp} {Q : VK} (h : tE K mg E (chain f g fa fb fd) σ H Q) : tChain (rP2 K mg E f) (rP2 K mg E g) (tE K mg E fa) (tE K mg E fb) (tE K mg E fd) σ H Q := by
  obtain ⟨env, μ, ρ, eo, M, h⟩ := h
  refine tE_bind eo M h fun x H1 p m ρ1 _ l1 e1 M1 r1 q1 => tE_bind e1 M1 q1 fun y H2 q m2 ρ2 _ l2 e2 M2 r2 q2 => ⟨m2, ρ2, p, q, M2, Rep.mono l2 _ _ r1, r2, ?_⟩
  have q3 := Post.bind (R := RP K) q2
  cases z : f [p, q] m2 with
  | ok t m3 =>
    rw [z] at q3 q2
    cases t with
    | bl t =>
      intro w H3 ρ3 l3 M3 rw3
      obtain rfl := vbl rw3
      refine ⟨t, rfl, ?_⟩
      have q4 : Post K mg E (RP K) H3 ρ3 Q (onB (.bl t) ((fd env m3).bind fun r μ4 => g [q, r] μ4) (.ok (.bl false) m3)) := Post.later (show Post K mg E (RP K) H2 ρ2 Q (onB (.bl t) _ _) from q2) l3
      cases t with
      | true => exact tE_bind (e2.mono l3) M3 q4 fun y4 H4 r m4 ρ4 _ l4 e4 M4 r4 q5 => ⟨m4, ρ4, q, r, M4, Rep.mono (l3.trans l4) _ _ r2, r4, q5⟩
      | false => exact Post.val (show Post K mg E (RP K) H3 ρ3 Q (Res.ok (.bl false) m3) from q4) M3 rbl
    | _ => exact (show False from q2).elim
  | exc x m3 => rw [z] at q2; exact q2
  | stuck => rw [z] at q2; exact q2
theorem pp_chain {op op' : CmpOp} {f g : Fn} (ho : OpR X (compareOp op) (rP2 X.K X.mg E f)) (ho' : OpR X (compareOp op') (rP2 X.K X.mg E g)) (ha : PP X E a fa) (hb : PP X E b fb) (hc : PP X E d fd)
    (hm : lastMarks [op, op'] [b, d] = false := by with_unfolding_all rfl) : PP X E (.Compare a [op, op'] [b, d] pos) (chain f g fa fb fd) := ⟨PE.imp (pe_chain ho ho' ha.pe hb.pe hc.pe hm) fun _ _ _ h => chain_read h⟩
theorem ppt_chain {op op' : CmpOp} {f g : Fn} (ho : OpR X (compareOp op) (rP2 X.K X.mg E f)) (ho' : OpR X (compareOp op') (rP2 X.K X.mg E g)) (ha : PP X E a fa) (hb : PP X E b fb) (hc : PP X E d fd)
    (hm : lastMarks [op, op'] [b, d] = false := by with_unfolding_all rfl) : PPT X E (.Compare a [op, op'] [b, d] pos) (chain f g fa fb fd) := ⟨PT.imp (pt_chain ho ho' ha.pe hb.pe hc.pe hm) fun _ _ _ h => chain_read (tE_test h)⟩
/-! and, or, not -/
theorem pp_one {op : BoolOp} (h : PP X E a fa) : PP X E (.BoolOp op [a] pos) fa := ⟨pe_one h.pe⟩
theorem pp_and (ha : PP X E a fa) (hb : PP X E (.BoolOp .And (b :: rest) pos) fb) : PP X E (.BoolOp .And (a :: b :: rest) pos) (and fa fb) := ⟨by
  refine PE.imp (pe_and ha.pe hb.pe) fun σ H Q h => ?_
  obtain ⟨env, μ, ρ, eo, M, h⟩ := h
  have h2 : tT X.K X.mg E fa σ H (fun c H1 => if c = true then tE X.K X.mg E fb σ H1 Q else Q (.bl false) H1) := tT_bind (k1 := fun m => fb env m) (k2 := fun m => .ok (.bl false) m) eo M h fun t H1 m ρ1 _ l1 e1 M1 q1 => by
    cases t with
    | true => exact ⟨env, m, ρ1, e1, M1, q1⟩
    | false => exact Post.val (show Post X.K X.mg E (RP X.K) H1 ρ1 Q (Res.ok (.bl false) m) from q1) M1 rbl
  exact tE_test h2⟩
theorem pp_or (ha : PP X E a fa) (hb : PP X E (.BoolOp .Or (b :: rest) pos) fb) : PP X E (.BoolOp .Or (a :: b :: rest) pos) (or fa fb) := ⟨by
  refine PE.imp (pe_or ha.pe hb.pe) fun σ H Q h => ?_
  obtain ⟨env, μ, ρ, eo, M, h⟩ := h
  have h2 : tT X.K X.mg E fa σ H (fun c H1 => if c = true then Q (.bl true) H1 else tE X.K X.mg E fb σ H1 Q) := tT_bind (k1 := fun m => .ok (.bl true) m) (k2 := fun m => fb env m) eo M h fun t H1 m ρ1 _ l1 e1 M1 q1 => by
    cases t with
    | false => exact ⟨env, m, ρ1, e1, M1, q1⟩
    | true => exact Post.val (show Post X.K X.mg E (RP X.K) H1 ρ1 Q (Res.ok (.bl true) m) from q1) M1 rbl
  exact tE_test h2⟩
theorem post_notB {K : PySem.W.Frag} {mg : Str → Option Value} {H : Hp} {ρ : List Addr} {Q : VK} {p : PV} {m : Mem} {x : V} (M : MemOk K H ρ m) (r : Rep K H ρ p x) (h : Post K mg E (RP K) H ρ Q (fNot [p] m)) : ∃ c, x = .bl c ∧ Q (.bl (!c)) H := by
  cases p with
  | bl b => exact ⟨b, vbl r, Post.val (show Post K mg E (RP K) H ρ Q (Res.ok (.bl (!b)) m) from h) M rbl⟩
  | _ => exact h.elim
theorem pp_not (ha : PP X E a fa) : PP X E (.UnaryOp .Not a pos) (app1 fNot fa) := ⟨by
  refine PE.imp (pe_not ha.pe) fun σ H Q h => ?_
  obtain ⟨env, μ, ρ, eo, M, h⟩ := h
  exact tE_bind eo M h fun x H1 p m ρ1 _ l1 e1 M1 r1 q1 => post_notB M1 r1 q1⟩
theorem ppt_not (ha : PPT X E a fa) : PPT X E (.UnaryOp .Not a pos) (app1 fNot fa) := ⟨by
  refine PT.imp (pt_not ha.pt) fun σ H Q h => ?_
  obtain ⟨env, μ, ρ, eo, M, h⟩ := h
  refine ⟨env, μ, ρ, eo, M, ?_⟩
  unfold app1 at h
  cases z : fa env μ with
  | ok p m =>
    rw [z] at h
    cases p with
    | bl b =>
      intro b' H1 ρ1 l1 M1 e
      cases e
      exact h (!b) H1 ρ1 l1 M1 rfl
    | _ => exact h.elim
  | exc x m => rw [z] at h; exact h
  | stuck => rw [z] at h; exact h⟩
theorem ppw_and1 (ha : PPT X E a fa) : PPW X E (.BoolOp .And [a] pos) fa := ⟨pw_and1 ha.pt⟩
theorem ppw_or1 (ha : PPT X E a fa) : PPW X E (.BoolOp .Or [a] pos) fa := ⟨pw_or1 ha.pt⟩
theorem bind_onB {α β : Type} (p : PV) (a b : Res α) (k : α → Mem → Res β) : (onB p a b).bind k = onB p (a.bind k) (b.bind k) := by
  cases p with
  | bl t => cases t <;> rfl
  | _ => rfl
theorem bind_bind {α β γ : Type} (r : Res α) (k : α → Mem → Res β) (j : β → Mem → Res γ) : (r.bind k).bind j = r.bind fun a m => (k a m).bind j := by cases r <;> rfl
theorem ppw_and (ha : PPT X E a fa) (hb : PPW X E (.BoolOp .And (b :: rest) pos) fb) : PPW X E (.BoolOp .And (a :: b :: rest) pos) (and fa fb) := ⟨by
  refine PW.imp (pw_and ha.pt hb.pw) fun σ H Q h => ?_
  obtain ⟨env, μ, ρ, eo, M, h⟩ := h
  unfold PL.and at h
  rw [bind_bind] at h
  simp only [bind_onB] at h
  exact tT_bind (k1 := fun m => (fb env m).bind asB) (k2 := fun m => .ok false m) eo M h fun t H1 m ρ1 _ l1 e1 M1 q1 => by
    cases t with
    | true => exact ⟨env, m, ρ1, e1, M1, q1⟩
    | false => exact Post.val (R := RB) (show Post X.K X.mg E RB H1 ρ1 Q (Res.ok false m) from q1) M1 rfl⟩
theorem ppw_or (ha : PPT X E a fa) (hb : PPW X E (.BoolOp .Or (b :: rest) pos) fb) : PPW X E (.BoolOp .Or (a :: b :: rest) pos) (or fa fb) := ⟨by
  refine PW.imp (pw_or ha.pt hb.pw) fun σ H Q h => ?_
  obtain ⟨env, μ, ρ, eo, M, h⟩ := h
  unfold PL.or at h
  rw [bind_bind] at h
  simp only [bind_onB] at h
  exact tT_bind (k1 := fun m => .ok true m) (k2 := fun m => (fb env m).bind asB) eo M h fun t H1 m ρ1 _ l1 e1 M1 q1 => by
    cases t with
    | false => exact ⟨env, m, ρ1, e1, M1, q1⟩
    | true => exact Post.val (R := RB) (show Post X.K X.mg E RB H1 ρ1 Q (Res.ok true m) from q1) M1 rfl⟩
theorem PPW.t (h : PPW X E a fa) : PPT X E a fa := ⟨h.pw.pt⟩
theorem pp_ite (ht : PPT X E e fe) (ha : PP X E a fa) (hb : PP X E b fb) : PP X E (.IfExp e a b pos) (ite fe fa fb) := ⟨by
  refine PE.imp (pe_ifExp ht.pt ha.pe hb.pe) fun σ H Q h => ?_
  obtain ⟨env, μ, ρ, eo, M, h⟩ := h
  exact tT_bind (k1 := fun m => fa env m) (k2 := fun m => fb env m) eo M h fun t H1 m ρ1 _ l1 e1 M1 q1 => by
    cases t with
    | true => exact ⟨env, m, ρ1, e1, M1, q1⟩
    | false => exact ⟨env, m, ρ1, e1, M1, q1⟩⟩
theorem pp_un {op : UnaryOp} {f : Fn} (ho : UnR X (unaryOp op) (rP1 X.K X.mg E f)) (ha : PP X E a fa) : PP X E (.UnaryOp op a pos) (app1 f fa) := ⟨by
  refine PE.imp (pe_un ho ha.pe) fun σ H Q h => ?_
  obtain ⟨env, μ, ρ, eo, M, h⟩ := h
  exact tE_bind eo M h fun x H1 p m ρ1 _ l1 e1 M1 r1 q1 => ⟨m, ρ1, p, M1, r1, q1⟩⟩
/-! argument lists, displays -/
theorem ppa_nil : PPA X E [] an := ⟨by
  refine PA.imp pa_nil fun σ H Q h => ?_
  obtain ⟨env, μ, ρ, eo, M, h⟩ := h
  exact Post.val (R := RPs X.K) (show Post X.K X.mg E (RPs X.K) H ρ Q (Res.ok [] μ) from h) M .nil, fun env μ as μ' e => by cases e; rfl⟩
theorem tA_bind {K : PySem.W.Frag} {mg : Str → Option Value} {γ δ : Type} {R' : Hp → List Addr → γ → δ → Prop} {H : Hp} {ρ : List Addr} {Q' : δ → Hp → Prop} {env : Env} {μ : Mem} {σ : L2.St} {f : Ag} {k : List PV → Mem → Res γ} (eo : EnvOk K H ρ env σ) (M : MemOk K H ρ μ)
    (h : Post K mg E R' H ρ Q' ((f env μ).bind k)) {Q : List V → Hp → Prop} (i : ∀ xs H1 ps m ρ1, f env μ = .ok ps m → Lat K H ρ H1 ρ1 → EnvOk K H1 ρ1 env σ → MemOk K H1 ρ1 m → Reps K H1 ρ1 ps xs → Post K mg E R' H1 ρ1 Q' (k ps m) → Q xs H1) : tA K mg E f σ H Q :=
  ⟨env, μ, ρ, eo, M, (Post.bind (R := RPs K) h).imp fun x H1 ⟨p, m, ρ1, e, l, M1, r, q⟩ => i x H1 p m ρ1 e l (eo.mono l) M1 r q⟩
theorem ppa_cons {f : Ag} (ha : PP X E a fa) (hr : PPA X E es f) (hs : starEach (a :: es) X.env = (false, eval a X.env) :: starEach es X.env := by rfl) : PPA X E (a :: es) (ac fa f) := ⟨by
  refine PA.imp (pa_cons ha.pe hr.pa hs) fun σ H Q h => ?_
  obtain ⟨env, μ, ρ, eo, M, h⟩ := h
  exact tE_bind eo M h fun x H1 p m ρ1 _ l1 e1 M1 r1 q1 => tA_bind e1 M1 q1 fun xs H2 ps m2 ρ2 _ l2 e2 M2 r2 q2 =>
    Post.val (R := RPs X.K) (show Post X.K X.mg E (RPs X.K) H2 ρ2 Q (Res.ok (p :: ps) m2) from q2) M2 (.cons (Rep.mono l2 _ _ r1) r2), fun env μ as μ' e => by
    unfold ac at e
    cases z : fa env μ with
    | ok p m =>
      rw [z] at e
      cases z2 : f env m with
      | ok qs m2 =>
        have e' : (Res.ok (p :: qs) m2 : Res (List PV)) = .ok as μ' := by
          have h3 : ((f env m).bind fun ps μ2 => Res.ok (p :: ps) μ2) = .ok as μ' := e
          rw [z2] at h3
          exact h3
        cases e'
        simp [hr.len _ _ _ _ z2]
      | exc x m2 =>
        have h3 : ((f env m).bind fun ps μ2 => Res.ok (p :: ps) μ2) = .ok as μ' := e
        rw [z2] at h3
        cases h3
      | stuck =>
        have h3 : ((f env m).bind fun ps μ2 => Res.ok (p :: ps) μ2) = .ok as μ' := e
        rw [z2] at h3
        cases h3
    | exc x m => rw [z] at e; cases e
    | stuck => rw [z] at e; cases e⟩
theorem pp_tup {f : Ag} {k : Nat} (h : PPA X E es f) : PP X E (.Tuple es k pos) (app fTup f) := ⟨by
  refine PE.imp (pe_tup h.pa) fun σ H Q h => ?_
  obtain ⟨env, μ, ρ, eo, M, h⟩ := h
  refine tA_bind eo M h fun xs H1 ps m ρ1 _ l1 e1 M1 r1 q1 => ?_
  unfold fTup at q1
  split at q1
  · rename_i hz
    exact ⟨by rw [SL_eq, r1.length]; exact hz, q1.newT M1 r1⟩
  · exact q1.elim⟩
theorem pp_lst {f : Ag} (h : PPA X E es f) : PP X E (.List es pos) (app fLst f) := ⟨by
  refine PE.imp (pe_lst h.pa) fun σ H Q h => ?_
  obtain ⟨env, μ, ρ, eo, M, h⟩ := h
  refine tA_bind eo M h fun xs H1 ps m ρ1 _ l1 e1 M1 r1 q1 => ?_
  unfold fLst at q1
  split at q1
  · rename_i hz
    exact ⟨by rw [SL_eq, r1.length]; exact hz, q1.newL M1 r1⟩
  · exact q1.elim⟩
/-! places and slices -/
theorem pp_ix (ha : PP X E a fa) (hb : PP X E b fb) (hs : PlainIx b := by intro _ _; rfl) : PP X E (.Subscript a b pos) (app2 fIx fa fb) := ⟨by
  refine PE.imp (pe_ix (ixP (E := E)) ha.pe hb.pe hs) fun σ H Q h => ?_
  obtain ⟨env, μ, ρ, eo, M, h⟩ := h
  exact tE_bind eo M h fun x H1 p m ρ1 _ l1 e1 M1 r1 q1 => tE_bind e1 M1 q1 fun y H2 q m2 ρ2 _ l2 e2 M2 r2 q2 => ⟨m2, ρ2, p, q, M2, Rep.mono l2 _ _ r1, r2, q2⟩⟩
def rSlP (K : PySem.W.Frag) (mg : Str → Option Value) (E : XK) : V → Option Int → Option Int → Hp → VK → Prop := fun x lo hi H Q => ∃ μ ρ p ql qh, MemOk K H ρ μ ∧ Rep K H ρ p x ∧ optI ql = some lo ∧ optI qh = some hi ∧ Post K mg E (RP K) H ρ Q (fSl [p, ql, qh] μ)
theorem sIx_eq (n d : Nat) (o : Option Int) : PL.sIx n d o = HT.sIx n d o := by cases o <;> rfl
theorem slP : SlR X (rSlP X.K X.mg E) := by
  intro pins s σ H x v vl vu lo hi sl Q I rx hs pl pu h
  obtain ⟨μ, ρ, p, ql, qh, M, hp, e1, e2, h⟩ := h
  simp only [fSl, e1, e2] at h
  cases p with
  | tup l =>
    obtain ⟨a, xs, rfl, k1, k2⟩ := rep_tup hp
    refine sl_tupA pins s σ H _ v vl vu lo hi sl Q I rx hs pl pu ⟨a, xs, rfl, k1, fun hw => ?_, fun _ => h.newT M (cut_get lo hi k2)⟩
    refine h.val M ?_
    show Rep _ _ _ _ _
    simp only [Rep]
    refine ⟨a, xs, rfl, k1, ?_⟩
    have e : cut l lo hi = l := by
      unfold cut
      rw [← k2.length, sIx_eq, sIx_eq, hw.1, hw.2, List.drop_zero, Nat.sub_zero]
      exact List.take_of_length_le (by rw [k2.length]; exact Nat.le_refl _)
    rw [e]
    exact k2
  | ref n =>
    simp only at h
    split at h
    · rename_i l hl
      obtain ⟨a, xs, rfl, k1, k2, _⟩ := getL_ref M hp hl
      exact sl_list pins s σ H _ v vl vu lo hi sl Q I rx hs pl pu ⟨a, xs, rfl, k1, h.newL M (cut_get lo hi k2)⟩
    · exact h.elim
  | str z =>
    obtain rfl := vstr hp
    simp only at h
    split at h
    · rename_i hz
      refine sl_str pins s σ H _ v vl vu lo hi sl Q I rx hs pl pu ⟨z, rfl, by rw [SL_eq]; exact hz, ?_⟩
      have hh := h.val M rstr
      have e : cutS z lo hi = ⟨(cut z.cps.toList lo hi).toArray⟩ := by
        unfold cutS cut
        have ez : z.cps.toList.length = z.length := by cases z; simp [Str.length]
        rw [ez, sIx_eq, sIx_eq]
      rw [e]
      exact hh
    · exact h.elim
  | _ => exact h.elim
/-- an optional part of a slice -/
structure PPO (X : Cx) (E : XK) (e : Option Expr) (f : Ex) : Prop where
  po : L2.PO X e (fun σ H Q => ∃ env μ ρ, EnvOk X.K H ρ env σ ∧ MemOk X.K H ρ μ ∧ Post X.K X.mg E (fun _ _ q o => optI q = some o) H ρ Q ((f env μ).bind onPart))
theorem PO.imp {e : Option Expr} {t t' : TO} (h : L2.PO X e t) (i : ∀ σ H Q, t' σ H Q → t σ H Q) : L2.PO X e t' := ⟨fun pins s σ H Q I q => h.run pins s σ H Q I (i σ H Q q)⟩
theorem ppo_none : PPO X E none (c .non) := ⟨by
  refine PO.imp po_none fun σ H Q h => ?_
  obtain ⟨env, μ, ρ, eo, M, h⟩ := h
  exact Post.val (R := fun _ _ q o => optI q = some o) (show Post X.K X.mg E (fun _ _ q o => optI q = some o) H ρ Q (Res.ok PV.non μ) from h) M rfl⟩
theorem ppo_some (h : PP X E e fe) : PPO X E (some e) (app1 fPart fe) := ⟨by
  refine PO.imp (po_some h.pe) fun σ H Q h => ?_
  obtain ⟨env, μ, ρ, eo, M, h⟩ := h
  unfold app1 at h
  rw [bind_bind] at h
  refine tE_bind eo M h fun x H1 p m ρ1 _ l1 e1 M1 r1 q1 => ?_
  cases p with
  | int i => exact ⟨i, vint r1, Post.val (R := fun _ _ q o => optI q = some o) (show Post X.K X.mg E (fun _ _ q o => optI q = some o) H1 ρ1 Q (Res.ok (PV.int i) m) from q1) M1 rfl⟩
  | _ => exact q1.elim⟩
theorem pp_sl {lo hi : Option Expr} {fl fh : Ex} {p2 : Pos} (ha : PP X E a fa) (hl : PPO X E lo fl) (hh : PPO X E hi fh) : PP X E (.Subscript a (.Slice lo hi none p2) pos) (sl fa fl fh) := ⟨by
  refine PE.imp (pe_slice (slP (E := E)) ha.pe hl.po hh.po) fun σ H Q h => ?_
  obtain ⟨env, μ, ρ, eo, M, h⟩ := h
  refine tE_bind eo M h fun x H1 p m ρ1 _ l1 e1 M1 r1 q1 => ⟨env, m, ρ1, e1, M1, (Post.bind (R := fun _ _ q o => optI q = some o) q1).imp fun lo H2 h2 => ?_⟩
  obtain ⟨ql, m2, ρ2, _, l2, M2, eql, q2⟩ := h2
  refine ⟨env, m2, ρ2, e1.mono l2, M2, (Post.bind (R := fun _ _ q o => optI q = some o) q2).imp fun hi H3 h3 => ?_⟩
  obtain ⟨qh, m3, ρ3, _, l3, M3, eqh, q3⟩ := h3
  exact ⟨m3, ρ3, p, ql, qh, M3, Rep.mono (l2.trans l3) _ _ r1, eql, eqh, q3⟩⟩
/-! t[::-1] of tuples and lists -/
theorem fm_congr {α β : Type} {f g : α → Option β} : ∀ l : List α, (∀ x ∈ l, f x = g x) → l.filterMap f = l.filterMap g
  | [], _ => rfl
  | x :: xs, h => by
    rw [List.filterMap_cons, List.filterMap_cons, h x List.mem_cons_self, fm_congr xs fun y hy => h y (List.mem_cons_of_mem _ hy)]
section
open PySem.Spec PyProof.Rows HT
section
variable {prog : Program} {w : World} {A : Around} {Ex : Value → Shared → Prop} {s : Shared}
theorem sliceApplied_rev {sl : Addr} {vs : Value} {n : Nat} {Q : Int × Int × Nat → Shared → Prop} (hs : s.heap.IsSliceOf sl .none .none vs) (ps : IsPart vs (some (-1)))
    (h : Q ((n : Int) - 1, -1, n) s) : wpAny (model prog w) A (Builtin.Slice.sliceApplied (.ref sl) (pure (n : Int))) Q Ex s := by
  obtain ⟨os, hos, hcs, hds⟩ := id hs
  unfold Builtin.Slice.sliceApplied Builtin.Slice.sliceFields
  refine wpAny_bind (wpAny_bind (wpAny_field hos hds (x := .none) rfl (wpAny_bind (wpAny_field hos hds (x := .none) rfl (wpAny_bind (wpAny_field hos hds (x := vs) rfl (wpAny_pure ?_)))))))
  refine wpAny_bind (HT.slicePart_ ps ?_)
  show wpAny _ _ (if ((-1 : Int) == 0) = true then _ else _) _ _ s
  rw [if_neg (by decide)]
  refine wpAny_bind (HT.slicePart_ .none (wpAny_bind (HT.slicePart_ .none (wpAny_bind (wpAny_pure ?_)))))
  have e : Builtin.Slice.slicePlaces ((n : Int) - 1) (-1) (-1) = n := by
    unfold Builtin.Slice.slicePlaces
    have h1 : ¬ ((-1 : Int) > 0) := by omega
    simp only [h1, if_false]
    have h2 : (- -1 : Int) = 1 := by decide
    rw [h2, Int.ediv_one]
    split <;> omega
  show wpAny _ _ (pure ((n : Int) - 1, (-1 : Int), Builtin.Slice.slicePlaces ((n : Int) - 1) (-1) (-1))) _ _ s
  rw [e]
  exact wpAny_pure h
theorem pick_rev (xs : Array Value) : ((List.range xs.size).filterMap fun (m : Nat) => xs[(((xs.size : Int) - 1) + (m : Int) * (-1)).toNat]?).toArray = xs.toList.reverse.toArray := by
  have e : (List.range xs.size).filterMap (fun (m : Nat) => xs[(((xs.size : Int) - 1) + (m : Int) * (-1)).toNat]?) = ((List.range xs.size).map fun k => xs.size - 1 - k).filterMap (xs[·]?) := by
    rw [List.filterMap_map]
    apply fm_congr
    intro m hm
    have := List.mem_range.mp hm
    have e : (((xs.size : Int) - 1) + (m : Int) * (-1)).toNat = xs.size - 1 - m := by omega
    rw [e]; rfl
  rw [e, PySem.W.krv_range, List.filterMap_reverse, PySem.W.krv_all]
theorem getItem_tuple_rev {t sl : Addr} {items : Array Value} {vs : Value} {Q : Value → Shared → Prop} (ht : IsTup s.heap t items) (hs : s.heap.IsSliceOf sl .none .none vs) (ps : IsPart vs (some (-1)))
    (h : Q (.ref s.heap.objs.size) { s with heap := s.heap.push { cls := .type "tuple", data := .seq items.toList.reverse.toArray } })
    (hsz : items.size ≤ sizeLine) : wpAny (model prog w) A (getItem (.ref t) (.ref sl)) Q Ex s := by
  have htake : sizeOk (.seq items.toList.reverse.toArray) := by
    show items.toList.reverse.toArray.size ≤ sizeLine
    rw [List.size_toArray, List.length_reverse, Array.length_toList]
    exact hsz
  obtain ⟨os, hos, hcs, hds⟩ := id hs
  have hTs : s.TypeIs (.ref sl) "slice" := ⟨os, hos, hcs⟩
  unfold getItem
  try with_reducible refine wpAny_holding ?_
  first | refine wpAny_bind (wpAny_pure ?_) | skip
  refine wpAny_bind (wpAny_sequenceKey ht.typeIs (by decide) ?_)
  refine wpAny_bind (wpAny_callSpecial?_slot (name := Str.ofString "__getitem__") ht.typeIs PyProof.Rows.slot_tuple_getitem
    (wpAny_call_entry PyProof.Rows.slot_tuple_getitem ht.typeIs entry_tuple_getitem ?_ (args_tuple_getitem _ _)))
  show wpAny _ _ (Builtin.Tuple.tupleItemsOf (.ref t) >>= _) _ _ s
  refine wpAny_bind (tupleItemsOf_ ht ?_)
  refine wpAny_bind (wpAny_typeOf hTs ?_)
  rw [if_pos (by decide)]
  refine wpAny_bind (sliceApplied_rev hs ps ?_)
  have hno : ¬ ((((items.size : Int) - 1) == 0 && (-1 : Int) == 1 && items.size == items.size) = true) := by
    intro q
    rw [Bool.and_eq_true, Bool.and_eq_true] at q
    exact absurd q.1.2 (by decide)
  show wpAny _ _ (if ((((items.size : Int) - 1) == 0 && (-1 : Int) == 1 && items.size == items.size) = true) then _ else _) _ _ s
  rw [if_neg hno, pick_rev]
  first
    | exact wpAny_bind (m := Builtin.Tuple.tupleExact _) (wpAny_newObj_type (wpAny_pure ⟨_, rfl, wpAny_pure h⟩) htake)
    | exact wpAny_bind (m := Builtin.Tuple.tupleExact _) (wpAny_newObj_type (wpAny_bind (wpAny_pure (wpAny_pure ⟨_, rfl, wpAny_pure h⟩))) htake)
    | exact wpAny_bind (wpAny_bind (m := Builtin.Tuple.tupleExact _) (wpAny_newObj_type (wpAny_pure (wpAny_pure ⟨_, rfl, wpAny_pure h⟩)) htake))
    | exact wpAny_bind (wpAny_bind (m := Builtin.Tuple.tupleExact _) (wpAny_newObj_type (wpAny_pure ⟨_, rfl, wpAny_pure h⟩) htake))
end
def tRevA (K : PySem.W.Frag) (te : L2.TE) : L2.TE := fun σ H Q => te σ H fun x H1 => ∃ a xs, x = .ref a ∧
  ((SqL K H1 a xs ∧ ∀ p, H1 p = none → Q (.ref p) (upd H1 p (.lst xs.reverse))) ∨ (SqT K H1 a xs ∧ ∀ p, H1 p = none → Q (.ref p) (upd H1 p (.tup xs.reverse))))
theorem pe_revA {e : Expr} {te : L2.TE} {k : Nat} {p1 p2 p3 pos : Pos} (he : PE X e te) : PE X (.Subscript e (.Slice none none (some (.UnaryOp .USub (.Constant (.int 1) k p1) p2)) p3) pos) (tRevA X.K te) := by
  refine ⟨fun pins s σ H Q I h => ?_⟩
  refine Subscript_ (thn (he.run pins s σ H _ I h) fun v s1 ⟨x, H1, I1, r1, q1⟩ => ?_)
  obtain ⟨a, xs, ex, hx⟩ := q1
  subst ex
  cases r1
  have hst : L2.PO X (some (.UnaryOp .USub (.Constant (.int 1) k p1) p2)) (tPart (tUn (rU fun i => .int (-i)) (tC (.int 1)))) := po_some (pe_un un_neg pe_int)
  refine wpAny_Slice (thn (po_none.run pins s1 σ H1 (fun o H2 => o = none ∧ H2 = H1) I1 ⟨rfl, rfl⟩) fun vl s2 ⟨l, H2, I2, pl, el, e2⟩ => ?_)
  subst el e2
  refine thn (po_none.run pins s2 σ H2 (fun o H3 => o = none ∧ H3 = H2) I2 ⟨rfl, rfl⟩) fun vu s3 ⟨u, H3, I3, pu, eu, e3⟩ => ?_
  subst eu e3
  refine thn (hst.run pins s3 σ H3 (fun o H4 => o = some (-1) ∧ H4 = H3) I3 ⟨1, rfl, -1, rfl, rfl, rfl⟩) fun vs s4 ⟨o, H4, I4, ps, eo, e4⟩ => ?_
  subst eo e4
  have I5 : Inv X pins σ H4 { s4 with heap := s4.heap.push { cls := .type "slice", data := .fields #[vl, vu, vs] } } := I4.kept (t' := s4.toks) fun b ob q => Heap.get?_push_of_some _ q
  rcases hx with ⟨hx, q⟩ | ⟨hx, q⟩
  · obtain ⟨its, r, ht, hz⟩ := I5.list hx
    have hlen := r.length
    show wpAny (model X.prog X.w) X.A (subscriptTail e (.Slice none none (some (.UnaryOp .USub (.Constant (.int 1) k p1) p2)) p3) (.ref a) (.ref s4.heap.objs.size)) (EP X pins σ Q) X.xe { s4 with heap := s4.heap.push { cls := .type "slice", data := .fields #[vl, vu, vs] } }
    refine tail_any (ops := [.ref a, .ref s4.heap.objs.size]) ht.isList.typeIs (PySem.slot_list_getitem.lookup) ?_ (by with_unfolding_all rfl)
    refine wpAny_getItem_list_slice ht.isList (Heap.IsSliceOf.new _ vl vu vs) pl pu ps (by decide) ?_ (by rw [List.size_toArray]; omega)
    rw [PySem.W.krv_pick]
    refine ⟨.ref _, _, I5.laid (t' := s4.toks) (o := .lst xs.reverse) (fun b ob q => Heap.get?_push_of_some _ q) (Nat.le_refl _) ?_, rfl, q _ (I5.hok.fresh (Nat.le_refl _))⟩
    exact ⟨by rw [List.length_reverse]; exact hz, _, 0, r.reverse, Heap.get?_push_size _ rfl⟩
  · obtain ⟨its, r, ht, hz⟩ := I5.tuple hx
    have hlen := r.length
    cases pl
    cases pu
    show wpAny (model X.prog X.w) X.A (subscriptTail e (.Slice none none (some (.UnaryOp .USub (.Constant (.int 1) k p1) p2)) p3) (.ref a) (.ref s4.heap.objs.size)) (EP X pins σ Q) X.xe { s4 with heap := s4.heap.push { cls := .type "slice", data := .fields #[.none, .none, vs] } }
    refine tail_any (ops := [.ref a, .ref s4.heap.objs.size]) ht.typeIs (PyProof.Rows.slot_tuple_getitem.lookup) ?_ (by with_unfolding_all rfl)
    refine getItem_tuple_rev ht (Heap.IsSliceOf.new _ .none .none vs) ps ?_ (by rw [List.size_toArray]; omega)
    refine ⟨.ref _, _, I5.laid (t' := s4.toks) (o := .tup xs.reverse) (fun b ob q => Heap.get?_push_of_some _ q) (Nat.le_refl _) ?_, rfl, q _ (I5.hok.fresh (Nat.le_refl _))⟩
    exact ⟨by rw [List.length_reverse]; exact hz, _, r.reverse, IsTup.new _ _⟩
end
theorem pp_revL {k : Nat} {p1 p2 p3 : Pos} (ha : PP X E a fa) : PP X E (.Subscript a (.Slice none none (some (.UnaryOp .USub (.Constant (.int 1) k p1) p2)) p3) pos)
    (app1 fRevL fa) := ⟨by
  refine PE.imp (pe_revA ha.pe) fun σ H Q h => ?_
  obtain ⟨env, μ, ρ, eo, M, h⟩ := h
  refine tE_bind eo M h fun x H1 p m ρ1 _ l1 e1 M1 r1 q1 => ?_
  cases p with
  | ref n =>
    simp only [fRevL, fRev] at q1
    split at q1
    · rename_i l hl
      obtain ⟨a, xs, rfl, k1, k2, _⟩ := getL_ref M1 r1 hl
      exact ⟨a, xs, rfl, .inl ⟨k1, q1.newL M1 k2.reverse⟩⟩
    · exact q1.elim
  | tup l =>
    obtain ⟨a, xs, rfl, k1, k2⟩ := rep_tup r1
    simp only [fRevL] at q1
    exact ⟨a, xs, rfl, .inr ⟨k1, q1.newT M1 k2.reverse⟩⟩
  | _ => exact q1.elim⟩
/-! calls of built-ins by name -/
theorem pp_callB {x : Str} {id : String} {f : Fn} {g : Ag} {p : Pos} (hc : CallR X (.builtin id) (rPn X.K X.mg E f)) (hm : X.mg x = none) (hv : bootBuiltins x = some (.builtin id)) (ha : PPA X E (e :: es) g) (hg : Gl X x := by rfl) (hn : x ≠ "__name__" := by decide) (hdb : (x == ("__debug__" : Str)) = false := by decide)
    (he : starEach (e :: es) X.env = (false, eval e X.env) :: starEach es X.env := by rfl) (hpl : (backTo pos (starEach es X.env)).any (·.1) = false := by rfl) : PP X E (.Call (.Name x p) (e :: es) [] pos) (app f g) := ⟨by
  refine PE.imp (pe_callB hc hg hm hv ha.pa hn hdb he hpl) fun σ H Q h => ?_
  obtain ⟨env, μ, ρ, eo, M, h⟩ := h
  exact tA_bind eo M h fun xs H1 ps m ρ1 _ l1 e1 M1 r1 q1 => ⟨m, ρ1, ps, M1, r1, q1⟩⟩
theorem pp_callTy {x : Str} {id : String} {f : Fn} {g : Ag} {p : Pos} (hc : CallR X (.type id) (rPn X.K X.mg E f)) (hm : X.mg x = none) (hv : bootBuiltins x = some (.type id)) (ha : PPA X E (e :: es) g) (hg : Gl X x := by rfl) (hn : x ≠ "__name__" := by decide) (hdb : (x == ("__debug__" : Str)) = false := by decide)
    (he : starEach (e :: es) X.env = (false, eval e X.env) :: starEach es X.env := by rfl) (hpl : (backTo pos (starEach es X.env)).any (·.1) = false := by rfl) : PP X E (.Call (.Name x p) (e :: es) [] pos) (app f g) := ⟨by
  refine PE.imp (pe_callTy hc hg hm hv ha.pa hn hdb he hpl) fun σ H Q h => ?_
  obtain ⟨env, μ, ρ, eo, M, h⟩ := h
  exact tA_bind eo M h fun xs H1 ps m ρ1 _ l1 e1 M1 r1 q1 => ⟨m, ρ1, ps, M1, r1, q1⟩⟩
/-- o.m(..), a method of a built-in type -/
def Kd.ty : Kd → String
  | .list => "list"
  | .str => "str"
  | .dict => "dict"
theorem isKd_ty {K : PySem.W.Frag} {H : Hp} {ρ : List Addr} {μ : Mem} {p : PV} {x : V} {k : Kd} (M : MemOk K H ρ μ) (r : Rep K H ρ p x) (h : isKd k μ p = true) : tyV K k.ty x H := by
  cases k with
  | str =>
    cases p <;> simp only [isKd, Bool.false_eq_true] at h
    obtain rfl := vstr r
    rfl
  | list =>
    cases p <;> simp only [isKd, Bool.false_eq_true] at h
    split at h
    · rename_i e
      obtain ⟨a, xs, _, rfl, g3, _⟩ := mem_lst M r e
      exact Or.inl ⟨rfl, xs, SqL.of g3⟩
    · cases h
  | dict =>
    cases p <;> simp only [isKd, Bool.false_eq_true] at h
    split at h
    · rename_i e
      obtain ⟨a, h1, rfl⟩ := rep_ref M r
      obtain ⟨xs, h3, _⟩ := M.at' _ _ a e h1
      exact Or.inr (Or.inr (Or.inl ⟨rfl, .inl ⟨xs, h3⟩⟩))
    · cases h
theorem mth_read {k : Kd} {f : Fn} {g : Ag} {K : PySem.W.Frag} {mg : Str → Option Value} {σ : L2.St} {H : Hp} {Q : VK} (h : tE K mg E (mth k f fa g) σ H Q) : tBM K k.ty (rPm K mg E f) (tE K mg E fa) (tA K mg E g) σ H Q := by
  obtain ⟨env, μ, ρ, eo, M, h⟩ := h
  refine tE_bind eo M h fun x H1 p m ρ1 _ l1 e1 M1 r1 q1 => ?_
  split at q1
  · rename_i hk
    exact ⟨isKd_ty M1 r1 hk, tA_bind e1 M1 q1 fun xs H2 ps m2 ρ2 _ l2 e2 M2 r2 q2 => ⟨m2, ρ2, p, ps, M2, Rep.mono l2 _ _ r1, r2, q2⟩⟩
  · exact q1.elim
theorem pp_bm {o : Expr} {fo : Ex} {name : Str} {id : String} {k : Kd} {f : Fn} {g : Ag} {apos : Pos} (pa : PlainAttrs k.ty) (slot : Slot k.ty name id) (hty : typeOf (.builtin id) = pure (.type "method_descriptor")) (hm : MtR X id (rPm X.K X.mg E f)) (ho : PP X E o fo) (ha : PPA X E (e :: es) g)
    (hbase : attributeBase o name X.env (eval o X.env) = eval o X.env := by rfl)
    (hfew : ((backTo pos (starEach (e :: es) X.env)).all (fun x => !x.1) && (backToKw pos (keywordEach [] X.env)).all (fun x => x.1.isSome)
      && decide ((e :: es).length + ([] : List Keyword).length + (if ([] : List Keyword).isEmpty then 0 else 1) < 30)) = true := by rfl)
    (hline : (apos.endLine == pos.line) = true := by rfl) (hs : starEach (e :: es) X.env = (false, eval e X.env) :: starEach es X.env := by rfl) (hplain : (backTo pos (starEach es X.env)).any (·.1) = false := by rfl) :
    PP X E (.Call (.Attribute o name apos) (e :: es) [] pos) (mth k f fo g) := ⟨PE.imp (L2.pe_bm pa slot hty hm ho.pe ha.pa hbase hfew hline hs hplain) fun _ _ _ h => mth_read h⟩
theorem pp_bm0 {o : Expr} {fo : Ex} {name : Str} {id : String} {k : Kd} {f : Fn} {apos : Pos} (pa : PlainAttrs k.ty) (slot : Slot k.ty name id) (hty : typeOf (.builtin id) = pure (.type "method_descriptor")) (hm : MtR X id (rPm X.K X.mg E f)) (ho : PP X E o fo)
    (hbase : attributeBase o name X.env (eval o X.env) = eval o X.env := by rfl) (hline : (apos.endLine == pos.line) = true := by rfl) :
    PP X E (.Call (.Attribute o name apos) [] [] pos) (mth k f fo an) := ⟨PE.imp (L2.pe_bm0 pa slot hty hm ho.pe hbase hline) fun σ H Q h => by
      obtain ⟨env, μ, ρ, eo, M, h⟩ := h
      refine tE_bind eo M h fun x H1 p m ρ1 _ l1 e1 M1 r1 q1 => ?_
      split at q1
      · rename_i hk
        exact ⟨isKd_ty M1 r1 hk, ⟨m, ρ1, p, [], M1, r1, .nil, q1⟩⟩
      · exact q1.elim⟩
theorem mtP_append : MtR X "list.append" (rPm X.K X.mg E fAppend) := by
  intro pins s σ H x xs v us Q I rx rxs h
  obtain ⟨μ, ρ, p, ps, M, hp, hps, h⟩ := h
  cases p with
  | ref n =>
    match ps, hps with
    | [q], hps =>
      obtain ⟨y, rfl, r⟩ := reps1 hps
      simp only [fAppend, push1] at h
      cases e : μ[n]? with
      | none => rw [e] at h; exact h.elim
      | some o =>
        rw [e] at h
        cases o with
        | lst l =>
          simp only at h
          by_cases hz : l.length < SL
          · rw [if_pos hz] at h
            obtain ⟨a, ys, g1, rfl, g3, g4⟩ := mem_lst M hp e
            exact mt_append pins s σ H _ _ v us Q I rx rxs ⟨a, ys, y, rfl, rfl, g3, by rw [SL_eq, g4.length]; exact hz, h.write M e g1 (g4.append (.cons r .nil)) rnon⟩
          · rw [if_neg hz] at h; exact h.elim
        | _ => exact h.elim
    | [], _ => exact h.elim
    | _ :: _ :: _, _ => exact h.elim
  | _ => exact h.elim
theorem mtP_extend : MtR X "list.extend" (rPm X.K X.mg E fExtend) := by
  intro pins s σ H x xs v us Q I rx rxs h
  obtain ⟨μ, ρ, p, ps, M, hp, hps, h⟩ := h
  cases p with
  | ref n =>
    match ps, hps with
    | [.ref k], hps =>
      obtain ⟨y, rfl, r⟩ := reps1 hps
      simp only [fExtend] at h
      split at h
      · rename_i l l' e e'
        split at h
        · rename_i hz
          obtain ⟨a, ys, g1, rfl, g3, g4⟩ := mem_lst M hp e
          obtain ⟨b, zs, k1, rfl, k3, k4⟩ := mem_lst M r e'
          exact mt_extend pins s σ H _ _ v us Q I rx rxs ⟨a, b, ys, zs, rfl, rfl, g3, k3, by rw [SL_eq, g4.length, k4.length]; exact hz, h.write M e g1 (g4.append k4) rnon⟩
        · exact h.elim
      · exact h.elim
    | [], _ => exact h.elim
    | .non :: _, _ => exact h.elim
    | .bl _ :: _, _ => exact h.elim
    | .int _ :: _, _ => exact h.elim
    | .str _ :: _, _ => exact h.elim
    | .tup _ :: _, _ => exact h.elim
    | .cst _ :: _, _ => exact h.elim
    | .ref _ :: _ :: _, _ => exact h.elim
  | _ => exact h.elim
theorem mtP_pop : MtR X "list.pop" (rPm X.K X.mg E fPop) := by
  intro pins s σ H x xs v us Q I rx rxs h
  obtain ⟨μ, ρ, p, ps, M, hp, hps, h⟩ := h
  cases p with
  | ref n =>
    match ps, hps with
    | [], hps =>
      simp only [Reps] at hps
      subst hps
      simp only [fPop] at h
      split at h
      · rename_i l e
        split at h
        · rename_i q hq
          obtain ⟨a, ys, g1, rfl, g3, g4⟩ := mem_lst M hp e
          obtain ⟨y, y1, y2⟩ := g4.get hq
          exact mt_pop pins s σ H _ _ v us Q I rx rxs ⟨a, ys, y, rfl, rfl, g3, by rw [g4.length]; exact y1, h.write M e g1 g4.dropLast y2⟩
        · exact h.elim
      · exact h.elim
    | [.int i], hps =>
      obtain ⟨w, rfl, r⟩ := reps1 hps
      obtain rfl := vint r
      simp only [fPop] at h
      split at h
      · rename_i l e
        split at h
        · rename_i hz
          split at h
          · rename_i k hk
            split at h
            · rename_i q hq
              obtain ⟨a, ys, g1, rfl, g3, g4⟩ := mem_lst M hp e
              obtain ⟨y, y1, y2⟩ := g4.get hq
              exact mt_popAt pins s σ H _ _ v us Q I rx rxs ⟨a, ys, i, k, y, rfl, rfl, g3, hz.1, hz.2, (ixN_seq (show L2.ixN ys.length i = some k by rw [g4.length]; exact hk)).1, y1, h.write M e g1 (g4.erase k) y2⟩
            · exact h.elim
          · exact h.elim
        · exact h.elim
      · exact h.elim
    | .non :: _, _ => exact h.elim
    | .bl _ :: _, _ => exact h.elim
    | .ref _ :: _, _ => exact h.elim
    | .str _ :: _, _ => exact h.elim
    | .tup _ :: _, _ => exact h.elim
    | .cst _ :: _, _ => exact h.elim
    | .int _ :: _ :: _, _ => exact h.elim
  | _ => exact h.elim
theorem pp_append {o : Expr} {fo : Ex} {g : Ag} {apos : Pos} (ho : PP X E o fo) (ha : PPA X E (e :: es) g) (hbase : attributeBase o "append" X.env (eval o X.env) = eval o X.env := by rfl)
    (hfew : ((backTo pos (starEach (e :: es) X.env)).all (fun x => !x.1) && (backToKw pos (keywordEach [] X.env)).all (fun x => x.1.isSome)
      && decide ((e :: es).length + ([] : List Keyword).length + (if ([] : List Keyword).isEmpty then 0 else 1) < 30)) = true := by rfl)
    (hline : (apos.endLine == pos.line) = true := by rfl) (hs : starEach (e :: es) X.env = (false, eval e X.env) :: starEach es X.env := by rfl) (hplain : (backTo pos (starEach es X.env)).any (·.1) = false := by rfl) :
    PP X E (.Call (.Attribute o "append" apos) (e :: es) [] pos) (mth .list fAppend fo g) :=
  pp_bm (k := .list) PySem.F.plainAttrs_list PySem.F.slot_list_append PySem.F.type_list_append mtP_append ho ha hbase hfew hline hs hplain
theorem pp_extend {o : Expr} {fo : Ex} {g : Ag} {apos : Pos} (ho : PP X E o fo) (ha : PPA X E (e :: es) g) (hbase : attributeBase o "extend" X.env (eval o X.env) = eval o X.env := by rfl)
    (hfew : ((backTo pos (starEach (e :: es) X.env)).all (fun x => !x.1) && (backToKw pos (keywordEach [] X.env)).all (fun x => x.1.isSome)
      && decide ((e :: es).length + ([] : List Keyword).length + (if ([] : List Keyword).isEmpty then 0 else 1) < 30)) = true := by rfl)
    (hline : (apos.endLine == pos.line) = true := by rfl) (hs : starEach (e :: es) X.env = (false, eval e X.env) :: starEach es X.env := by rfl) (hplain : (backTo pos (starEach es X.env)).any (·.1) = false := by rfl) :
    PP X E (.Call (.Attribute o "extend" apos) (e :: es) [] pos) (mth .list fExtend fo g) :=
  pp_bm (k := .list) PySem.F.plainAttrs_list PySem.F.slot_list_extend PySem.F.type_list_extend mtP_extend ho ha hbase hfew hline hs hplain
theorem pp_popAt {o : Expr} {fo : Ex} {g : Ag} {apos : Pos} (ho : PP X E o fo) (ha : PPA X E (e :: es) g) (hbase : attributeBase o "pop" X.env (eval o X.env) = eval o X.env := by rfl)
    (hfew : ((backTo pos (starEach (e :: es) X.env)).all (fun x => !x.1) && (backToKw pos (keywordEach [] X.env)).all (fun x => x.1.isSome)
      && decide ((e :: es).length + ([] : List Keyword).length + (if ([] : List Keyword).isEmpty then 0 else 1) < 30)) = true := by rfl)
    (hline : (apos.endLine == pos.line) = true := by rfl) (hs : starEach (e :: es) X.env = (false, eval e X.env) :: starEach es X.env := by rfl) (hplain : (backTo pos (starEach es X.env)).any (·.1) = false := by rfl) :
    PP X E (.Call (.Attribute o "pop" apos) (e :: es) [] pos) (mth .list fPop fo g) :=
  pp_bm (k := .list) PySem.F.plainAttrs_list PySem.F.slot_list_pop PySem.F.type_list_pop mtP_pop ho ha hbase hfew hline hs hplain
theorem pp_pop {o : Expr} {fo : Ex} {apos : Pos} (ho : PP X E o fo) (hbase : attributeBase o "pop" X.env (eval o X.env) = eval o X.env := by rfl) (hline : (apos.endLine == pos.line) = true := by rfl) :
    PP X E (.Call (.Attribute o "pop" apos) [] [] pos) (mth .list fPop fo an) :=
  pp_bm0 (k := .list) PySem.F.plainAttrs_list PySem.F.slot_list_pop PySem.F.type_list_pop mtP_pop ho hbase hline
end
end PL
end
section
set_option autoImplicit false
set_option Elab.async false
set_option linter.all false
set_option maxRecDepth 100000
set_option maxHeartbeats 1000000
/-! Built-ins by values; statements; loops; comprehensions; defs. -/
namespace PL
open PySem L2
section
variable {X : Cx} {E : XK}
theorem crP_len : CallR X (.builtin "len") (rPn X.K X.mg E fLen) := by
  intro pins s σ H xs us Q I rs h
  obtain ⟨μ, ρ, ps, M, hp, h⟩ := h
  match ps, hp with
  | [p], hp =>
    obtain ⟨x, rfl, r⟩ := reps1 hp
    have seqs : (match getL μ p with | some l => Res.ok (.int l.length) μ | none => .stuck) = fLen [p] μ → wpAny (model X.prog X.w) X.A (call (.builtin "len") us) (EP X pins σ Q) X.xe s := fun e => by
      rw [← e] at h
      split at h
      · rename_i l hl
        obtain ⟨a, ys, rfl, k1, k2⟩ := getL_any M r hl
        exact call_len_seq pins s σ H _ us Q I rs ⟨a, ys, rfl, k1, by rw [k2.length]; exact h.val M rint⟩
      · exact h.elim
    cases p with
    | str z =>
      obtain rfl := vstr r
      simp only [fLen] at h
      split at h
      · rename_i hz
        exact call_len_str pins s σ H _ us Q I rs ⟨z, rfl, by rw [SL_eq]; exact hz, h.val M rint⟩
      · exact h.elim
    | _ => exact seqs rfl
  | [], _ => exact h.elim
  | p :: _ :: _, _ => cases p <;> exact h.elim
theorem crP_int : CallR X (.type "int") (rPn X.K X.mg E fInt) := by
  intro pins s σ H xs us Q I rs h
  obtain ⟨μ, ρ, ps, M, hp, h⟩ := h
  match ps, hp with
  | [p], hp =>
    obtain ⟨x, rfl, r⟩ := reps1 hp
    cases p with
    | int i =>
      obtain rfl := vint r
      exact call_int1 pins s σ H _ us Q I rs (.inl ⟨i, rfl, h.val M rint⟩)
    | bl b =>
      obtain rfl := vbl r
      exact call_int1 pins s σ H _ us Q I rs (.inr ⟨b, rfl, h.val M rint⟩)
    | _ => exact h.elim
  | [], _ => exact h.elim
  | p :: _ :: _, _ => cases p <;> exact h.elim
theorem crP_abs : CallR X (.builtin "abs") (rPn X.K X.mg E fAbs) := by
  intro pins s σ H xs us Q I rs h
  obtain ⟨μ, ρ, ps, M, hp, h⟩ := h
  match ps, hp with
  | [p], hp =>
    obtain ⟨x, rfl, r⟩ := reps1 hp
    cases p with
    | int i =>
      obtain rfl := vint r
      exact call_abs pins s σ H _ us Q I rs ⟨i, rfl, h.val M rint⟩
    | _ => exact h.elim
  | [], _ => exact h.elim
  | p :: _ :: _, _ => cases p <;> exact h.elim
theorem maxL_spec : ∀ (l : List Int) (m : Int), (maxL m l = m ∨ maxL m l ∈ l) ∧ m ≤ maxL m l ∧ ∀ y ∈ l, y ≤ maxL m l
  | [], m => by simp [maxL]
  | x :: xs, m => by
    unfold maxL
    by_cases h : x > m
    · rw [if_pos h]
      obtain ⟨h1, h2, h3⟩ := maxL_spec xs x
      refine ⟨.inr ?_, by omega, fun y hy => ?_⟩
      · rcases h1 with h1 | h1
        · rw [h1]; exact List.mem_cons_self
        · exact List.mem_cons_of_mem _ h1
      · rcases List.mem_cons.mp hy with rfl | hy
        · exact h2
        · exact h3 y hy
    · rw [if_neg h]
      obtain ⟨h1, h2, h3⟩ := maxL_spec xs m
      refine ⟨?_, h2, fun y hy => ?_⟩
      · rcases h1 with h1 | h1
        · exact .inl h1
        · exact .inr (List.mem_cons_of_mem _ h1)
      · rcases List.mem_cons.mp hy with rfl | hy
        · omega
        · exact h3 y hy
theorem minL_spec : ∀ (l : List Int) (m : Int), (minL m l = m ∨ minL m l ∈ l) ∧ minL m l ≤ m ∧ ∀ y ∈ l, minL m l ≤ y
  | [], m => by simp [minL]
  | x :: xs, m => by
    unfold minL
    by_cases h : x < m
    · rw [if_pos h]
      obtain ⟨h1, h2, h3⟩ := minL_spec xs x
      refine ⟨.inr ?_, by omega, fun y hy => ?_⟩
      · rcases h1 with h1 | h1
        · rw [h1]; exact List.mem_cons_self
        · exact List.mem_cons_of_mem _ h1
      · rcases List.mem_cons.mp hy with rfl | hy
        · exact h2
        · exact h3 y hy
    · rw [if_neg h]
      obtain ⟨h1, h2, h3⟩ := minL_spec xs m
      refine ⟨?_, h2, fun y hy => ?_⟩
      · rcases h1 with h1 | h1
        · exact .inl h1
        · exact .inr (List.mem_cons_of_mem _ h1)
      · rcases List.mem_cons.mp hy with rfl | hy
        · omega
        · exact h3 y hy
theorem crP_max (hc : X.calm = true) : CallR X (.builtin "max") (rPn X.K X.mg E fMax) := by
  intro pins s σ H xs us Q I rs h
  obtain ⟨μ, ρ, ps, M, hp, h⟩ := h
  match ps, hp with
  | [.int i, .int j], hp =>
    obtain ⟨x, y, rfl, r1, r2⟩ := reps2 hp
    obtain rfl := vint r1
    obtain rfl := vint r2
    exact call_max2 hc pins s σ H _ us Q I rs ⟨i, j, rfl, h.val M rint⟩
  | [.ref n], hp =>
    obtain ⟨x, rfl, r⟩ := reps1 hp
    simp only [fMax] at h
    split at h
    · rename_i i is e
      cases e2 : getL μ (.ref n) with
      | none => rw [e2] at e; simp at e
      | some l =>
        rw [e2] at e
        obtain ⟨a, ys, rfl, k1, k2, _⟩ := getL_ref M r e2
        obtain rfl := intsOf_map (show intsOf l = some (i :: is) from e) k2
        refine cr_max hc pins s σ H _ us Q I rs ⟨a, i :: is, rfl, k1, Nat.succ_pos _, fun m m1 m2 => ?_⟩
        obtain ⟨h1, h2, h3⟩ := maxL_spec is i
        have e3 : m = maxL i is := by
          have g1 : maxL i is ≤ m := by
            rcases h1 with h1 | h1
            · rw [h1]; exact m2 i List.mem_cons_self
            · exact m2 _ (List.mem_cons_of_mem _ h1)
          have g2 : m ≤ maxL i is := by
            rcases List.mem_cons.mp m1 with rfl | m1
            · exact h2
            · exact h3 m m1
          omega
        rw [e3]
        exact h.val M rint
    · exact h.elim
  | [], _ => exact h.elim
  | .non :: _, _ => exact h.elim
  | .bl _ :: _, _ => exact h.elim
  | .str _ :: _, _ => exact h.elim
  | .tup _ :: _, _ => exact h.elim
  | .cst _ :: _, _ => exact h.elim
  | [.int _], _ => exact h.elim
  | .int _ :: .non :: _, _ => exact h.elim
  | .int _ :: .bl _ :: _, _ => exact h.elim
  | .int _ :: .str _ :: _, _ => exact h.elim
  | .int _ :: .tup _ :: _, _ => exact h.elim
  | .int _ :: .cst _ :: _, _ => exact h.elim
  | .int _ :: .ref _ :: _, _ => exact h.elim
  | .int _ :: .int _ :: _ :: _, _ => exact h.elim
  | .ref _ :: _ :: _, _ => exact h.elim
theorem crP_min (hc : X.calm = true) : CallR X (.builtin "min") (rPn X.K X.mg E fMin) := by
  intro pins s σ H xs us Q I rs h
  obtain ⟨μ, ρ, ps, M, hp, h⟩ := h
  match ps, hp with
  | [.int i, .int j], hp =>
    obtain ⟨x, y, rfl, r1, r2⟩ := reps2 hp
    obtain rfl := vint r1
    obtain rfl := vint r2
    exact call_min2 hc pins s σ H _ us Q I rs ⟨i, j, rfl, h.val M rint⟩
  | [.ref n], hp =>
    obtain ⟨x, rfl, r⟩ := reps1 hp
    simp only [fMin] at h
    split at h
    · rename_i i is e
      cases e2 : getL μ (.ref n) with
      | none => rw [e2] at e; simp at e
      | some l =>
        rw [e2] at e
        obtain ⟨a, ys, rfl, k1, k2, _⟩ := getL_ref M r e2
        obtain rfl := intsOf_map (show intsOf l = some (i :: is) from e) k2
        refine cr_min hc pins s σ H _ us Q I rs ⟨a, i :: is, rfl, k1, Nat.succ_pos _, fun m m1 m2 => ?_⟩
        obtain ⟨h1, h2, h3⟩ := minL_spec is i
        have e3 : m = minL i is := by
          have g1 : m ≤ minL i is := by
            rcases h1 with h1 | h1
            · rw [h1]; exact m2 i List.mem_cons_self
            · exact m2 _ (List.mem_cons_of_mem _ h1)
          have g2 : minL i is ≤ m := by
            rcases List.mem_cons.mp m1 with rfl | m1
            · exact h2
            · exact h3 m m1
          omega
        rw [e3]
        exact h.val M rint
    · exact h.elim
  | [], _ => exact h.elim
  | .non :: _, _ => exact h.elim
  | .bl _ :: _, _ => exact h.elim
  | .str _ :: _, _ => exact h.elim
  | .tup _ :: _, _ => exact h.elim
  | .cst _ :: _, _ => exact h.elim
  | [.int _], _ => exact h.elim
  | .int _ :: .non :: _, _ => exact h.elim
  | .int _ :: .bl _ :: _, _ => exact h.elim
  | .int _ :: .str _ :: _, _ => exact h.elim
  | .int _ :: .tup _ :: _, _ => exact h.elim
  | .int _ :: .cst _ :: _, _ => exact h.elim
  | .int _ :: .ref _ :: _, _ => exact h.elim
  | .int _ :: .int _ :: _ :: _, _ => exact h.elim
  | .ref _ :: _ :: _, _ => exact h.elim
/-- a call with one list of ints -/
theorem one_ints {id : String} {f : Fn} {g : List Int → PV} (hf : ∀ n μ, f [.ref n] μ = match (getL μ (.ref n)).bind intsOf with | some is => .ok (g is) μ | _ => .stuck) (hn : ∀ ps μ, (∀ n, ps ≠ [.ref n]) → f ps μ = .stuck)
    (run : ∀ (pins : List (Addr × Obj)) (s : Shared) (σ : L2.St) (H : Hp) (us : List Value) (Q : VK) (a : Addr) (is : List Int), Inv X pins σ H s → Vals [V.ref a] us → SqL X.K H a (is.map V.int) → (∀ x, (∀ ρ, Rep X.K H ρ (g is) x) → Q x H) → wpAny (model X.prog X.w) X.A (call (.builtin id) us) (EP X pins σ Q) X.xe s) :
    CallR X (.builtin id) (rPn X.K X.mg E f) := by
  intro pins s σ H xs us Q I rs h
  obtain ⟨μ, ρ, ps, M, hp, h⟩ := h
  by_cases hps : ∃ n, ps = [.ref n]
  · obtain ⟨n, rfl⟩ := hps
    obtain ⟨x, rfl, r⟩ := reps1 hp
    rw [hf] at h
    split at h
    · rename_i is e
      cases e2 : getL μ (.ref n) with
      | none => rw [e2] at e; simp at e
      | some l =>
        rw [e2] at e
        obtain ⟨a, ys, rfl, k1, k2, _⟩ := getL_ref M r e2
        obtain rfl := intsOf_map (show intsOf l = some is from e) k2
        exact run pins s σ H us Q a is I rs k1 fun x hx => h.val M (hx ρ)
    · exact h.elim
  · rw [hn ps μ fun n e => hps ⟨n, e⟩] at h
    exact h.elim
theorem not_one {ps : List PV} (h : ∀ n, ps ≠ [.ref n]) : ps = [] ∨ (∃ p, ps = [p] ∧ ∀ n, p ≠ .ref n) ∨ ∃ p q r, ps = p :: q :: r := by
  match ps, h with
  | [], _ => exact .inl rfl
  | [p], h => exact .inr (.inl ⟨p, rfl, fun n e => h n (by rw [e])⟩)
  | p :: q :: r, _ => exact .inr (.inr ⟨p, q, r, rfl⟩)
theorem crP_sum (hc : X.calm = true) : CallR X (.builtin "sum") (rPn X.K X.mg E fSum) := by
  refine one_ints (g := fun is => .int is.sum) (fun _ _ => rfl) (fun ps μ hn => ?_) fun pins s σ H us Q a is I rs hs hq => cr_sum hc pins s σ H _ us Q I rs ⟨a, is, rfl, hs, hq _ fun _ => rint⟩
  rcases not_one hn with rfl | ⟨p, rfl, h⟩ | ⟨p, q, r, rfl⟩
  · rfl
  · cases p <;> first | rfl | exact absurd rfl (h _)
  · cases p <;> rfl
theorem bools_run {id : String} {f : Fn} {g : List Bool → Bool} (hf : ∀ n μ, f [.ref n] μ = match (getL μ (.ref n)).bind boolsOf with | some is => .ok (.bl (g is)) μ | _ => .stuck) (hn : ∀ ps μ, (∀ n, ps ≠ [.ref n]) → f ps μ = .stuck)
    (run : CallR X (.builtin id) (fun vs H Q => ∃ (a : Addr) (bs : List Bool), vs = [V.ref a] ∧ SqL X.K H a (bs.map V.bl) ∧ Q (.bl (g bs)) H)) : CallR X (.builtin id) (rPn X.K X.mg E f) := by
  intro pins s σ H xs us Q I rs h
  obtain ⟨μ, ρ, ps, M, hp, h⟩ := h
  by_cases hps : ∃ n, ps = [.ref n]
  · obtain ⟨n, rfl⟩ := hps
    obtain ⟨x, rfl, r⟩ := reps1 hp
    rw [hf] at h
    split at h
    · rename_i is e
      cases e2 : getL μ (.ref n) with
      | none => rw [e2] at e; simp at e
      | some l =>
        rw [e2] at e
        obtain ⟨a, ys, rfl, k1, k2, _⟩ := getL_ref M r e2
        obtain rfl := boolsOf_map (show boolsOf l = some is from e) k2
        exact run pins s σ H _ us Q I rs ⟨a, is, rfl, k1, h.val M rbl⟩
    · exact h.elim
  · rw [hn ps μ fun n e => hps ⟨n, e⟩] at h
    exact h.elim
theorem crP_all (hc : X.calm = true) : CallR X (.builtin "all") (rPn X.K X.mg E fAll) := by
  refine bools_run (g := fun bs => bs.all id) (fun _ _ => rfl) (fun ps μ hn => ?_) (cr_all hc)
  rcases not_one hn with rfl | ⟨p, rfl, h⟩ | ⟨p, q, r, rfl⟩
  · rfl
  · cases p <;> first | rfl | exact absurd rfl (h _)
  · cases p <;> rfl
theorem crP_any (hc : X.calm = true) : CallR X (.builtin "any") (rPn X.K X.mg E fAny) := by
  refine bools_run (g := fun bs => bs.any id) (fun _ _ => rfl) (fun ps μ hn => ?_) (cr_any hc)
  rcases not_one hn with rfl | ⟨p, rfl, h⟩ | ⟨p, q, r, rfl⟩
  · rfl
  · cases p <;> first | rfl | exact absurd rfl (h _)
  · cases p <;> rfl
theorem crP_tuple : CallR X (.type "tuple") (rPn X.K X.mg E fTuple) := by
  intro pins s σ H xs us Q I rs h
  obtain ⟨μ, ρ, ps, M, hp, h⟩ := h
  match ps, hp with
  | [p], hp =>
    obtain ⟨x, rfl, r⟩ := reps1 hp
    simp only [fTuple] at h
    split at h
    · rename_i l hl
      cases p with
      | tup l' =>
        simp only [getL, Option.some.injEq] at hl
        subst hl
        obtain ⟨a, ys, e, k1, k2⟩ := rep_tup r
        subst e
        exact call_tuple_of pins s σ H _ us Q I rs ⟨a, ys, rfl, .inr ⟨k1, h.val M r⟩⟩
      | ref n =>
        obtain ⟨a, ys, rfl, k1, k2, _⟩ := getL_ref M r hl
        exact call_tuple_of pins s σ H _ us Q I rs ⟨a, ys, rfl, .inl ⟨k1, h.newT M k2⟩⟩
      | _ => simp [getL] at hl
    · exact h.elim
  | [], _ => exact h.elim
  | p :: _ :: _, _ => cases p <;> exact h.elim
theorem crP_list : CallR X (.type "list") (rPn X.K X.mg E fList) := by
  intro pins s σ H xs us Q I rs h
  obtain ⟨μ, ρ, ps, M, hp, h⟩ := h
  match ps, hp with
  | [p], hp =>
    obtain ⟨x, rfl, r⟩ := reps1 hp
    simp only [fList] at h
    split at h
    · rename_i l hl
      obtain ⟨a, ys, rfl, k1, k2⟩ := getL_any M r hl
      exact call_list_of pins s σ H _ us Q I rs ⟨a, ys, rfl, k1, h.newL M k2⟩
    · exact h.elim
  | [], _ => exact h.elim
  | p :: _ :: _, _ => cases p <;> exact h.elim
theorem crP_str : CallR X (.type "str") (rPn X.K X.mg E fStr) := by
  intro pins s σ H xs us Q I rs h
  obtain ⟨μ, ρ, ps, M, hp, h⟩ := h
  match ps, hp with
  | [p], hp =>
    obtain ⟨x, rfl, r⟩ := reps1 hp
    cases p with
    | int i =>
      obtain rfl := vint r
      simp only [fStr] at h
      split at h
      · rename_i hz
        exact call_str_int pins s σ H _ us Q I rs ⟨i, rfl, hz, h.val M rstr⟩
      · exact h.elim
    | _ => exact h.elim
  | [], _ => exact h.elim
  | p :: _ :: _, _ => cases p <;> exact h.elim
/-! repr of data -/
mutual
theorem dp_noDict {K : PySem.W.Frag} {H : Hp} : ∀ {x : V} {d : PyData}, Dp K H x d → d.hasDict = false
  | _, _, .non => by simp only [PyData.hasDict]
  | _, _, .bl _ => by simp only [PyData.hasDict]
  | _, _, .int _ => by simp only [PyData.hasDict]
  | _, _, .str _ => by simp only [PyData.hasDict]
  | _, _, .lst _ h => by simp only [PyData.hasDict]; exact dps_noDict h
  | _, _, .tup _ h => by simp only [PyData.hasDict]; exact dps_noDict h
theorem dps_noDict {K : PySem.W.Frag} {H : Hp} : ∀ {x : List V} {d : List PyData}, DpAll K H x d → PyData.hasDictAll d = false
  | _, _, .nil => by simp only [PyData.hasDictAll]
  | _, _, .cons h t => by simp only [PyData.hasDictAll, dp_noDict h, dps_noDict t, Bool.or_self]
end
theorem crP_repr (hg : X.A.guards = some []) (hu : X.A.units + 65 < cLine) : CallR X (.builtin "repr") (rPn X.K X.mg E fRepr) := by
  intro pins s σ H xs us Q I rs h
  obtain ⟨μ, ρ, ps, M, hp, h⟩ := h
  match ps, hp with
  | [p], hp =>
    obtain ⟨x, rfl, r⟩ := reps1 hp
    simp only [fRepr] at h
    split at h
    · rename_i d hd
      split at h
      · rename_i hz
        obtain ⟨z1, z2, z3⟩ := hz
        have hv := h.val M rstr
        have dp := dp_toD M hd r
        obtain ⟨u, rfl, rx⟩ := vals1 rs
        have sz : d.shown.length ≤ sizeLine := by rw [SL_eq]; exact z2
        cases dp with
        | non => cases rx; exact PySem.P.repr_of_none ⟨.str _, H, I.tok _, ⟨_, rfl⟩, hv⟩
        | bl b =>
          cases rx
          refine PySem.P.repr_of_bool ⟨.str _, H, I.tok _, ⟨_, rfl⟩, ?_⟩
          exact hv
        | int i =>
          obtain ⟨t, rfl⟩ := rx
          refine PySem.P.repr_of_int (by simpa [PyData.showable] using z1) ⟨.str _, H, I.tok _, ⟨_, rfl⟩, ?_⟩
          exact hv
        | str y =>
          obtain ⟨t, rfl⟩ := rx
          refine PySem.P.repr_of_str ⟨.str _, H, I.tok _, ⟨_, rfl⟩, ?_⟩ (by simpa [PyData.shown] using sz)
          exact hv
        | @lst a ys ds h1 h2 =>
          obtain ⟨as, rd⟩ := Dp.reads I _ _ u (.lst h1 h2) rx
          cases rx
          have hnd : PyData.hasDict (.list ds) = false := dp_noDict (.lst h1 h2)
          exact PySem.repr_of_reads' rd z1 (PySem.PyData.noDict_hsm hnd) hg (by omega) (fun _ _ e => e) (fun h' u tk hk => ⟨.str _, H, I.kept (t' := tk) hk, ⟨u, rfl⟩, hv⟩) sz
        | @tup a ys ds h1 h2 =>
          obtain ⟨as, rd⟩ := Dp.reads I _ _ u (.tup h1 h2) rx
          cases rx
          have hnd : PyData.hasDict (.tuple ds) = false := dp_noDict (.tup h1 h2)
          exact PySem.repr_of_reads' rd z1 (PySem.PyData.noDict_hsm hnd) hg (by omega) (fun _ _ e => e) (fun h' u tk hk => ⟨.str _, H, I.kept (t' := tk) hk, ⟨u, rfl⟩, hv⟩) sz
      · exact h.elim
    · exact h.elim
  | [], _ => exact h.elim
  | p :: _ :: _, _ => cases p <;> exact h.elim
theorem kitb {K : PySem.W.Frag} {a b : String} {r : Bool} (h : kitB a b = some r) : PySem.W.kitOne K (.type a) (.type b) = some r := kit_ty h
def Ty.nm : Ty → String
  | .int => "int" | .bool => "bool" | .str => "str" | .tuple => "tuple" | .list => "list" | .dict => "dict"
theorem isTy_run {K : PySem.W.Frag} {H : Hp} {ρ : List Addr} {μ : Mem} {t : Ty} {p : PV} {x : V} {b : Bool} (M : MemOk K H ρ μ) (r : Rep K H ρ p x) (h : isTy μ t p = some b) : ∃ T, TyX K H x (.type T) ∧ kitB T t.nm = some b := by
  cases p with
  | non => obtain rfl := vnon r; refine ⟨"NoneType", .base .non, ?_⟩; cases t <;> simp only [isTy, Option.some.injEq, reduceCtorEq] at h <;> subst h <;> decide +kernel
  | bl y => obtain rfl := vbl r; refine ⟨"bool", .base (.bl y), ?_⟩; cases t <;> simp only [isTy, Option.some.injEq, reduceCtorEq] at h <;> subst h <;> decide +kernel
  | int y => obtain rfl := vint r; refine ⟨"int", .base (.int y), ?_⟩; cases t <;> simp only [isTy, Option.some.injEq, reduceCtorEq] at h <;> subst h <;> decide +kernel
  | str y => obtain rfl := vstr r; refine ⟨"str", .base (.str y), ?_⟩; cases t <;> simp only [isTy, Option.some.injEq, reduceCtorEq] at h <;> subst h <;> decide +kernel
  | cst a => cases t <;> simp [isTy] at h
  | tup l =>
    obtain ⟨a, xs, rfl, k1, k2⟩ := rep_tup r
    refine ⟨"tuple", ?_, ?_⟩
    · rcases k1 with (k1 | ⟨o, k1⟩) | ⟨o, its, n, k1, k3, _⟩
      · exact .base (.tup k1)
      · exact .fTuple k1
      · exact .kTuple k1 k3
    · cases t <;> simp only [isTy, Option.some.injEq, reduceCtorEq] at h <;> subst h <;> decide +kernel
  | ref n =>
    have h' : (match μ[n]? with
      | some (.lst _) => some t.isL
      | some (.dct _) => some t.isD
      | _ => none) = some b := by cases t <;> exact h
    split at h'
    · rename_i l e
      obtain ⟨a, xs, _, rfl, g3, _⟩ := mem_lst M r e
      refine ⟨"list", .base (.lst g3), ?_⟩
      cases h'
      cases t <;> decide +kernel
    · rename_i l e
      obtain ⟨a, h1, rfl⟩ := rep_ref M r
      obtain ⟨xs, h3, _⟩ := M.at' _ _ a e h1
      refine ⟨"dict", .base (.dK h3), ?_⟩
      cases h'
      cases t <;> decide +kernel
    · cases h'
/-- isinstance(x, T) -/
theorem pp_isi {t : Ty} {e : Expr} {fe : Ex} {x nm : Str} {p p2 pos : Pos} (ha : PP X E e fe) (hm : X.mg x = none) (hm2 : X.mg nm = none) (hx : bootBuiltins x = some (.builtin "isinstance")) (hnm : bootBuiltins nm = some (.type t.nm))
    (hg : Gl X x := by rfl) (hg2 : Gl X nm := by rfl) (hn : x ≠ "__name__" := by decide) (hdb : (x == ("__debug__" : Str)) = false := by decide) (hn2 : nm ≠ "__name__" := by decide) (hdb2 : (nm == ("__debug__" : Str)) = false := by decide)
    (he : starEach [e, .Name nm p2] X.env = (false, eval e X.env) :: starEach [.Name nm p2] X.env := by rfl) (hpl : (backTo pos (starEach [.Name nm p2] X.env)).any (·.1) = false := by rfl) (he2 : starEach [.Name nm p2] X.env = (false, eval (.Name nm p2) X.env) :: starEach [] X.env := by rfl) :
    PP X E (.Call (.Name x p) [e, .Name nm p2] [] pos) (app1 (fIsi t) fe) := ⟨by
  refine PE.imp (pe_callB call_isi hg hm hx (pa_cons ha.pe (pa_cons (pe_bltn (v := .ty t.nm) hg2 hm2 hnm rfl hn2 hdb2) pa_nil he2) he) hn hdb he hpl) fun σ H Q h => ?_
  obtain ⟨env, μ, ρ, eo, M, h⟩ := h
  refine tE_bind eo M h fun x H1 p m ρ1 _ l1 e1 M1 r1 q1 => ?_
  simp only [fIsi] at q1
  split at q1
  · rename_i b hb
    obtain ⟨T, h1, h2⟩ := isTy_run M1 r1 hb
    exact ⟨x, .ty t.nm, .type T, .type t.nm, b, rfl, .ty _, h1, kit_ty h2, q1.val M1 rbl⟩
  · exact q1.elim⟩
end
/-! ### targets -/
section
variable {X : Cx} {E : XK} {e : Expr} {es : List Expr} {fe : Ex} {pos : Pos}
theorem EnvOk.set {K : PySem.W.Frag} {H : Hp} {ρ : List Addr} {env : Env} {σ : L2.St} {i : Nat} {p : PV} {x : V} (e : EnvOk K H ρ env σ) (r : Rep K H ρ p x) : EnvOk K H ρ (env.set i (some p)) (σ.set i (some x)) := by
  refine ⟨by simp [e.len], fun j q h => ?_⟩
  have hl := e.len
  by_cases hj : i = j
  · subst hj
    have hi : i < env.length := by
      have := (List.getElem?_eq_some_iff.mp h).1
      simpa using this
    rw [List.getElem?_set_self hi] at h
    rw [List.getElem?_set_self (by omega)]
    cases h
    exact ⟨x, rfl, r⟩
  · rw [List.getElem?_set_ne hj] at h
    rw [List.getElem?_set_ne hj]
    exact e.at' j q h
theorem OutOf.refl (is : List Nat) (σ : L2.St) : OutOf is σ σ := ⟨rfl, fun _ _ => rfl⟩
theorem OutOf.trans {is js : List Nat} {σ σ1 σ2 : L2.St} (a : OutOf is σ σ1) (b : OutOf js σ1 σ2) : OutOf (is ++ js) σ σ2 :=
  ⟨b.1.trans a.1, fun j h => by
    simp only [List.mem_append, not_or] at h
    exact (b.2 j h.2).trans (a.2 j h.1)⟩
theorem ppg_n (i : Nat) {x : Str} (hN : X.N.Nodup) (hi : X.N[i]? = some x := by rfl) (hx : Loc X.env.scope x := by first | exact Or.inl rfl | exact Or.inr rfl) (hf : X.fn x = true ∨ X.env.scope.names.lookup x = some .local := by first | exact Or.inl rfl | exact Or.inr rfl) : PPG X E (.Name x pos) [i] (tn i) := ⟨by
  refine PG.imp (pg_name (i := i) hN hi hx hf) fun x σ H Q h => ?_
  obtain ⟨env, μ, ρ, p, eo, M, r, h⟩ := h
  exact Post.val (R := RG X.K [i] σ) (show Post X.K X.mg E (RG X.K [i] σ) H ρ Q (Res.ok (env.set i (some p)) μ) from h) M ⟨eo.set r, by simp, fun j hj => List.getElem?_set_ne (by simpa using Ne.symm (by simpa using hj))⟩⟩
theorem ppgs_nil : PPGs X E [] [] t0 := ⟨by
  refine PGs.imp pgs_nil fun xs σ H Q h => ?_
  obtain ⟨env, μ, ρ, ps, eo, M, r, h⟩ := h
  match ps, r with
  | [], r =>
    simp only [Reps] at r
    subst r
    exact ⟨rfl, Post.val (R := RG X.K [] σ) (show Post X.K X.mg E (RG X.K [] σ) H ρ Q (Res.ok env μ) from h) M ⟨eo, .refl _ _⟩⟩
  | _ :: _, _ => exact h.elim⟩
theorem ppgs_cons {g : Tg} {gs : Tgs} {is js : List Nat} (h1 : PPG X E e is g) (h2 : PPGs X E es js gs) (hs : (assignEach (e :: es) X.env).map (·.2) = assign e X.env :: (assignEach es X.env).map (·.2) := by rfl) : PPGs X E (e :: es) (is ++ js) (tc g gs) := ⟨by
  refine PGs.imp (pgs_cons h1.pg h2.pg hs) fun xs σ H Q h => ?_
  obtain ⟨env, μ, ρ, ps, eo, M, r, h⟩ := h
  match ps, r with
  | [], r => exact h.elim
  | p :: qs, r =>
    obtain ⟨y, ys, rfl, r1, r2⟩ := Reps.cons_iff.mp r
    refine ⟨y, ys, rfl, env, μ, ρ, p, eo, M, r1, ?_⟩
    refine (Post.bind (R := RG X.K is σ) h).imp fun σ' H1 ⟨env1, m, ρ1, _, l1, M1, ⟨e1, o1⟩, q1⟩ => ?_
    exact ⟨env1, m, ρ1, qs, e1, M1, Reps.mono l1 _ _ r2, q1.rel fun H' ρ' env2 σ2 ⟨g1, g2⟩ => ⟨g1, o1.trans g2⟩⟩⟩
section
variable {prog : Program} {w : World} {A : Around} {Ex : Value → Shared → Prop} {s : Shared}
theorem draw_list {it t : Addr} {items : Array Value} (hne : t ≠ it) : ∀ (n i : Nat) (s : Shared) (Q : List Value → Shared → Prop), s.heap.IsListIter it t i → s.heap.IsList t items → i + n ≤ items.size →
    (∀ h', h'.IsListIter it t (i + n) → Heap.SameBut it s.heap h' → Q ((items.toList.drop i).take n) { s with heap := h' }) → wpAny (model prog w) A (draw (.ref it) n) Q Ex s
  | 0, i, s, Q, hit, _, _, hQ => by
    show wpAny _ _ (pure []) Q Ex s
    exact wpAny_pure (by simpa using hQ s.heap hit (Heap.SameBut.refl ..))
  | n + 1, i, s, Q, hit, ht, hle, hQ => by
    have hlt : i < items.size := by omega
    show wpAny _ _ (pyNext (.ref it) >>= _) Q Ex s
    refine wpAny_bind (wpAny_pyNext_list_item hit ht (x := items[i]) (by simp [hlt]) fun h₁ hit₁ hs₁ => ?_)
    refine wpAny_bind (wpAny_holding (draw_list hne n (i + 1) _ _ hit₁ (ht.extBut hs₁.extBut hne) (by omega) fun h₂ hit₂ hs₂ => wpAny_pure ?_))
    have hd : items.toList.drop i = items[i] :: items.toList.drop (i + 1) := by simp [List.drop_eq_getElem_cons, hlt]
    have := hQ h₂ (by rw [show i + (n + 1) = i + 1 + n by omega]; exact hit₂) (hs₁.trans hs₂)
    rw [hd, List.take_succ_cons] at this
    exact this
theorem unpackItems_list {t : Addr} {items : Array Value} {Q : List Value → Shared → Prop} (hh : A.handled = none) (ht : s.heap.IsList t items)
    (hQ : ∀ h', Heap.ExtBut s.heap.objs.size s.heap h' → Q items.toList { s with heap := h' }) : wpAny (model prog w) A (unpackItems (.ref t) items.size none) Q Ex s := by
  have hlt : t ≠ s.heap.objs.size := by obtain ⟨o, ho, _⟩ := ht; exact Nat.ne_of_lt (Heap.lt_size ho)
  unfold unpackItems
  refine wpAny_bind ?_
  · unfold notIterableAtAll
    refine wpAny_bind (wpAny_specialOf ht.typeIs slot_list_iter.lookup ?_)
    refine wpAny_pure ?_
    simp only [Bool.false_eq_true, if_false]
    refine wpAny_bind (wpAny_holding (wpAny_pyIter_list ht ?_))
    refine wpAny_bind (wpAny_holding (draw_list hlt items.size 0 _ _ ⟨_, Heap.get?_push_size _ rfl, rfl, rfl⟩ (ht.push _) (by omega) fun h₁ hit₁ hs₁ => ?_))
    have hall : List.take items.size (List.drop 0 items.toList) = items.toList := by
      rw [List.drop_zero]; exact List.take_of_length_le (by simp)
    rw [hall]
    rw [if_neg (by simp)]
    have ht₁ : h₁.IsList t items := (ht.push _).extBut hs₁.extBut hlt
    refine wpAny_bind (wpAny_holding (wpAny_pyNext_list_end hh hit₁ ht₁ (by simp) fun h₂ he₂ => ?_))
    simp only [Option.isSome_none, Bool.false_eq_true, if_false]
    refine wpAny_pure (hQ h₂ fun b o hb e => he₂ b o hb (hs₁.extBut b o hb (Heap.get?_push_of_some _ e)))
theorem assign_Tuple_list {env : PySem.Env} {elts : List Expr} {x1} {pos : Pos} {t : Addr} {items : Array Value} {Q : Unit → Shared → Prop} (hh : A.handled = none) (ht : s.heap.IsList t items)
    (hn : (assignEach elts env).length = items.size) (hstar : (assignEach elts env).findIdx? (·.1) = none)
    (h : ∀ h', Heap.ExtBut s.heap.objs.size s.heap h' → wpAny (model prog w) A (assignInOrder ((assignEach elts env).map (·.2)) items.toList) Q Ex { s with heap := h' }) :
    wpAny (model prog w) A (assign (.Tuple elts x1 pos) env (.ref t)) Q Ex s := by
  rw [PyProof.Rows.assign_Tuple]
  refine wpAny_bind (wpAny_standAt ?_)
  unfold unpack
  rw [hn, hstar]
  exact wpAny_bind (wpAny_holding (unpackItems_list hh ht h))
end
/-- (a, b, ..) = a tuple or a list of that length -/
def gTupL (K : PySem.W.Frag) (n : Nat) (t : L2.TGs) : L2.TG := fun v σ H Q => ∃ a xs, v = .ref a ∧ (SqT K H a xs ∨ SqL K H a xs) ∧ xs.length = n ∧ t xs σ H Q
theorem pg_tupL {es : List Expr} {k : Nat} {t : L2.TGs} {n : Nat} (hc : X.calm = true) (h : PGs X es t)
    (hn : (assignEach es X.env).length = n := by rfl) (hst : (assignEach es X.env).findIdx? (·.1) = none := by rfl) : PG X (.Tuple es k pos) (gTupL X.K n t) := by
  refine ⟨fun pins s σ H v u Q I r hw => ?_⟩
  obtain ⟨a, xs, e1, hq, hl, hw⟩ := hw
  subst e1
  cases r
  rcases hq with hq | hq
  · obtain ⟨its, rv, ht, hz⟩ := I.tuple hq
    refine PyProof.Rows.assign_Tuple_tuple (I.ok.hd hc) ht (by simp [hn, ← hl, rv.length]) hst fun h' hx => ?_
    have I1 : Inv X pins σ H { s with heap := h' } := I.kept (t' := s.toks) fun b o e => hx b o (Nat.ne_of_lt (Heap.lt_size e)) e
    exact h.run pins _ σ H xs _ Q I1 (by simpa using rv) hw
  · obtain ⟨its, rv, ht, hz⟩ := I.list hq
    refine assign_Tuple_list (I.ok.hd hc) ht.isList (by simp [hn, ← hl, rv.length]) hst fun h' hx => ?_
    have I1 : Inv X pins σ H { s with heap := h' } := I.kept (t' := s.toks) fun b o e => hx b o (Nat.ne_of_lt (Heap.lt_size e)) e
    exact h.run pins _ σ H xs _ Q I1 (by simpa using rv) hw
theorem ppg_tup {n k : Nat} {gs : Tgs} {is : List Nat} (hc : X.calm = true) (h : PPGs X E es is gs) (hn : (assignEach es X.env).length = n := by rfl) (hst : (assignEach es X.env).findIdx? (·.1) = none := by rfl) : PPG X E (.Tuple es k pos) is (tt n gs) := ⟨by
  refine PG.imp (pg_tupL (n := n) hc h.pg hn hst) fun x σ H Q h => ?_
  obtain ⟨env, μ, ρ, p, eo, M, r, h⟩ := h
  cases p with
  | tup l =>
    obtain ⟨a, xs, rfl, k1, k2⟩ := rep_tup r
    simp only [tt] at h
    split at h
    · rename_i hl
      exact ⟨a, xs, rfl, .inl k1, by rw [k2.length]; exact hl, env, μ, ρ, l, eo, M, k2, h⟩
    · exact h.elim
  | ref m =>
    simp only [tt] at h
    split at h
    · rename_i l e
      split at h
      · rename_i hl
        obtain ⟨a, xs, g1, rfl, g3, g4⟩ := mem_lst M r e
        exact ⟨a, xs, rfl, .inr (SqL.of g3), by rw [g4.length]; exact hl, env, μ, ρ, l, eo, M, g4, h⟩
      · exact h.elim
    · exact h.elim
  | _ => exact h.elim⟩
theorem psetP : PSet X (fun o i v H Q => ∃ μ ρ p q r, MemOk X.K H ρ μ ∧ Rep X.K H ρ p o ∧ Rep X.K H ρ q i ∧ Rep X.K H ρ r v ∧ Post X.K X.mg E (RP X.K) H ρ (fun _ H' => Q H') (fSet [p, q, r] μ)) := by
  intro pins s σ H o i v ov iv u Q I ro ri rv h
  obtain ⟨μ, ρ, p, q, r, M, hp, hq, hr, h⟩ := h
  cases p with
  | ref n =>
    cases q with
    | int j =>
      obtain rfl := vint hq
      simp only [fSet] at h
      split at h
      · rename_i l e
        split at h
        · rename_i k hk
          obtain ⟨a, xs, g1, rfl, g3, g4⟩ := mem_lst M hp e
          exact set_list pins s σ H _ _ v ov iv u Q I ro ri rv ⟨a, xs, j, k, rfl, rfl, g3, by rw [g4.length]; exact hk, h.write M e g1 (g4.set k hr) rnon⟩
        · exact h.elim
      · exact h.elim
    | _ => exact h.elim
  | _ => cases q <;> exact h.elim
theorem ppg_sub {o i : Expr} {fo fi : Ex} (ho : PP X E o fo) (hi : PP X E i fi) (ha : ∀ v, assign (.Subscript o i pos) X.env v = (do
      let ov ← holding [v] (eval o X.env)
      let iv ← holding [v, ov] (eval i X.env)
      standAt pos
      holding [v, ov, iv] (setItem ov iv v)
      release [v, ov, iv] []) := by intro _; rfl) : PPG X E (.Subscript o i pos) [] (tsub fSet fo fi) := ⟨by
  refine PG.imp (pg_sub ho.pe hi.pe (psetP (E := E)) ha) fun x σ H Q h => ?_
  obtain ⟨env, μ, ρ, p, eo, M, r, h⟩ := h
  refine tE_bind eo M h fun y H1 q m ρ1 _ l1 e1 M1 r1 q1 => tE_bind e1 M1 q1 fun z H2 w m2 ρ2 _ l2 e2 M2 r2 q2 => ⟨m2, ρ2, q, w, p, M2, Rep.mono l2 _ _ r1, r2, Rep.mono (l1.trans l2) _ _ r, ?_⟩
  refine (Post.bind (R := RP X.K) q2).imp fun _ H3 ⟨_, m3, ρ3, _, l3, M3, _, q3⟩ => ?_
  exact Post.val (R := RG X.K [] σ) (show Post X.K X.mg E (RG X.K [] σ) H3 ρ3 Q (Res.ok env m3) from q3) M3 ⟨e2.mono l3, .refl _ _⟩⟩
end
/-! ### statements -/
section
variable {X : Cx} {E : XK} {a b e : Expr} {st : Stmt} {sts rest : List Stmt} {fa fb fe : Ex} {fs gs : Sm} {pos : Pos}
theorem tE_of {K : PySem.W.Frag} {mg : Str → Option Value} {H : Hp} {ρ : List Addr} {D : Ends} {env : Env} {μ : Mem} {σ : L2.St} {k : PV → Mem → Out} (eo : EnvOk K H ρ env σ) (M : MemOk K H ρ μ)
    (h : PostS K mg E H ρ D (.of (fa env μ) k)) {Q : VK} (i : ∀ x H1 p m ρ1, fa env μ = .ok p m → Lat K H ρ H1 ρ1 → EnvOk K H1 ρ1 env σ → MemOk K H1 ρ1 m → Rep K H1 ρ1 p x → PostS K mg E H1 ρ1 D (k p m) → Q x H1) : tE K mg E fa σ H Q :=
  ⟨env, μ, ρ, eo, M, (PostS.of (R := RP K) h).imp fun x H1 ⟨p, m, ρ1, e, l, M1, r, q⟩ => i x H1 p m ρ1 e l (eo.mono l) M1 r q⟩
theorem tT_of {K : PySem.W.Frag} {mg : Str → Option Value} {H : Hp} {ρ : List Addr} {D : Ends} {env : Env} {μ : Mem} {σ : L2.St} {k1 k2 : Mem → Out} (eo : EnvOk K H ρ env σ) (M : MemOk K H ρ μ)
    (h : PostS K mg E H ρ D (.of (fa env μ) fun p m => onS p (k1 m) (k2 m))) {Q : Bool → Hp → Prop} (i : ∀ t H1 m ρ1, fa env μ = .ok (.bl t) m → Lat K H ρ H1 ρ1 → EnvOk K H1 ρ1 env σ → MemOk K H1 ρ1 m → PostS K mg E H1 ρ1 D (if t = true then k1 m else k2 m) → Q t H1) : tT K mg E fa σ H Q := by
  refine ⟨env, μ, ρ, eo, M, ?_⟩
  cases e : fa env μ with
  | ok p m =>
    rw [e] at h
    cases p with
    | bl t =>
      intro b H1 ρ1 l M1 rb
      cases rb
      refine i t H1 m ρ1 e l (eo.mono l) M1 ?_
      have h2 : PostS K mg E H ρ D (onS (.bl t) (k1 m) (k2 m)) := h
      rw [onS_bl] at h2
      exact h2.later l
    | _ => exact h.elim
  | exc x m => rw [e] at h; exact h
  | stuck => rw [e] at h; exact h
theorem ps_nxt {K : PySem.W.Frag} {mg : Str → Option Value} {H : Hp} {ρ : List Addr} {D : Ends} {env : Env} {μ : Mem} {σ : L2.St} (h : PostS K mg E H ρ D (.nx env μ)) (M : MemOk K H ρ μ) (eo : EnvOk K H ρ env σ) : D.nx σ H := h σ H ρ (.refl K H ρ) M eo
theorem ppb_nil : PPb X E [] skip := ⟨PSs.imp pss_nil fun D σ H h => by
  obtain ⟨env, μ, ρ, eo, M, h⟩ := h
  exact ps_nxt (E := E) (mg := X.mg) h M eo⟩
theorem ppb_cons (h1 : PPs X E st fs) (h2 : PPb X E rest gs) : PPb X E (st :: rest) (seq fs gs) := ⟨PSs.imp (pss_cons h1.ps h2.ps) fun D σ H h => by
  obtain ⟨env, μ, ρ, eo, M, h⟩ := h
  refine ⟨env, μ, ρ, eo, M, (PostS.then h).imp (fun σ' H' ⟨env1, m, ρ1, l, M1, e1, q⟩ => ⟨env1, m, ρ1, e1, M1, q⟩) (fun _ _ q => q) (fun _ _ q => q) fun _ _ q => q⟩⟩
theorem ppb_one (h1 : PPs X E st fs) : PPb X E [st] fs := ⟨pss_one h1.ps⟩
theorem pps_pass : PPs X E (.Pass pos) skip := ⟨PS.imp ps_pass fun D σ H h => by
  obtain ⟨env, μ, ρ, eo, M, h⟩ := h
  exact ps_nxt (E := E) (mg := X.mg) h M eo⟩
theorem pps_brk : PPs X E (.Break pos) brk := ⟨PS.imp ps_break fun D σ H h => by
  obtain ⟨env, μ, ρ, eo, M, h⟩ := h
  exact (show ∀ σ' H' ρ', Lat X.K H ρ H' ρ' → MemOk X.K H' ρ' μ → EnvOk X.K H' ρ' env σ' → D.bk σ' H' from h) σ H ρ (.refl _ _ _) M eo⟩
theorem pps_cnt : PPs X E (.Continue pos) cnt := ⟨PS.imp ps_continue fun D σ H h => by
  obtain ⟨env, μ, ρ, eo, M, h⟩ := h
  exact (show ∀ σ' H' ρ', Lat X.K H ρ H' ρ' → MemOk X.K H' ρ' μ → EnvOk X.K H' ρ' env σ' → D.ct σ' H' from h) σ H ρ (.refl _ _ _) M eo⟩
theorem pps_exp (h : PP X E e fe) (hs : swapsWith e none pos.line X.env = pure false := by rfl) : PPs X E (.Expr e pos) (exp fe) := ⟨PS.imp (ps_expr h.pe hs) fun D σ H h => by
  obtain ⟨env, μ, ρ, eo, M, h⟩ := h
  exact tE_of eo M h fun x H1 p m ρ1 _ l1 e1 M1 r1 q1 => ps_nxt (E := E) (mg := X.mg) q1 M1 e1⟩
theorem pps_ret (h : PP X E e fe) : PPs X E (.Return (some e) pos) (ret fe) := ⟨PS.imp (ps_ret h.pe) fun D σ H h => by
  obtain ⟨env, μ, ρ, eo, M, h⟩ := h
  exact tE_of eo M h fun x H1 p m ρ1 _ l1 e1 M1 r1 q1 => (show ∀ x H' ρ', Lat X.K H1 ρ1 H' ρ' → MemOk X.K H' ρ' m → Rep X.K H' ρ' p x → D.rt x H' from q1) x H1 ρ1 (.refl _ _ _) M1 r1⟩
theorem pps_if (h : PPT X E e fe) (h1 : PPb X E sts fs) (h2 : PPb X E rest gs) : PPs X E (.If e sts rest pos) (cond fe fs gs) := ⟨PS.imp (ps_if h.pt h1.ps h2.ps) fun D σ H h => by
  obtain ⟨env, μ, ρ, eo, M, h⟩ := h
  exact tT_of (k1 := fun m => fs env m) (k2 := fun m => gs env m) eo M h fun t H1 m ρ1 _ l1 e1 M1 q1 => by
    cases t with
    | true => exact ⟨env, m, ρ1, e1, M1, q1⟩
    | false => exact ⟨env, m, ρ1, e1, M1, q1⟩⟩
theorem asg_read {g : Tg} {is : List Nat} {K : PySem.W.Frag} {mg : Str → Option Value} {D : Ends} {σ : L2.St} {H : Hp} (h : tS K mg E (asg g fe) D σ H) : tAsg (tE K mg E fe) (tG K mg E is g) D σ H := by
  obtain ⟨env, μ, ρ, eo, M, h⟩ := h
  refine tE_of eo M h fun x H1 p m ρ1 _ l1 e1 M1 r1 q1 => ⟨env, m, ρ1, p, e1, M1, r1, ?_⟩
  refine (PostS.of (R := RG K is σ) q1).imp fun σ' H2 ⟨env2, m2, ρ2, _, l2, M2, ⟨e2, _⟩, q2⟩ => ?_
  exact ps_nxt (E := E) (mg := mg) q2 M2 e2
theorem pps_asg {g : Tg} {is : List Nat} (h : PP X E e fe) (hg : PPG X E a is g) (hs : swapsWithSole [a] e pos.line X.env = pure false := by rfl) (hw : swappedStores [a] e X.env = pure none := by rfl) (h1 : (assignEach [a] X.env).map (·.2) = [assign a X.env] := by rfl) : PPs X E (.Assign [a] e pos) (asg g fe) :=
  ⟨PS.imp (ps_asg h.pe hg.pg hs hw h1) fun _ _ _ h => asg_read h⟩
theorem pps_set (i : Nat) {x : Str} {pos' : Pos} (hN : X.N.Nodup) (h : PP X E e fe) (hi : X.N[i]? = some x := by rfl) (hx : Loc X.env.scope x := by first | exact Or.inl rfl | exact Or.inr rfl) (hs : swapsWith e (some (.Name x pos')) pos.line X.env = pure false := by rfl)
    (hf : X.fn x = true ∨ X.env.scope.names.lookup x = some .local := by first | exact Or.inl rfl | exact Or.inr rfl) : PPs X E (.Assign [.Name x pos'] e pos) (setv i fe) := ⟨PS.imp (ps_set (i := i) hN hi hx h.pe hs hf) fun D σ H h => by
  obtain ⟨env, μ, ρ, eo, M, h⟩ := h
  exact tE_of eo M h fun x H1 p m ρ1 _ l1 e1 M1 r1 q1 => ps_nxt (E := E) (mg := X.mg) q1 M1 (e1.set r1)⟩
theorem pps_par (i j : Nat) {x y : Str} {px py pt : Pos} {kt k2 : Nat} {pt2 : Pos} (hc : X.calm = true) (hN : X.N.Nodup) (hij : i ≠ j) (ha : PP X E a fa) (hb : PP X E b fb) (hi : X.N[i]? = some x := by rfl) (hj : X.N[j]? = some y := by rfl)
    (hx : X.env.scope.names.lookup x = some .local := by rfl) (hy : X.env.scope.names.lookup y = some .local := by rfl)
    (hw : swappedStores [.Tuple [.Name x px, .Name y py] kt pt] (.Tuple [a, b] k2 pt2) X.env = pure (some [x, y]) := by rfl)
    (hs : swapsWithSole [.Tuple [.Name x px, .Name y py] kt pt] (.Tuple [a, b] k2 pt2) pos.line X.env = pure false := by rfl)
    (hs1 : starEach [a, b] X.env = (false, eval a X.env) :: starEach [b] X.env := by rfl) (hs2 : starEach [b] X.env = (false, eval b X.env) :: starEach [] X.env := by rfl) :
    PPs X E (.Assign [.Tuple [.Name x px, .Name y py] kt pt] (.Tuple [a, b] k2 pt2) pos) (par i j fa fb) := ⟨PS.imp (ps_par (i := i) (j := j) hc hN hi hj hij hx hy (pa_cons ha.pe (pa_cons hb.pe pa_nil hs2) hs1) hw hs) fun D σ H h => by
  obtain ⟨env, μ, ρ, eo, M, h⟩ := h
  exact tE_of eo M h fun x H1 p m ρ1 _ l1 e1 M1 r1 q1 => tE_of e1 M1 q1 fun y H2 q m2 ρ2 _ l2 e2 M2 r2 q2 => ⟨x, y, rfl, ps_nxt (E := E) (mg := X.mg) q2 M2 ((e2.set (Rep.mono l2 _ _ r1)).set r2)⟩⟩
end
end PL
end
section
set_option autoImplicit false
set_option Elab.async false
set_option linter.all false
set_option maxRecDepth 100000
set_option maxHeartbeats 1000000
/-! Loops, comprehensions, defs and their calls. -/
namespace PL
open PySem L2
section
variable {X : Cx} {E : XK} {a b d e tg iter : Expr} {st : Stmt} {sts rest : List Stmt} {fa fb fd fe : Ex} {fs gs : Sm} {pos : Pos}
theorem pps_par3 (i j l : Nat) {x y z : Str} {px py pz pt : Pos} {kt k2 : Nat} {pt2 : Pos} (hc : X.calm = true) (hN : X.N.Nodup) (hij : i ≠ j) (hil : i ≠ l) (hjl : j ≠ l) (ha : PP X E a fa) (hb : PP X E b fb) (hd : PP X E d fd) (hi : X.N[i]? = some x := by rfl) (hj : X.N[j]? = some y := by rfl) (hl : X.N[l]? = some z := by rfl)
    (hx : X.env.scope.names.lookup x = some .local := by rfl) (hy : X.env.scope.names.lookup y = some .local := by rfl) (hz : X.env.scope.names.lookup z = some .local := by rfl)
    (hw : swappedStores [.Tuple [.Name x px, .Name y py, .Name z pz] kt pt] (.Tuple [a, b, d] k2 pt2) X.env = pure (some [x, y, z]) := by rfl)
    (hs : swapsWithSole [.Tuple [.Name x px, .Name y py, .Name z pz] kt pt] (.Tuple [a, b, d] k2 pt2) pos.line X.env = pure false := by rfl)
    (hs1 : starEach [a, b, d] X.env = (false, eval a X.env) :: starEach [b, d] X.env := by rfl) (hs2 : starEach [b, d] X.env = (false, eval b X.env) :: starEach [d] X.env := by rfl) (hs3 : starEach [d] X.env = (false, eval d X.env) :: starEach [] X.env := by rfl) :
    PPs X E (.Assign [.Tuple [.Name x px, .Name y py, .Name z pz] kt pt] (.Tuple [a, b, d] k2 pt2) pos) (par3 i j l fa fb fd) := ⟨PS.imp (ps_par3 (i := i) (j := j) (l := l) hc hN hi hj hl hij hil hjl hx hy hz (pa_cons ha.pe (pa_cons hb.pe (pa_cons hd.pe pa_nil hs3) hs2) hs1) hw hs) fun D σ H h => by
  obtain ⟨env, μ, ρ, eo, M, h⟩ := h
  exact tE_of eo M h fun x H1 p m ρ1 _ l1 e1 M1 r1 q1 => tE_of e1 M1 q1 fun y H2 q m2 ρ2 _ l2 e2 M2 r2 q2 => tE_of e2 M2 q2 fun z H3 w m3 ρ3 _ l3 e3 M3 r3 q3 =>
    ⟨x, y, z, rfl, ps_nxt (E := E) (mg := X.mg) q3 M3 (((e3.set (Rep.mono (l2.trans l3) _ _ r1)).set (Rep.mono l3 _ _ r2)).set r3)⟩⟩
/-! ### while -/
theorem pps_while (hp : PassesOwn (model X.prog X.w) X.A X.env X.xe) (ht : PPT X E e fe) (hb : PPb X E sts fs) : PPs X E (.While e sts [] pos) (whileS fe fs) := ⟨PS.imp (ps_while hp ht.pt hb.ps) fun D σ H h => by
  obtain ⟨env, μ, ρ, eo, M, h⟩ := h
  refine ⟨fun m σ H => ∃ env μ ρ, EnvOk X.K H ρ env σ ∧ MemOk X.K H ρ μ ∧ PostS X.K X.mg E H ρ D (whileN fe fs m env μ), ⟨fuel, env, μ, ρ, eo, M, h⟩, ?_⟩
  rintro m σ1 H1 ⟨env1, μ1, ρ1, e1, M1, h1⟩
  cases m with
  | zero => exact h1.elim
  | succ m =>
    refine tT_of (k1 := fun μ1 => match fs env1 μ1 with | .nx e m' => whileN fe fs m e m' | .ct e m' => whileN fe fs m e m' | .bk e m' => .nx e m' | o => o) (k2 := fun μ1 => .nx env1 μ1) e1 M1 h1 fun t H2 μ2 ρ2 _ l2 e2 M2 q2 => ?_
    cases t with
    | false => exact ps_nxt (E := E) (mg := X.mg) q2 M2 e2
    | true =>
      refine ⟨fun σ' H' => ∃ env μ ρ, EnvOk X.K H' ρ env σ' ∧ MemOk X.K H' ρ μ ∧ PostS X.K X.mg E H' ρ D (whileN fe fs m env μ), fun σ' H' hh => ⟨m, Nat.lt_succ_self m, hh⟩, env1, μ2, ρ2, e2, M2, ?_⟩
      have q3 : PostS X.K X.mg E H2 ρ2 D (match fs env1 μ2 with | .nx e m' => whileN fe fs m e m' | .ct e m' => whileN fe fs m e m' | .bk e m' => .nx e m' | o => o) := q2
      cases z : fs env1 μ2 with
      | nx e3 m3 => rw [z] at q3; exact fun σ' H' ρ' l M' eo' => ⟨e3, m3, ρ', eo', M', PostS.later q3 l⟩
      | ct e3 m3 => rw [z] at q3; exact fun σ' H' ρ' l M' eo' => ⟨e3, m3, ρ', eo', M', PostS.later q3 l⟩
      | bk e3 m3 => rw [z] at q3; exact q3
      | rt p m3 => rw [z] at q3; exact q3
      | exc x m3 => rw [z] at q3; exact q3
      | stuck => rw [z] at q3; exact q3⟩
/-! ### for -/
theorem pps_for {it : PL.It} {g : Tg} {is : List Nat} (hp : PassesOwn (model X.prog X.w) X.A X.env X.xe) (hc : X.calm = true) (hi : PPI X E tg iter it) (hg : PPG X E tg is g) (hb : PPb X E sts fs) (hs : ∀ x, foldedSetIterable iter X.env x = pure x := by intro _; rfl) :
    PPs X E (.For tg iter sts [] pos) (forS it g fs) := ⟨PS.imp (ps_for hp hc hi.pi hg.pg hb.ps hs) fun D σ H h => by
  obtain ⟨env, μ, ρ, eo, M, h⟩ := h
  refine ⟨env, μ, ρ, eo, M, (PostS.of (R := fun H' ρ' z J => ItOk X.K H' ρ' z J) h).imp fun J H1 ⟨z, m1, ρ1, _, l1, M1, hJ, q1⟩ => ?_⟩
  refine ⟨fun i n σ H => n = z.items.length - i ∧ i ≤ z.items.length ∧ ∃ env μ ρ, Lat X.K H1 ρ1 H ρ ∧ EnvOk X.K H ρ env σ ∧ MemOk X.K H ρ μ ∧ PostS X.K X.mg E H ρ D (forN z.lk g fs (z.items.drop i) env μ), ⟨_, rfl, Nat.zero_le _, env, m1, ρ1, .refl _ _ _, eo.mono l1, M1, q1⟩, ?_⟩
  rintro i n σ2 H2 ⟨rfl, hi, env2, μ2, ρ2, l2, e2, M2, q2⟩
  by_cases hlt : i < z.items.length
  · have hd : z.items.drop i = z.items[i] :: z.items.drop (i + 1) := List.drop_eq_getElem_cons hlt
    rw [hd] at q2
    unfold forN at q2
    split at q2
    · rename_i hlk
      obtain ⟨go, yld⟩ := hJ.go H2 ρ2 μ2 i z.items[i] l2 M2 hlk (List.getElem?_eq_getElem hlt)
      refine .inr ⟨go, fun σ' H' => ∃ env μ ρ, Lat X.K H1 ρ1 H' ρ ∧ EnvOk X.K H' ρ env σ' ∧ MemOk X.K H' ρ μ ∧ PostS X.K X.mg E H' ρ D (forN z.lk g fs (z.items.drop (i + 1)) env μ), fun σ' H' hh => ⟨z.items.length - (i + 1), by omega, rfl, hlt, hh⟩, fun x H3 hy => ?_⟩
      obtain ⟨l3, M3, r3⟩ := yld x H3 hy
      refine ⟨env2, μ2, ρ2, z.items[i], e2.mono l3, M3, r3, ?_⟩
      refine (PostS.of (R := RG X.K is σ2) (q2.later l3)).imp fun σ4 H4 ⟨env4, μ4, ρ4, _, l4, M4, ⟨e4, _⟩, q4⟩ => ?_
      refine ⟨env4, μ4, ρ4, e4, M4, ?_⟩
      have l5 : Lat X.K H1 ρ1 H4 ρ4 := (l2.trans l3).trans l4
      cases zz : fs env4 μ4 with
      | nx e5 m5 => rw [zz] at q4; exact fun σ' H' ρ' l M' eo' => ⟨e5, m5, ρ', l5.trans l, eo', M', PostS.later q4 l⟩
      | ct e5 m5 => rw [zz] at q4; exact fun σ' H' ρ' l M' eo' => ⟨e5, m5, ρ', l5.trans l, eo', M', PostS.later q4 l⟩
      | bk e5 m5 => rw [zz] at q4; exact q4
      | rt p m5 => rw [zz] at q4; exact q4
      | exc x m5 => rw [zz] at q4; exact q4
      | stuck => rw [zz] at q4; exact q4
    · exact q2.elim
  · have e : i = z.items.length := by omega
    subst e
    rw [List.drop_eq_nil_of_le (Nat.le_refl _)] at q2
    unfold forN at q2
    split at q2
    · rename_i hlk
      exact .inl ⟨hJ.stop H2 ρ2 μ2 l2 M2 hlk, ps_nxt (E := E) (mg := X.mg) q2 M2 e2⟩
    · exact q2.elim⟩
/-! what a for walks -/
theorem itOk_tup {K : PySem.W.Frag} {H : Hp} {ρ : List Addr} {l : List PV} {a : Addr} {xs : List V} (s : SqT K H a xs) (r : Reps K H ρ l xs) : ItOk K H ρ ⟨l, []⟩ (Itt K a) where
  go := fun H1 ρ1 μ1 i p l1 M1 _ hi => by
    obtain ⟨x, h1, h2⟩ := r.get hi
    refine ⟨⟨xs, x, l1.keep a xs s, h1⟩, fun y H' hy => ?_⟩
    obtain ⟨rfl, hy⟩ := hy
    have := hy xs (l1.keep a xs s)
    rw [h1] at this
    cases this
    exact ⟨.refl _ _ _, M1, Rep.mono l1 _ _ h2⟩
  stop := fun H1 ρ1 μ1 l1 M1 _ => ⟨xs, l1.keep a xs s, by rw [r.length]; exact Nat.le_refl _⟩
theorem lock_seq {K : PySem.W.Frag} {H0 H : Hp} {ρ0 ρ : List Addr} {μ : Mem} {n : Nat} {a : Addr} {l : List PV} (ha : ρ0[n]? = some a) (L : Lat K H0 ρ0 H ρ) (M : MemOk K H ρ μ) (lk : μ[n]? = some (.lst l) ∨ μ[n]? = some (.ro l)) : ∃ xs, SqL K H a xs ∧ Reps K H ρ l xs := by
  rcases lk with h | h
  · obtain ⟨xs, h1, h2⟩ := M.at' n _ a h (L.get ha)
    exact ⟨xs, SqL.of h1, h2⟩
  · obtain ⟨xs, h1, h2⟩ := M.at' n _ a h (L.get ha)
    exact ⟨xs, h1.seq, h2⟩
theorem itOk_lst {K : PySem.W.Frag} {H : Hp} {ρ : List Addr} {l : List PV} {a : Addr} {n : Nat} (ha : ρ[n]? = some a) : ItOk K H ρ ⟨l, [(n, l)]⟩ (Itl K a) where
  go := fun H1 ρ1 μ1 i p l1 M1 lk hi => by
    obtain ⟨xs, h1, h2⟩ := lock_seq ha l1 M1 (lk (n, l) (by simp))
    obtain ⟨x, h3, h4⟩ := h2.get hi
    refine ⟨⟨xs, x, h1, h3⟩, fun y H' hy => ?_⟩
    obtain ⟨rfl, hy⟩ := hy
    have := hy xs h1
    rw [h3] at this
    cases this
    exact ⟨.refl _ _ _, M1, h4⟩
  stop := fun H1 ρ1 μ1 l1 M1 lk => by
    obtain ⟨xs, h1, h2⟩ := lock_seq ha l1 M1 (lk (n, l) (by simp))
    exact ⟨xs, h1, by rw [h2.length]; exact Nat.le_refl _⟩
theorem ppi_val (h : PP X E iter fe) : PPI X E tg iter (iVal fe) := ⟨PI.imp (PI.or (pi_list (tg := tg) h.pe) (pi_tup (tg := tg) h.pe)) fun σ H R hh => by
  obtain ⟨env, μ, ρ, eo, M, hh⟩ := hh
  cases z : fe env μ with
  | ok p m =>
    have hz : Post X.K X.mg E (fun H' ρ' z J => ItOk X.K H' ρ' z J) H ρ R (itsOf p m) := by
      unfold iVal at hh
      rw [z] at hh
      exact hh
    cases p with
    | tup l =>
      refine .inr ⟨env, μ, ρ, eo, M, ?_⟩
      rw [z]
      intro x H1 ρ1 l1 M1 r1
      obtain ⟨a, xs, rfl, k1, k2⟩ := rep_tup r1
      exact ⟨a, rfl, ⟨xs, k1⟩, hz (Itt X.K a) H1 ρ1 l1 M1 (itOk_tup k1 k2)⟩
    | ref n =>
      simp only [itsOf] at hz
      split at hz
      · rename_i l hl
        refine .inl ⟨env, μ, ρ, eo, M, ?_⟩
        rw [z]
        intro x H1 ρ1 l1 M1 r1
        obtain ⟨a, xs, rfl, k1, k2, _⟩ := getL_ref M1 r1 hl
        obtain ⟨b, hb, e⟩ := rep_ref M1 r1
        cases e
        exact ⟨a, rfl, ⟨xs, k1⟩, hz (Itl X.K a) H1 ρ1 l1 M1 (itOk_lst hb)⟩
      · exact hz.elim
    | _ => exact hz.elim
  | exc x m =>
    unfold iVal at hh
    rw [z] at hh
    exact .inl ⟨env, μ, ρ, eo, M, by rw [z]; exact hh⟩
  | stuck =>
    unfold iVal at hh
    rw [z] at hh
    exact hh.elim⟩
theorem rangeL_len (i : Int) (n : Nat) : (rangeL i n).length = n := by simp [rangeL]
theorem itOk_rng {K : PySem.W.Frag} {H : Hp} {ρ : List Addr} (i : Int) (n : Nat) : ItOk K H ρ ⟨rangeL i n, []⟩ (Itr i n) where
  go := fun H1 ρ1 μ1 k p l1 M1 _ hi => by
    have hk : k < n := by
      have := (List.getElem?_eq_some_iff.mp hi).1
      rw [rangeL_len] at this
      exact this
    refine ⟨hk, fun y H' hy => ?_⟩
    obtain ⟨rfl, rfl⟩ := hy
    have : p = .int (i + (k : Int)) := by
      simp only [rangeL, List.getElem?_map] at hi
      rw [List.getElem?_range hk] at hi
      simpa using hi.symm
    subst this
    exact ⟨.refl _ _ _, M1, rint⟩
  stop := fun H1 ρ1 μ1 l1 M1 _ => by
    show n ≤ (rangeL i n).length
    rw [rangeL_len]
    exact Nat.le_refl _
theorem pa1 {K : PySem.W.Frag} {mg : Str → Option Value} {σ : L2.St} {H : Hp} {Q : List V → Hp → Prop} (h : tE K mg E fe σ H (fun x H1 => Q [x] H1)) : tCons (tE K mg E fe) tNil σ H Q := h
theorem ppi_rng1 {p : Pos} (hm : X.mg "range" = none) (h : PP X E a fa) (hg : Gl X "range" := by rfl) (hs : starEach [a] X.env = [(false, eval a X.env)] := by rfl) : PPI X E tg (.Call (.Name "range" p) [a] [] pos) (iRng1 fa) :=
  ⟨PI.imp (pi_range1 (tg := tg) hg hm (pa_cons h.pe pa_nil (by rw [hs]; rfl)) hs) fun σ H R hh => by
  obtain ⟨env, μ, ρ, eo, M, hh⟩ := hh
  refine tE_bind eo M hh fun x H1 p m ρ1 _ l1 e1 M1 r1 q1 => ?_
  cases p with
  | int j =>
    obtain rfl := vint r1
    simp only at q1
    split at q1
    · rename_i hz
      exact ⟨j, rfl, hz.1, hz.2, q1 (Itr 0 j.toNat) H1 ρ1 (.refl _ _ _) M1 (itOk_rng 0 _)⟩
    · exact q1.elim
  | _ => exact q1.elim⟩
theorem ppi_rng2 {p : Pos} (hm : X.mg "range" = none) (h : PP X E a fa) (h' : PP X E b fb) (hg : Gl X "range" := by rfl) (hs : starEach [a, b] X.env = [(false, eval a X.env), (false, eval b X.env)] := by rfl) (hs2 : starEach [b] X.env = [(false, eval b X.env)] := by rfl) :
    PPI X E tg (.Call (.Name "range" p) [a, b] [] pos) (iRng2 fa fb) := ⟨PI.imp (pi_range2 (tg := tg) hg hm (pa_cons h.pe (pa_cons h'.pe pa_nil (by rw [hs2]; rfl)) (by rw [hs, hs2])) hs hs2) fun σ H R hh => by
  obtain ⟨env, μ, ρ, eo, M, hh⟩ := hh
  refine tE_bind eo M hh fun x H1 p m ρ1 _ l1 e1 M1 r1 q1 => tE_bind e1 M1 q1 fun y H2 q m2 ρ2 _ l2 e2 M2 r2 q2 => ?_
  cases p with
  | int i =>
    cases q with
    | int j =>
      obtain rfl := vint r1
      obtain rfl := vint r2
      simp only at q2
      split at q2
      · rename_i hz
        exact ⟨i, j, rfl, ⟨hz.1.1, hz.1.2, hz.2.1, hz.2.2⟩, q2 (Itr i (j - i).toNat) H2 ρ2 (.refl _ _ _) M2 (itOk_rng i _)⟩
      · exact q2.elim
    | _ => exact q2.elim
  | _ => cases q <;> exact q2.elim⟩
theorem zipL_get : ∀ {l k : List PV} {i : Nat} {p : PV}, (zipL l k)[i]? = some p → ∃ x y, l[i]? = some x ∧ k[i]? = some y ∧ p = .tup [x, y]
  | [], k, i, p, h => by simp [zipL] at h
  | _ :: _, [], i, p, h => by simp [zipL] at h
  | x :: l, y :: k, 0, p, h => by simp [zipL] at h; exact ⟨x, y, rfl, rfl, h.symm⟩
  | x :: l, y :: k, i + 1, p, h => by
    simp only [zipL, List.getElem?_cons_succ] at h ⊢
    exact zipL_get h
theorem zipL_len : ∀ (l k : List PV), (zipL l k).length = min l.length k.length
  | [], k => by simp [zipL]
  | _ :: _, [] => by simp [zipL]
  | x :: l, y :: k => by simp only [zipL, List.length_cons, zipL_len l k]; omega
theorem enumL_get : ∀ {l : List PV} {k i : Nat} {p : PV}, (enumL k l)[i]? = some p → ∃ x, l[i]? = some x ∧ p = .tup [.int ((k + i : Nat) : Int), x]
  | [], k, i, p, h => by simp [enumL] at h
  | x :: l, k, 0, p, h => by simp [enumL] at h; exact ⟨x, rfl, h.symm⟩
  | x :: l, k, i + 1, p, h => by
    simp only [enumL, List.getElem?_cons_succ] at h ⊢
    obtain ⟨y, h1, h2⟩ := enumL_get h
    exact ⟨y, h1, by rw [h2, show k + 1 + i = k + (i + 1) by omega]⟩
theorem enumL_len : ∀ (l : List PV) (k : Nat), (enumL k l).length = l.length
  | [], k => rfl
  | x :: l, k => by simp [enumL, enumL_len l]
theorem rep_pair {K : PySem.W.Frag} {H : Hp} {ρ : List Addr} {T : Addr} {p q : PV} {x y : V} (L : Lat K H ρ (upd H T (.tup [x, y])) ρ) (h1 : Rep K H ρ p x) (h2 : Rep K H ρ q y) : Rep K (upd H T (.tup [x, y])) ρ (.tup [p, q]) (.ref T) := by
  simp only [Rep]
  exact ⟨T, [x, y], rfl, SqT.of upd_same, .cons (Rep.mono L _ _ h1) (.cons (Rep.mono L _ _ h2) .nil)⟩
theorem itOk_zipT {K : PySem.W.Frag} {H : Hp} {ρ : List Addr} {l k : List PV} {a b : Addr} {xs ys : List V} (s : SqT K H a xs) (r : Reps K H ρ l xs) (s' : SqT K H b ys) (r' : Reps K H ρ k ys) : ItOk K H ρ ⟨zipL l k, []⟩ (RZ.ItzT K a b) where
  go := fun H1 ρ1 μ1 i p l1 M1 _ hi => by
    obtain ⟨p1, p2, g1, g2, rfl⟩ := zipL_get hi
    obtain ⟨x, h1, h2⟩ := r.get g1
    obtain ⟨y, h3, h4⟩ := r'.get g2
    have t1 := l1.keep a xs s
    have t2 := l1.keep b ys s'
    refine ⟨⟨xs, ys, x, y, t1, t2, h1, h3⟩, fun z H' hy => ?_⟩
    obtain ⟨T, x', y', rfl, hT, rfl, e1, e2⟩ := hy
    have e1 := e1 xs t1
    have e2 := e2 ys t2
    rw [h1] at e1
    rw [h3] at e2
    cases e1
    cases e2
    have q := M1.other (ho := .tup [x, y]) hT
    exact ⟨q.2, q.1, rep_pair q.2 (Rep.mono l1 _ _ h2) (Rep.mono l1 _ _ h4)⟩
  stop := fun H1 ρ1 μ1 l1 M1 _ => ⟨xs, ys, l1.keep a xs s, l1.keep b ys s', by
    show xs.length ≤ (zipL l k).length ∨ ys.length ≤ (zipL l k).length
    rw [zipL_len, r.length, r'.length]
    omega⟩
theorem itOk_zipL {K : PySem.W.Frag} {H : Hp} {ρ : List Addr} {l k : List PV} {a b : Addr} {n m : Nat} (ha : ρ[n]? = some a) (hb : ρ[m]? = some b) : ItOk K H ρ ⟨zipL l k, [(n, l), (m, k)]⟩ (Itz K a b) where
  go := fun H1 ρ1 μ1 i p l1 M1 lk hi => by
    obtain ⟨p1, p2, g1, g2, rfl⟩ := zipL_get hi
    obtain ⟨xs, s1, r⟩ := lock_seq ha l1 M1 (lk (n, l) (by simp))
    obtain ⟨ys, s2, r'⟩ := lock_seq hb l1 M1 (lk (m, k) (by simp))
    obtain ⟨x, h1, h2⟩ := r.get g1
    obtain ⟨y, h3, h4⟩ := r'.get g2
    refine ⟨⟨xs, ys, x, y, s1, s2, h1, h3⟩, fun z H' hy => ?_⟩
    obtain ⟨T, x', y', rfl, hT, rfl, e1, e2⟩ := hy
    have e1 := e1 xs s1
    have e2 := e2 ys s2
    rw [h1] at e1
    rw [h3] at e2
    cases e1
    cases e2
    have q := M1.other (ho := .tup [x, y]) hT
    exact ⟨q.2, q.1, rep_pair q.2 h2 h4⟩
  stop := fun H1 ρ1 μ1 l1 M1 lk => by
    obtain ⟨xs, s1, r⟩ := lock_seq ha l1 M1 (lk (n, l) (by simp))
    obtain ⟨ys, s2, r'⟩ := lock_seq hb l1 M1 (lk (m, k) (by simp))
    refine ⟨xs, ys, s1, s2, ?_⟩
    have e1 : xs.length = l.length := r.length
    have e2 : ys.length = k.length := r'.length
    show xs.length ≤ (zipL l k).length ∨ ys.length ≤ (zipL l k).length
    rw [zipL_len, e1, e2]
    omega
theorem itOk_enumL {K : PySem.W.Frag} {H : Hp} {ρ : List Addr} {l : List PV} {a : Addr} {n : Nat} (ha : ρ[n]? = some a) : ItOk K H ρ ⟨enumL 0 l, [(n, l)]⟩ (Ite K a) where
  go := fun H1 ρ1 μ1 i p l1 M1 lk hi => by
    obtain ⟨p1, g1, rfl⟩ := enumL_get hi
    obtain ⟨xs, s1, r⟩ := lock_seq ha l1 M1 (lk (n, l) (by simp))
    obtain ⟨x, h1, h2⟩ := r.get g1
    refine ⟨⟨xs, x, s1, h1⟩, fun z H' hy => ?_⟩
    obtain ⟨T, x', rfl, hT, rfl, e1⟩ := hy
    have e1 := e1 xs s1
    rw [h1] at e1
    cases e1
    have q := M1.other (ho := .tup [.int (i : Nat), x]) hT
    refine ⟨q.2, q.1, rep_pair q.2 ?_ h2⟩
    rw [Nat.zero_add]
    exact rint
  stop := fun H1 ρ1 μ1 l1 M1 lk => by
    obtain ⟨xs, s1, r⟩ := lock_seq ha l1 M1 (lk (n, l) (by simp))
    refine ⟨xs, s1, ?_⟩
    show xs.length ≤ (enumL 0 l).length
    rw [enumL_len, r.length]
    exact Nat.le_refl _
theorem ppi_zip {elts : List Expr} {kk : Nat} {tpos p : Pos} (hm : X.mg "zip" = none) (h : PP X E a fa) (h' : PP X E b fb) (hg : Gl X "zip" := by rfl)
    (hs : starEach [a, b] X.env = (false, eval a X.env) :: starEach [b] X.env := by rfl) (hs2 : starEach [b] X.env = (false, eval b X.env) :: starEach [] X.env := by rfl) (hpl : (backTo pos (starEach [b] X.env)).any (·.1) = false := by rfl) :
    PPI X E (.Tuple elts kk tpos) (.Call (.Name "zip" p) [a, b] [] pos) (iZip fa fb) := ⟨PI.imp (RZ.pi_zipA hg hm (pa_cons h.pe (pa_cons h'.pe pa_nil hs2) hs) hs hpl) fun σ H R hh => by
  obtain ⟨env, μ, ρ, eo, M, hh⟩ := hh
  refine tE_bind eo M hh fun x H1 p m ρ1 _ l1 e1 M1 r1 q1 => tE_bind e1 M1 q1 fun y H2 q m2 ρ2 _ l2 e2 M2 r2 q2 => ?_
  cases p with
  | tup l =>
    cases q with
    | tup k =>
      obtain ⟨a, xs, rfl, k1, k2⟩ := rep_tup (Rep.mono l2 _ _ r1)
      obtain ⟨b, ys, rfl, k3, k4⟩ := rep_tup r2
      exact ⟨a, b, xs, ys, rfl, .inr ⟨k1, k3, q2 (RZ.ItzT X.K a b) H2 ρ2 (.refl _ _ _) M2 (itOk_zipT k1 k2 k3 k4)⟩⟩
    | _ => exact q2.elim
  | ref n =>
    cases q with
    | ref k =>
      simp only at q2
      split at q2
      · rename_i l l' g1 g2
        obtain ⟨a, xs, rfl, k1, k2, _⟩ := getL_ref M2 (Rep.mono l2 _ _ r1) g1
        obtain ⟨b, ys, rfl, k3, k4, _⟩ := getL_ref M2 r2 g2
        obtain ⟨a', ha, e⟩ := rep_ref M2 (Rep.mono l2 _ _ r1)
        cases e
        obtain ⟨b', hb, e⟩ := rep_ref M2 r2
        cases e
        exact ⟨a, b, xs, ys, rfl, .inl ⟨k1, k3, q2 (Itz X.K a b) H2 ρ2 (.refl _ _ _) M2 (itOk_zipL ha hb)⟩⟩
      · exact q2.elim
    | _ => exact q2.elim
  | _ => cases q <;> exact q2.elim⟩
end
/-! ### comprehensions -/
section
variable {X : Cx} {E : XK} {tg iter elt : Expr} {ifs : List Expr} {scope : Scope} {pos : Pos}
structure PPTs (X : Cx) (E : XK) (ifs : List Expr) (f : Ex) : Prop where
  pt : PTs X ifs (tT X.K X.mg E f)
theorem ppts_nil : PPTs X E [] yes := ⟨⟨fun pins s σ H Q I h => pts_nil.run pins s σ H Q I (by
  obtain ⟨env, μ, ρ, eo, M, h⟩ := h
  exact Post.val (R := RB) (show Post X.K X.mg E RB H ρ Q (Res.ok true μ) from h) M rfl)⟩⟩
theorem ppts_one {e : Expr} {f : Ex} (h : PPT X E e f) : PPTs X E [e] f := ⟨pts_one h.pt⟩
theorem wipe_len (env : Env) : ∀ vs : List Nat, (PL.wipe env vs).length = env.length
  | [] => rfl
  | v :: vs => by unfold PL.wipe; rw [List.length_set, wipe_len env vs]
theorem EnvOk.wipe {K : PySem.W.Frag} {H : Hp} {ρ : List Addr} {env : Env} {σ : L2.St} (e : EnvOk K H ρ env σ) : ∀ vs : List Nat, EnvOk K H ρ (PL.wipe env vs) (L2.wipe σ vs)
  | [] => e
  | v :: vs => by
    have ih := EnvOk.wipe e vs
    refine ⟨by unfold PL.wipe L2.wipe; simp [ih.len], fun i p h => ?_⟩
    unfold PL.wipe at h
    unfold L2.wipe
    by_cases hv : v = i
    · subst hv
      by_cases hl : v < (PL.wipe env vs).length
      · rw [List.getElem?_set_self hl] at h; cases h
      · rw [List.getElem?_eq_none (by simpa using hl)] at h; cases h
    · rw [List.getElem?_set_ne hv] at h
      rw [List.getElem?_set_ne hv]
      exact ih.at' i p h
theorem wipe_at {α : Type} : ∀ (σ : List (Option α)) (vs : List Nat) (w : List (Option α) → List Nat → List (Option α)), (∀ σ, w σ [] = σ) → (∀ σ v vs, w σ (v :: vs) = (w σ vs).set v none) → ∀ j, (w σ vs)[j]? = if j ∈ vs ∧ j < σ.length then some none else σ[j]?
  | σ, [], w, h1, h2, j => by rw [h1]; simp
  | σ, v :: vs, w, h1, h2, j => by
    have ih := wipe_at σ vs w h1 h2
    have hl : ∀ us : List Nat, (w σ us).length = σ.length := fun us => by
      induction us with
      | nil => rw [h1]
      | cons u us ih => rw [h2, List.length_set, ih]
    rw [h2]
    by_cases e : v = j
    · subst e
      by_cases hv : v < σ.length
      · rw [List.getElem?_set_self (by rw [hl]; exact hv), if_pos ⟨by simp, hv⟩]
      · rw [List.getElem?_eq_none (by rw [List.length_set, hl]; omega), if_neg (fun z => hv z.2), List.getElem?_eq_none (by omega)]
    · rw [List.getElem?_set_ne e, ih j]
      by_cases hj : j ∈ vs ∧ j < σ.length
      · rw [if_pos hj, if_pos ⟨List.mem_cons_of_mem _ hj.1, hj.2⟩]
      · rw [if_neg hj, if_neg (fun z => hj ⟨(List.mem_cons.mp z.1).resolve_left (Ne.symm e), z.2⟩)]
theorem wipe_out {is vs : List Nat} {σ σ2 : L2.St} (h : OutOf is (L2.wipe σ vs) σ2) (hs : ∀ i ∈ is, i ∈ vs) : L2.wipe σ2 vs = L2.wipe σ vs := by
  have W := fun (σ : L2.St) j => wipe_at σ vs L2.wipe (fun _ => rfl) (fun _ _ _ => rfl) j
  have hl : σ2.length = σ.length := by rw [h.1, L2.wipe_length]
  apply List.ext_getElem?
  intro j
  rw [W, W]
  by_cases hj : j ∈ vs ∧ j < σ.length
  · rw [if_pos (by rw [hl]; exact hj), if_pos hj]
  · rw [if_neg (by rw [hl]; exact hj), if_neg hj]
    by_cases hv : j ∈ vs
    · have : σ.length ≤ j := by
        by_cases z : j < σ.length
        · exact absurd ⟨hv, z⟩ hj
        · omega
      rw [List.getElem?_eq_none (by omega), List.getElem?_eq_none this]
    · rw [h.2 j (fun z => hv (hs j z)), W, if_neg (fun z => hv z.1)]
theorem lc_read {K : PySem.W.Frag} {mg : Str → Option Value} {it : PL.It} {g : Tg} {is vs : List Nat} {ft fe : Ex} (hs : ∀ i ∈ is, i ∈ vs) {σ : L2.St} {H : Hp} {Q : VK} (h : tE K mg E (lc it g ft fe vs) σ H Q) :
    tLc (tI K mg E it) (tG K mg E is g) (tT K mg E ft) (tE K mg E fe) vs σ H Q := by
  obtain ⟨env, μ, ρ, eo, M, h⟩ := h
  refine ⟨env, μ, ρ, eo, M, (Post.bind (R := fun H' ρ' z J => ItOk K H' ρ' z J) h).imp fun J H1 ⟨z, m1, ρ1, _, l1, M1, hJ, q1⟩ => ?_⟩
  intro D hD
  obtain ⟨M1', L1'⟩ := M1.push (ho := .lst []) (o := .lst []) hD fun H' ρ' L e => ⟨[], e, .nil⟩
  have hn : (ρ1 ++ [D])[m1.length]? = some D := by rw [← M1.len, List.getElem?_append_right (Nat.le_refl _)]; simp
  refine ⟨fun i n H => n = z.items.length - i ∧ i ≤ z.items.length ∧ ∃ μ ρ, Lat K (upd H1 D (.lst [])) (ρ1 ++ [D]) H ρ ∧ EnvOk K H ρ env σ ∧ MemOk K H ρ μ ∧ Post K mg E (RP K) H ρ Q ((lcN z.lk g ft fe vs m1.length env (z.items.drop i) μ).bind fun _ μ2 => .ok (.ref m1.length) μ2),
    ⟨_, rfl, Nat.zero_le _, _, _, .refl _ _ _, eo.mono (l1.trans L1'), M1', q1.later L1'⟩, ?_⟩
  rintro i n H2 ⟨rfl, hi, μ2, ρ2, l2, e2, M2, q2⟩
  have nx : ∀ (H' : Hp) (μ' : Mem) (ρ' : List Addr), i < z.items.length → Lat K H2 ρ2 H' ρ' → MemOk K H' ρ' μ' → Post K mg E (RP K) H' ρ' Q ((lcN z.lk g ft fe vs m1.length env (z.items.drop (i + 1)) μ').bind fun _ μ2 => .ok (.ref m1.length) μ2) →
      ∃ μ ρ, Lat K (upd H1 D (.lst [])) (ρ1 ++ [D]) H' ρ ∧ EnvOk K H' ρ env σ ∧ MemOk K H' ρ μ ∧ Post K mg E (RP K) H' ρ Q ((lcN z.lk g ft fe vs m1.length env (z.items.drop (i + 1)) μ).bind fun _ μ2 => .ok (.ref m1.length) μ2) := fun H' μ' ρ' _ l M' q => ⟨μ', ρ', l2.trans l, e2.mono l, M', q⟩
  by_cases hlt : i < z.items.length
  · have hd : z.items.drop i = z.items[i] :: z.items.drop (i + 1) := List.drop_eq_getElem_cons hlt
    rw [hd] at q2
    unfold lcN at q2
    split at q2
    · rename_i hlk
      obtain ⟨go, yld⟩ := hJ.go H2 ρ2 μ2 i z.items[i] (L1'.trans l2) M2 hlk (List.getElem?_eq_getElem hlt)
      refine .inr ⟨go, fun H' => ∃ μ ρ, Lat K (upd H1 D (.lst [])) (ρ1 ++ [D]) H' ρ ∧ EnvOk K H' ρ env σ ∧ MemOk K H' ρ μ ∧ Post K mg E (RP K) H' ρ Q ((lcN z.lk g ft fe vs m1.length env (z.items.drop (i + 1)) μ).bind fun _ μ2 => .ok (.ref m1.length) μ2), fun H' hh => ⟨z.items.length - (i + 1), by omega, rfl, hlt, hh⟩, fun x H3 hy => ?_⟩
      obtain ⟨l3, M3, r3⟩ := yld x H3 hy
      refine ⟨PL.wipe env vs, μ2, ρ2, z.items[i], (e2.mono l3).wipe vs, M3, r3, ?_⟩
      rw [bind_bind] at q2
      refine (Post.bind (R := RG K is (L2.wipe σ vs)) (q2.later l3)).imp fun σ4 H4 ⟨env4, μ4, ρ4, _, l4, M4, ⟨e4, o4⟩, q4⟩ => ?_
      refine ⟨wipe_out o4 hs, ?_⟩
      rw [bind_bind] at q4
      simp only [bind_onB] at q4
      refine tT_bind (R' := RP K) (k1 := fun m => (((fe env4 m).bind fun q μ3 => match push1 m1.length q μ3 with
        | some μ4 => lcN z.lk g ft fe vs m1.length env (z.items.drop (i + 1)) μ4
        | none => .stuck).bind fun _ μ2 => Res.ok (PV.ref m1.length) μ2)) (k2 := fun m => (lcN z.lk g ft fe vs m1.length env (z.items.drop (i + 1)) m).bind fun _ μ2 => Res.ok (PV.ref m1.length) μ2) e4 M4 q4 fun t H5 μ5 ρ5 _ l5 e5 M5 q5 => ?_
      cases t with
      | false => exact nx H5 μ5 ρ5 hlt ((l3.trans l4).trans l5) M5 q5
      | true =>
        rw [if_pos rfl, bind_bind] at q5
        refine tE_bind e5 M5 q5 fun y H6 q μ6 ρ6 _ l6 e6 M6 r6 q6 => ?_
        have la : Lat K H2 ρ2 H6 ρ6 := ((l3.trans l4).trans l5).trans l6
        unfold push1 at q6
        cases e : μ6[m1.length]? with
        | none => rw [e] at q6; exact q6.elim
        | some o =>
          rw [e] at q6
          cases o with
          | lst acc =>
            simp only at q6
            by_cases hz : acc.length < SL
            · rw [if_pos hz] at q6
              have hn6 : ρ6[m1.length]? = some D := (l2.trans la).get hn
              obtain ⟨ys, k1, k2⟩ := M6.at' _ _ _ e hn6
              have L0 : Lat K H6 ρ6 (upd H6 D (.lst (ys ++ [y]))) ρ6 := ⟨⟨[], by simp⟩, .upd (fun xs q => by rw [k1] at q; cases q) fun ob xs q => by rw [k1] at q; cases q⟩
              obtain ⟨M7, L7⟩ := M6.set (ho := .lst (ys ++ [y])) (u := .lst (acc ++ [q])) e hn6 rfl ⟨ys ++ [y], upd_same, Reps.mono L0 _ _ (k2.append (.cons r6 .nil))⟩
              exact ⟨ys, k1, by rw [SL_eq, k2.length]; exact hz, nx _ _ ρ6 hlt (la.trans L7) M7 (Post.later q6 L7)⟩
            · rw [if_neg hz] at q6; exact q6.elim
          | _ => exact q6.elim
    · exact q2.elim
  · have e : i = z.items.length := by omega
    subst e
    rw [List.drop_eq_nil_of_le (Nat.le_refl _)] at q2
    unfold lcN at q2
    split at q2
    · rename_i hlk
      refine .inl ⟨hJ.stop H2 ρ2 μ2 (L1'.trans l2) M2 hlk, ?_⟩
      refine Post.val (R := RP K) (show Post K mg E (RP K) H2 ρ2 Q (Res.ok (.ref m1.length) μ2) from q2) M2 ?_
      show Rep K H2 ρ2 (.ref m1.length) (.ref D)
      simp only [Rep]
      exact ⟨D, l2.get hn, rfl⟩
    · exact q2.elim
/-- [elt for tg in iter if ..] as a value -/
theorem pp_lc {it : PL.It} {g : Tg} {is : List Nat} {ft fe : Ex} {own : List (Str × Nat)} (hc : X.calm = true) (hN : X.N.Nodup) (hi : PPI X E tg iter it) (ok : BlkOk X.N X.env.scope scope own)
    (hg : ∀ (s : Shared) (H : Hp) (C : Addr) (cl : List (Str × Addr)) (fp : List Addr), PPG (X.blk s H scope (compEnvC scope cl C X.env) fp) E tg is g) (ht : ∀ (s : Shared) (H : Hp) (C : Addr) (cl : List (Str × Addr)) (fp : List Addr), PPTs (X.blk s H scope (compEnvC scope cl C X.env) fp) E ifs ft)
    (he : ∀ (s : Shared) (H : Hp) (C : Addr) (cl : List (Str × Addr)) (fp : List Addr), PP (X.blk s H scope (compEnvC scope cl C X.env) fp) E elt fe) (hw : ∀ i ∈ is, i ∈ own.map (·.2) := by decide) (hs : ∀ x, foldedSetIterable iter X.env x = pure x := by intro _; rfl) :
    PP X E (.ListComp elt [⟨tg, iter, ifs, 0⟩] scope pos) (lc it g ft fe (own.map (·.2))) :=
  ⟨PE.imp (pe_lc hc hN hi.pi ok (fun s H C cl fp => (hg s H C cl fp).pg) (fun s H C cl fp => (ht s H C cl fp).pt) (fun s H C cl fp => (he s H C cl fp).pe) hs) fun _ _ _ h => lc_read hw h⟩
/-- name = [..] on one line -/
theorem pps_setLc (i : Nat) {y : Str} {py spos : Pos} {it : PL.It} {g : Tg} {is : List Nat} {ft fe : Ex} {own : List (Str × Nat)} (hc : X.calm = true) (hN : X.N.Nodup) (hi : PPI X E tg iter it) (ok : BlkOk X.N X.env.scope scope own)
    (hg : ∀ (s : Shared) (H : Hp) (C : Addr) (cl : List (Str × Addr)) (fp : List Addr), PPG (X.blk s H scope (compEnvC scope cl C X.env) fp) E tg is g) (ht : ∀ (s : Shared) (H : Hp) (C : Addr) (cl : List (Str × Addr)) (fp : List Addr), PPTs (X.blk s H scope (compEnvC scope cl C X.env) fp) E ifs ft)
    (he : ∀ (s : Shared) (H : Hp) (C : Addr) (cl : List (Str × Addr)) (fp : List Addr), PP (X.blk s H scope (compEnvC scope cl C X.env) fp) E elt fe) (hsw : swapsWith (.ListComp elt [⟨tg, iter, ifs, 0⟩] scope pos) (some (.Name y py)) spos.line X.env = pure true) (hy : X.N[i]? = some y := by rfl) (hyl : X.env.scope.names.lookup y = some .local := by rfl)
    (hw : ∀ i ∈ is, i ∈ own.map (·.2) := by decide) (hs : ∀ x, foldedSetIterable iter X.env x = pure x := by intro _; rfl) :
    PPs X E (.Assign [.Name y py] (.ListComp elt [⟨tg, iter, ifs, 0⟩] scope pos) spos) (setv i (lc it g ft fe (own.map (·.2)))) :=
  ⟨PS.imp (ps_setLc (i := i) hc hN hy hyl hsw hi.pi ok (fun s H C cl fp => (hg s H C cl fp).pg) (fun s H C cl fp => (ht s H C cl fp).pt) (fun s H C cl fp => (he s H C cl fp).pe) hs) fun D σ H h => by
    obtain ⟨env, μ, ρ, eo, M, h⟩ := h
    have h2 : tE X.K X.mg E (lc it g ft fe (own.map (·.2))) σ H (fun x H1 => gName i x σ H1 D.nx) := tE_of eo M h fun x H1 p m ρ1 _ l1 e1 M1 r1 q1 => ps_nxt (E := E) (mg := X.mg) q1 M1 (e1.set r1)
    exact lc_read hw h2⟩
end
end PL
end
section
set_option autoImplicit false
set_option Elab.async false
set_option linter.all false
set_option maxRecDepth 100000
set_option maxHeartbeats 1000000
/-! Defs, their calls, the law's end. -/
namespace PL
open PySem L2
section
variable {K : PySem.W.Frag} {mg : Str → Option Value} {E : XK} {H : Hp} {ρ : List Addr}
mutual
theorem rep_under : ∀ {p : PV} {x : V}, Rep K H ρ p x → p.under ρ.length = true
  | .non, _, _ => by simp only [PV.under]
  | .bl _, _, _ => by simp only [PV.under]
  | .int _, _, _ => by simp only [PV.under]
  | .str _, _, _ => by simp only [PV.under]
  | .cst _, _, _ => by simp only [PV.under]
  | .tup l, _, h => by
    obtain ⟨a, xs, _, _, h3⟩ := rep_tup h
    simp only [PV.under]
    exact reps_under h3
  | .ref n, _, h => by
    simp only [Rep] at h
    obtain ⟨a, h1, _⟩ := h
    simp only [PV.under, decide_eq_true_eq]
    exact (List.getElem?_eq_some_iff.mp h1).1
theorem reps_under : ∀ {ps : List PV} {xs : List V}, Reps K H ρ ps xs → PV.unders ρ.length ps = true
  | [], _, _ => by simp only [PV.unders]
  | p :: ps, _, h => by
    obtain ⟨y, ys, _, h1, h2⟩ := Reps.cons_iff.mp h
    simp only [PV.unders, rep_under h1, reps_under h2, Bool.and_self]
end
mutual
theorem rep_shrink {t : List Addr} : ∀ {p : PV} {x : V}, Rep K H (ρ ++ t) p x → p.under ρ.length = true → Rep K H ρ p x
  | .non, _, h, _ => by simpa only [Rep] using h
  | .bl _, _, h, _ => by simpa only [Rep] using h
  | .int _, _, h, _ => by simpa only [Rep] using h
  | .str _, _, h, _ => by simpa only [Rep] using h
  | .cst _, _, h, _ => by simpa only [Rep] using h
  | .tup l, _, h, u => by
    obtain ⟨a, xs, h1, h2, h3⟩ := rep_tup h
    simp only [PV.under] at u
    simp only [Rep]
    exact ⟨a, xs, h1, h2, reps_shrink h3 u⟩
  | .ref n, _, h, u => by
    simp only [Rep] at h ⊢
    simp only [PV.under, decide_eq_true_eq] at u
    obtain ⟨a, h1, h2⟩ := h
    rw [List.getElem?_append_left u] at h1
    exact ⟨a, h1, h2⟩
theorem reps_shrink {t : List Addr} : ∀ {p : List PV} {x : List V}, Reps K H (ρ ++ t) p x → PV.unders ρ.length p = true → Reps K H ρ p x
  | [], _, h, _ => by simpa only [Reps] using h
  | p :: ps, _, h, u => by
    obtain ⟨y, ys, rfl, h1, h2⟩ := Reps.cons_iff.mp h
    simp only [PV.unders, Bool.and_eq_true] at u
    exact .cons (rep_shrink h1 u.1) (reps_shrink h2 u.2)
end
theorem repK_vals : ∀ {l : List (Sum Int Str × PV)} {xs : List (Key × V)}, RepK K H ρ l xs → Reps K H ρ (l.map (·.2)) (xs.map (·.2)) ∧ l.map (·.1) = xs.map (·.1)
  | [], xs, h => by
    have : xs = [] := h
    subst this
    exact ⟨.nil, rfl⟩
  | p :: ps, xs, h => by
    obtain ⟨y, ys, rfl, h1, h2⟩ := h
    obtain ⟨h3, h4⟩ := repK_vals h2
    exact ⟨.cons h1 h3, by simp [h4]⟩
theorem repK_shrink {t : List Addr} : ∀ {l : List (Sum Int Str × PV)} {xs : List (Key × V)}, RepK K H (ρ ++ t) l xs → PV.unders ρ.length (l.map (·.2)) = true → RepK K H ρ l xs
  | [], xs, h, _ => h
  | p :: ps, xs, h, u => by
    obtain ⟨y, ys, rfl, h1, h2⟩ := h
    simp only [List.map_cons, PV.unders, Bool.and_eq_true] at u
    exact ⟨y, ys, rfl, rep_shrink h1 u.1, repK_shrink h2 u.2⟩
theorem repO_under {o : PO} {a : Addr} (h : RepO K H ρ o a) : o.under ρ.length = true := by
  cases o with
  | lst l => obtain ⟨xs, _, h⟩ := h; exact reps_under h
  | ro l => obtain ⟨xs, _, h⟩ := h; exact reps_under h
  | dct l => obtain ⟨xs, _, h⟩ := h; exact reps_under (repK_vals h).1
theorem repO_shrink {t : List Addr} {o : PO} {a : Addr} (h : RepO K H (ρ ++ t) o a) (u : o.under ρ.length = true) : RepO K H ρ o a := by
  cases o with
  | lst l => obtain ⟨xs, e, h⟩ := h; exact ⟨xs, e, reps_shrink h u⟩
  | ro l => obtain ⟨xs, e, h⟩ := h; exact ⟨xs, e, reps_shrink h u⟩
  | dct l => obtain ⟨xs, e, h⟩ := h; exact ⟨xs, e, repK_shrink h u⟩
theorem Post.gc {Q : VK} {μ : Mem} {r : Res PV} (h : Post K mg E (RP K) H ρ Q (gc μ r)) (M : MemOk K H ρ μ) : Post K mg E (RP K) H ρ Q r := by
  cases r with
  | ok p m =>
    intro x H' ρ' l M' rx
    unfold PL.gc at h
    simp only at h
    split at h
    · rename_i hg
      obtain ⟨g1, g2, g3⟩ := hg
      obtain ⟨t, rfl⟩ := l.pre
      have l' : Lat K H ρ H' ρ := ⟨⟨[], by simp⟩, l.keep⟩
      have hl := M.len
      refine h x H' ρ l' ⟨by simp; omega, fun n o a hn ha => ?_, fun n k a o u hn hk ho hu mo mu => ?_⟩ (rep_shrink rx (by rw [hl]; exact g2))
      · have hlt : n < μ.length := by
          have := (List.getElem?_eq_some_iff.mp ha).1
          omega
        rw [List.getElem?_take, if_pos hlt] at hn
        have r1 := M'.at' n o a hn (by rw [List.getElem?_append_left (by omega)]; exact ha)
        refine repO_shrink r1 ?_
        rcases g3 n hlt with e | ⟨o', e, ho'⟩
        · rw [hn] at e
          exact repO_under (M.at' n o a e.symm ha)
        · rw [hn] at e
          cases e
          rw [hl]
          exact ho'
      · have k1 : n < μ.length := by have := (List.getElem?_eq_some_iff.mp hn).1; omega
        have k2 : k < μ.length := by have := (List.getElem?_eq_some_iff.mp hk).1; omega
        rw [List.getElem?_take, if_pos k1] at ho
        rw [List.getElem?_take, if_pos k2] at hu
        exact M'.inj n k a o u (by rw [List.getElem?_append_left (by omega)]; exact hn) (by rw [List.getElem?_append_left (by omega)]; exact hk) ho hu mo mu
    · exact h x H' ρ' l M' rx
  | exc x m => exact h
  | stuck => exact h
end
/-- what a def promises by its pure function -/
def spP (K : PySem.W.Frag) (mg : Str → Option Value) (n : Nat) (m : Fn) : Sp := fun vs H Q E => ∃ args μ ρ, args.length = n ∧ MemOk K H ρ μ ∧ Reps K H ρ args vs ∧ Post K mg E (RP K) H ρ Q (m args μ)
/-- a def keeps its promise where the guards of repr are known -/
structure FnG (P : Program) (w : World) (K : PySem.W.Frag) (mg : Str → Option Value) (base : Heap) (CX : CXT) (k : Nat) (f : Addr) (fd : FuncData) (ps : List Str) (sp : Sp) : Prop where
  len : ∀ vs H Q E, sp vs H Q E → vs.length = ps.length
  run : ∀ (A : Around) (outer : List PySem.Env) (s : Shared) (H : Hp) (args : Args) (us : List Value) (vs : List V) (Q : VK) (E : XK), Room k A → A.guards = some [] → Env0 P w K mg base A outer s H → BindsTo s fd args (ps.zip us) → Vals vs us → sp vs H Q E →
    codeAny (model P w) A (.call (.ref f) args) (CR CX outer P w H s Q E) s
theorem fnG_of {CX : CXT} {P : Program} {w : World} {K : PySem.W.Frag} {mg : Str → Option Value} {base : Heap} {k : Nat} {f : Addr} {name qual : Str} {params : Arguments} {body : List Stmt} {scope : Scope} {dV kV doc pm cdv ct oc : Value} {an od : Option Addr}
    {osl : Array (Option Value)} {N ps : List Str} {sp : Sp} (lk : K.lookup f = some ⟨oc, od, .func (PySem.W.fnOf name qual params body scope dV kV doc pm an cdv ct), osl⟩) (hcd : PySem.W.codeIn K cdv qual = true) (S : FnScope N ps scope)
    (len : ∀ vs H Q E, sp vs H Q E → vs.length = ps.length)
    (hbody : ∀ (A : Around) (outer : List PySem.Env) (s : Shared) (H : Hp) (vs : List V) (Q : VK) (E : XK), Room k (A.deeper (PyProof.Rows.envOfC qual scope s.heap.objs.size f cdv)) → A.guards = some [] → sp vs H Q E →
      ∃ t, PSs (cxOf CX P w K mg base N qual scope f cdv A outer s H E) body t ∧ t { nx := fun _ H' => Q .non H', rt := Q } (L2.start N vs) H) :
    FnG P w K mg base CX (k + 1) f (PySem.W.fnOf name qual params body scope dV kV doc pm an cdv ct) ps sp := by
  refine ⟨len, fun A outer s H args us vs Q E hr hgd e0 hb r hsp => ?_⟩
  have hl := len _ _ _ _ hsp
  have KX : K.In s.heap := e0.mod.kin.keeps fun b o e => (e0.bs b o e).1
  have lim : s.heap.NoLimit := e0.mod.nolimit.keeps fun b o e => (e0.bs b o e).1
  have hkind : ∀ y ∈ ps.zip us, scope.names.lookup y.1 = some .local ∨ (scope.names.lookup y.1 = some .cell ∧ ((cellsFrom (s.heap.objs.size + 1) scope.names []).lookup y.1).isSome = true) := fun ⟨n, v⟩ hy => by
    rcases S.par n (List.of_mem_zip hy).1 with q | q
    · exact .inl q
    · exact .inr ⟨q, PySem.W.cellsFrom_some _ _ _ (.inl q)⟩
  refine codeAny_call_function hr.depth (KX _ _ lk) rfl S.co S.gen rfl (PySem.W.codeRec_of KX hcd) (hb _ _ _ _ ?_)
  refine wpAny_newFunctionEnv_cells S.kind hkind fun env he s1 x => ?_
  subst he
  refine ⟨lim.keeps x.toInCall.keep, codeAny_func ?_⟩
  obtain ⟨t, ht, hq⟩ := hbody A outer s H vs Q E (hr.deeper _) hgd hsp
  have I : Inv (cxOf CX P w K mg base N qual scope f cdv A outer s H E) [] (L2.start N vs) H s1 := inv_start S hr.hd e0 hl r x
  refine wpAny_mono (ht.run [] s1 (L2.start N vs) H _ I hq) (fun fl s' hs => ?_) fun e s' hs => hs
  have fin : ∀ {σ' : L2.St} {H' : Hp} {v : V} {u : Value}, Inv (cxOf CX P w K mg base N qual scope f cdv A outer s H E) [] σ' H' s' → RelV v u → Q v H' → CE outer P w H s Q u s' :=
    fun {σ' H' v u} J rv q => ⟨v, H', J.os, J.bare, J.base, J.hok, rv, q⟩
  cases fl with
  | ret u =>
    obtain ⟨v, σ', H', J, rv, q⟩ := hs
    exact fin J rv q
  | next =>
    obtain ⟨σ', H', J, q⟩ := hs
    exact fin (v := V.non) (u := Value.none) J rfl q
  | brk =>
    obtain ⟨_, _, _, q⟩ := hs
    exact False.elim q
  | cont =>
    obtain ⟨_, _, _, q⟩ := hs
    exact False.elim q
/-- the def st of the module under the name x does what the pure m says -/
structure FnM (P : Program) (w : World) (K : PySem.W.Frag) (mg : Str → Option Value) (base : Heap) (CX : CXT) (k : Nat) (x : Str) (st : Stmt) (ps : List Str) (m : Fn) : Prop where
  ex : ∃ (f : Addr) (fd : FuncData) (qual : Str), L2.Fun K x qual st f fd ∧ mg x = some (.ref f) ∧ FnG P w K mg base CX k f fd ps (spP K mg ps.length m)
theorem start_env {K : PySem.W.Frag} {H : Hp} {ρ : List Addr} {N : List Str} {args : List PV} {vs : List V} {n : Nat} (hn : N.length = n) (r : Reps K H ρ args vs) : EnvOk K H ρ (args.map some ++ List.replicate (n - args.length) none) (L2.start N vs) := by
  refine ⟨by simp [L2.start, r.length, hn], fun i p h => ?_⟩
  unfold L2.start
  by_cases hi : i < args.length
  · rw [List.getElem?_append_left (by simpa using hi)] at h
    rw [List.getElem?_map] at h
    cases e : args[i]? with
    | none => rw [e] at h; cases h
    | some q =>
      rw [e] at h
      simp only [Option.map_some, Option.some.injEq] at h
      subst h
      obtain ⟨x, h1, h2⟩ := r.get e
      refine ⟨x, ?_, h2⟩
      rw [List.getElem?_append_left (by simp [r.length]; exact hi), List.getElem?_map, h1]
      rfl
  · rw [List.getElem?_append_right (by simpa using hi)] at h
    have := List.getElem?_replicate (n := n - args.length) (a := (none : Option PV)) (i := i - (args.map some).length)
    rw [this] at h
    split at h <;> cases h
/-- A DEF: its body as a pure statement -/
theorem fn_pure {P : Program} {w : World} {K : PySem.W.Frag} {mg : Str → Option Value} {base : Heap} {k n : Nat} {x qual : Str} {st : Stmt} {f : Addr} {fd : FuncData} {N ps : List Str} {b : Sm} (F : L2.Fun K x qual st f fd) (hm : mg x = some (.ref f)) (S : FnScope N ps (defScope st)) (hn : N.length = n)
    (body : ∀ (cdv : Value) (A : Around) (outer : List PySem.Env) (s : Shared) (H : Hp) (E : XK), Room k (A.deeper (PyProof.Rows.envOfC qual (defScope st) s.heap.objs.size f cdv)) → A.guards = some [] →
      PPb (cxOf CX0 P w K mg base N qual (defScope st) f cdv A outer s H E).nox E (defBody st) b) : FnM P w K mg base CX0 (k + 1) x st ps (fn n b) := by
  refine ⟨f, fd, qual, F, hm, ?_⟩
  obtain ⟨oc, od, kV, doc, pm, an, cdv, ct, osl, rfl, lk, hcd⟩ := F.ex
  refine fnG_of lk hcd S (fun vs H Q E h => ?_) fun A outer s H vs Q E hr hg hsp => ?_
  · obtain ⟨args, μ, ρ, hl, _, r, _⟩ := h
    rw [r.length, hl]
  · refine ⟨_, (body cdv A outer s H E hr hg).ps.nox, ?_⟩
    obtain ⟨args, μ, ρ, hl, M, r, h⟩ := hsp
    refine ⟨_, μ, ρ, start_env hn r, M, ?_⟩
    have h2 : Post K mg E (RP K) H ρ Q (run n b args μ) := Post.gc h M
    unfold run at h2
    show PostS K mg E H ρ _ (b (args.map some ++ List.replicate (n - args.length) none) μ)
    cases e : b (args.map some ++ List.replicate (n - args.length) none) μ with
    | nx env m => rw [e] at h2; exact fun σ' H' ρ' l M' _ => h2 .non H' ρ' l M' rnon
    | rt p m => rw [e] at h2; exact fun x H' ρ' l M' r' => h2 x H' ρ' l M' r'
    | bk env m => rw [e] at h2; exact h2.elim
    | ct env m => rw [e] at h2; exact h2.elim
    | exc x m => rw [e] at h2; exact h2
    | stuck => rw [e] at h2; exact h2.elim
section
variable {X : Cx} {E : XK} {CX : CXT} {k : Nat} {e : Expr} {es : List Expr} {pos : Pos} {m : Fn} {ps : List Str} {st : Stmt}
theorem run_fnG {f : Addr} {fd : FuncData} {args : Args} {pins : List (Addr × Obj)} {σ : L2.St} {H : Hp} {s : Shared} {Q : VK} {us : List Value} {vs : List V} {sp : Sp} (F : FnG X.prog X.w X.K X.mg X.base CX k f fd ps sp) (hr : Room k X.A) (hgd : X.A.guards = some []) (hb : BindsTo s fd args (ps.zip us)) (hx : Passes CX X E)
    (I : Inv X pins σ H s) (r : Vals vs us) (h : sp vs H Q E) : codeAny (model X.prog X.w) X.A (.call (.ref f) args) (fun r s' => match r with | .ok (.ret u) => EP X pins σ Q u s' | .ok _ => False | .error e => X.xe e s') s := by
  refine codeAny_mono (F.run X.A X.stack s H args us vs Q E hr hgd I.env0 hb r h) fun r s' hq => ?_
  cases r with
  | error e => exact hx pins σ H s e s' I hq
  | ok fl =>
    cases fl with
    | ret u => exact I.after hq
    | next => exact False.elim hq
    | brk => exact False.elim hq
    | cont => exact False.elim hq
theorem call_fnG {f : Addr} {fd : FuncData} {pins : List (Addr × Obj)} {σ : L2.St} {H : Hp} {s : Shared} {Q : VK} {us pus : List Value} {kw : List (Str × Value)} {vs : List V} {sp : Sp} (F : FnG X.prog X.w X.K X.mg X.base CX k f fd ps sp) (hr : Room k X.A) (hgd : X.A.guards = some []) (hb : BindsTo s fd ⟨pus, kw⟩ (ps.zip us)) (hx : Passes CX X E)
    (I : Inv X pins σ H s) (r : Vals vs us) (h : sp vs H Q E) : wpAny (model X.prog X.w) X.A (call (.ref f) pus kw) (EP X pins σ Q) X.xe s :=
  wpAny_call (codeAny_mono (run_fnG F hr hgd hb hx I r h) fun r s' hq => by
    cases r with
    | error e => exact hq
    | ok fl =>
      cases fl with
      | ret u => exact hq
      | next => exact False.elim hq
      | brk => exact False.elim hq
      | cont => exact False.elim hq)
/-- how a def's positional arguments bind -/
def Bd (x : Str) (st : Stmt) (ps : List Str) : Prop := ∀ (qual : Str) (kV doc pm : Value) (an : Option Addr) (cdv ct : Value) (us : List Value), us.length = ps.length → bindArgs (PySem.W.fnOf x qual (defArgs st) (defBody st) (defScope st) .none kV doc pm an cdv ct) ⟨us, []⟩ = pure (ps.zip us)
theorem pp_call {x : Str} {g : Ag} {p : Pos} {j : Nat} (F : FnM X.prog X.w X.K X.mg X.base CX j x st ps m) (B : Bd x st ps) (hr : Room k X.A) (hj : j ≤ k) (hgd : X.A.guards = some []) (hx : Passes CX X E) (ha : PPA X E (e :: es) g) (hl : (e :: es).length = ps.length := by rfl) (hg : Gl X x := by rfl) (hdb : (x == ("__debug__" : Str)) = false := by decide)
    (he : starEach (e :: es) X.env = (false, eval e X.env) :: starEach es X.env := by rfl) (hpl : (backTo pos (starEach es X.env)).any (·.1) = false := by rfl) : PP X E (.Call (.Name x p) (e :: es) [] pos) (app m g) := ⟨⟨fun pins s σ H Q I h => by
  obtain ⟨f, fd, qual, FF, hm, G⟩ := F.ex
  obtain ⟨env, μ, ρ, eo, M, h⟩ := h
  have h1 : tA X.K X.mg E g σ H (fun vs H1 => spP X.K X.mg ps.length m vs H1 Q E) := tA_bind eo M h fun xs H1 as μ1 ρ1 eg l1 e1 M1 r1 q1 => ⟨as, μ1, ρ1, by rw [ha.len _ _ _ _ eg, hl], M1, r1, q1⟩
  refine wpAny_Call_Name_kw (ld_glob I hg hm ?_ hdb)
  refine PySem.W.callWith_K (h₀ := X.base) I.ok.mod.kin FF.kp (thn (ha.pa.run pos pins s σ H _ I h1) fun us s1 ⟨vs, H1, I1, r, q⟩ => ⟨I1.kIn, ?_⟩) he hpl
  have hl2 : us.length = ps.length := by rw [← r.length]; exact G.len _ _ _ _ q
  obtain ⟨oc, od, kV, doc, pm, an, cdv, ct, osl, rfl, lk, hcd⟩ := FF.ex
  exact call_fnG G (hr.mono hj) hgd (.of_eq (B qual kV doc pm an cdv ct us hl2)) hx I1 r q⟩⟩
end
end PL
end
section
set_option autoImplicit false
set_option Elab.async false
set_option linter.all false
set_option maxRecDepth 100000
set_option maxHeartbeats 2000000
/-! enumerate of a tuple. -/
namespace PL
section
open PySem
open PySem.Sem (wp)
open PySem.AutoSeq1 (wpAny_loadPart')
theorem meets_enumT (l : Addr) (items : Array Value) (n : Nat) (dct : Option Addr) (sl : Array (Option Value)) :
    Meets (Builtin.«enumerate.__new__» ⟨[.type "enumerate", .ref l], []⟩) (fun _ R s => s.heap.get? l = some { cls := .type "tuple", dict := dct, data := .seq items n, slots := sl } ∧
      R (.ok (.ret (.ref (s.heap.push { cls := .type "tuple_iterator", data := .fields #[.ref l, .int 0 0] }).objs.size)))
        { s with heap := (s.heap.push { cls := .type "tuple_iterator", data := .fields #[.ref l, .int 0 0] }).push { cls := .type "enumerate", data := .fields #[.none, .bool false, .ref s.heap.objs.size, rawInt 0, .none, .none] } }) :=
  .of_wp fun prog w A R s h => by
    obtain ⟨hp, g, d, tk, os⟩ := s; obtain ⟨hl, h⟩ := h
    have hsub := sub_enumerate
    have hL : Heap.IsTuple (Shared.heap ⟨hp, g, d, tk, os⟩) l items := ⟨_, hl, rfl, n, rfl⟩
    wp_walk using wpAny_loadPart' hl
    refine wpAny_stack_any fun st => wpAny_pure ?_
    split
    · rename_i c _ _ _ _ _
      cases (c == Value.type "enumerate")
      · wp_walk using wpAny_loadPart' hl, wpAny_pyIter_tuple hL
        exact ⟨_, rfl, h⟩
      · wp_walk using wpAny_loadPart' hl, wpAny_pyIter_tuple hL
        exact ⟨_, rfl, h⟩
    · wp_walk using wpAny_loadPart' hl, wpAny_pyIter_tuple hL
      exact ⟨_, rfl, h⟩
section
variable {prog : Program} {w : World} {A : Around} {E : Value → Shared → Prop} {s : Shared}
theorem call_enumT {l : Addr} {items : Array Value} {Q : Value → Shared → Prop} (hL : s.heap.IsTuple l items)
    (h : ∀ h', IsEnum h' (s.heap.objs.size + 1) s.heap.objs.size 0 .none → h'.IsTupleIter s.heap.objs.size l 0 → h'.objs.size = s.heap.objs.size + 2 →
      (∀ b o, s.heap.get? b = some o → h'.get? b = some o) → Q (.ref (s.heap.objs.size + 1)) { s with heap := h' }) :
    wpAny (model prog w) A (call (.type "enumerate") [.ref l]) Q E s := by
  obtain ⟨⟨c, dct, dt, sl⟩, hl, hc, n, hd⟩ := hL
  replace hc : c = .type "tuple" := hc
  replace hd : dt = .seq items n := hd
  subst hc hd
  refine callType_new F.called_enumerate (by decide) (F.typeCall_enumerate_1 _) (F.newCall_enumerate_1 _) (fun obj => F.args_object_init_2 obj _) F.entry_enumerate_new
    (meets_enumT l items n dct sl) ⟨hl, ?_⟩
  have hz : (s.heap.push { cls := .type "tuple_iterator", data := .fields #[.ref l, .int 0 0] }).objs.size = s.heap.objs.size + 1 := Heap.size_push ..
  show _ ∧ _
  rw [hz]
  have he : IsEnum ((s.heap.push { cls := .type "tuple_iterator", data := .fields #[.ref l, .int 0 0] }).push
      { cls := .type "enumerate", data := .fields #[.none, .bool false, .ref s.heap.objs.size, rawInt 0, .none, .none] }) (s.heap.objs.size + 1) s.heap.objs.size 0 .none := by
    have := Heap.get?_push_size (s.heap.push { cls := .type "tuple_iterator", data := .fields #[.ref l, .int 0 0] })
      (o := { cls := .type "enumerate", data := .fields #[.none, .bool false, .ref s.heap.objs.size, rawInt 0, .none, .none] }) rfl
    rw [hz] at this; exact this
  refine ⟨⟨_, he, rfl⟩, h _ he ⟨_, Heap.get?_push_of_some _ (Heap.get?_push_size _ rfl), rfl, rfl⟩ (by rw [Heap.size_push, hz]) fun b o x => Heap.get?_push_of_some _ (Heap.get?_push_of_some _ x)⟩
theorem enum_endT {e it l : Addr} {i : Nat} {items : Array Value} {old : Value} {Q : Option Value → Shared → Prop} (hh : A.handled = none)
    (he : IsEnum s.heap e it i old) (hit : s.heap.IsTupleIter it l i) (hl : s.heap.IsTuple l items) (hx : items[i]? = none)
    (hQ : ∀ h', Heap.ExtBut it s.heap h' → Q none { s with heap := h' }) : wpAny (model prog w) A (pyNext (.ref e)) Q E s := by
  have hT : s.TypeIs (.ref e) "enumerate" := ⟨_, he, rfl⟩
  unfold pyNext
  refine wpAny_bind (wpAny_attempt (wpAny_callSpecial?_slot (name := Str.ofString "__next__") hT F.slot_enumerate_next
    (wpAny_call_entry F.slot_enumerate_next hT F.entry_enumerate_next ?_ (F.args_enumerate_next_1 _))))
  show wpAny _ _ (field (.ref e) 2 >>= _) _ _ _
  refine wpAny_bind (wpAny_field he rfl (x := .ref it) rfl ?_)
  refine wpAny_bind (wpAny_nextOf_tuple_end hh hit hl hx fun h' x he' hx' => ?_)
  obtain ⟨o, ho, hc⟩ := hx'
  refine wpAny_bind (wpAny_isInstance (T := "StopIteration") (b := true) ⟨o, ho, hc⟩ isSubtype_stop ?_)
  exact wpAny_pure (hQ _ he')
end
end
section
open PySem PySem.Spec PyProof.Rows L2
/-- the tuple at a at each turn, each item in a new pair -/
def IteT (K : PySem.W.Frag) (a : Addr) : L2.It :=
  ⟨fun i H => ∃ (xs : List V) (x : V), SqT K H a xs ∧ xs[i]? = some x, fun i H v H' => ∃ T x, v = .ref T ∧ H T = none ∧ H' = upd H T (.tup [.int (i : Nat), x]) ∧ ∀ xs, SqT K H a xs → xs[i]? = some x, fun i H => ∃ xs : List V, SqT K H a xs ∧ xs.length ≤ i⟩
theorem turn_enumT {P : Program} {w : World} {K : PySem.W.Frag} {elts : List Expr} {kk : Nat} {tpos : Pos} (a e it : Addr) :
    Turn P w K (.Tuple elts kk tpos) (IteT K a) [e, it] e (fun i h => (∃ old, IsEnum h e it ((i : Nat) : Int) old) ∧ h.IsTupleIter it a i ∧ e ≠ it ∧ e ≠ a ∧ it ≠ a) where
  mem := by simp
  obj := fun i h st b hb => by
    obtain ⟨⟨old, he⟩, ⟨o, ho, hc, hd⟩, _⟩ := st
    have e' : b = e ∨ b = it := by simpa using hb
    rcases e' with z | z
    · rw [z]; exact ⟨_, he, fun v q => nomatch q⟩
    · rw [z]; exact ⟨o, ho, fun v q => by rw [hd] at q; cases q⟩
  keep := fun i h h' st k => let ⟨⟨old, he⟩, hi, hne⟩ := st; ⟨⟨old, k e (by simp) _ he⟩, hi.at fun o q => k it (by simp) o q, hne⟩
  item := by
    intro X hP hw hK hc i pins s σ H E I hf st hg
    subst hP hw hK
    obtain ⟨⟨old, he⟩, hit, hne, hea, hia⟩ := st
    obtain ⟨xs, x, hq, hx⟩ := hg
    obtain ⟨its, rv, p, hz⟩ := I.tuple hq
    obtain ⟨u, hu, ru⟩ := rv.get hx
    have hel : e < s.heap.objs.size := Heap.lt_size he
    have hil : it < s.heap.objs.size := by obtain ⟨_, q, _⟩ := hit; exact Heap.lt_size q
    have hlt : i < its.toArray.size := by
      have := (List.getElem?_eq_some_iff.mp hu).1
      simpa using this
    refine wpAny_pyNext_enum_itemD (Draws.tuple (A := X.A.in1) (show X.A.in1.handled = none from I.ok.hd hc) it a (Ne.symm hia) its.toArray) he ⟨hit, p⟩ hlt hne (by simp [hne, hea]) fun y h' tk hy ho hst' hT hsz hk => ?_
    obtain rfl : y = u := by
      have h1 : its[i]? = some y := by simpa using hy
      rw [hu] at h1
      exact (Option.some.inj h1).symm
    refine ⟨_, rfl, wpAny_letOwnedTupleGo_enum (s := { s with heap := h', toks := tk + 1 }) ho fun h'' he' sb => ?_⟩
    have hT2 : h''.get? s.heap.objs.size = some { cls := .type "tuple", data := .seq #[.int i tk, y] } := (sb.2 _ (Nat.ne_of_gt hel)).trans hT
    have new : ObjOk X.prog X.w (upd H s.heap.objs.size (.tup [.int (i : Nat), x])) h'' s.heap.objs.size (.tup [.int (i : Nat), x]) :=
      ⟨by show 2 ≤ sizeLine; decide, [.int i tk, y], .cons ⟨_, rfl⟩ (.cons ru .nil), ⟨_, hT2, rfl, _, rfl⟩⟩
    have I1 : Inv X pins σ (upd H s.heap.objs.size (.tup [.int (i : Nat), x])) { s with heap := h'', toks := tk + 1 } :=
      I.turnedNew (ch := [e, it]) (fun b ob hb q => (sb.2 b (fun z => hb (by simp [z]))).trans (hk b ob (fun z => hb (by simp [z])) (fun z => hb (by simp [z])) q)) hf (Nat.le_refl _) new
    refine ⟨.ref s.heap.objs.size, _, I1, rfl, ⟨_, x, rfl, I.hok.fresh (Nat.le_refl _), rfl, fun ys hy => by rw [I.tuple_inj hy hq]; exact hx⟩, ⟨⟨y, ?_⟩, hst'.1.at fun o q => (sb.2 it (Ne.symm hne)).trans q, hne, hea, hia⟩, fun b hb => ?_⟩
    · have e1 : ((i + 1 : Nat) : Int) = (i : Int) + 1 := by omega
      rw [e1]; exact he'
    · have hb' : b < s.heap.objs.size := by
        have e' : b = e ∨ b = it := by simpa using hb
        rcases e' with z | z
        · rw [z]; exact hel
        · rw [z]; exact hil
      rw [upd_ne (Nat.ne_of_lt hb')]
      exact (hf b hb).1
  done := by
    intro X hP hw hK hc i pins s σ H E I hf st hg
    subst hP hw hK
    obtain ⟨⟨old, he⟩, hit, hne, hea, hia⟩ := st
    obtain ⟨xs, hq, hx⟩ := hg
    obtain ⟨its, rv, p, hz⟩ := I.tuple hq
    obtain ⟨f0, f1, f2, f3, f4, f5⟩ := hf it (by simp)
    have hl := rv.length
    exact enum_endT (I.ok.hd hc) he hit p (by simp; omega) fun h' eb => ⟨rfl, I.turned (t' := s.toks) (fun b o hb q => eb b o hb q) f0 f1 f3 f4 f5⟩
  self := fun A i s Q E st h => let ⟨⟨_, he⟩, _⟩ := st; wpAny_pyIter_enum he h
def iEnumT (K : PySem.W.Frag) (ta : TA) : TI := fun σ H R => ta σ H fun vs H1 => ∃ a xs, vs = [.ref a] ∧ SqT K H1 a xs ∧ R (IteT K a) H1
theorem pi_enumT {X : Cx} {e : Expr} {ta : TA} {p pos tpos : Pos} {elts : List Expr} {kk : Nat} (hg : Gl X "enumerate") (hm : X.mg "enumerate" = none) (ha : PA X [e] ta) (hs : starEach [e] X.env = [(false, eval e X.env)] := by rfl) :
    PI X (.Tuple elts kk tpos) (.Call (.Name "enumerate" p) [e] [] pos) (iEnumT X.K ta) := by
  refine ⟨fun pins s σ H R I h => ?_⟩
  refine Call_ (ld_blt I hg hm boot_enumerate (PyProof.Rows.callWith_type1 (thn (ha.run pos pins s σ H _ I h) fun us s1 ⟨vs, H1, I1, r1, q1⟩ => ?_) hs rfl))
  obtain ⟨a, xs, ex, hq, q⟩ := q1
  subst ex
  cases r1 with
  | cons r rr =>
    cases rr
    cases r
    obtain ⟨its, rv, p', hz⟩ := I1.tuple hq
    have hlt : a < s1.heap.objs.size := by obtain ⟨o, h1, _⟩ := p'; exact Heap.lt_size h1
    refine call_enumT p' fun h' he hit hsz hk => wpAny_pyIter_enum he ?_
    have I2 : Inv X pins σ H1 { s1 with heap := h' } := I1.kept (t' := s1.toks) hk
    refine ⟨s1.heap.objs.size + 1, [s1.heap.objs.size + 1, s1.heap.objs.size], _, _, H1, rfl, I2, turn_enumT a (s1.heap.objs.size + 1) s1.heap.objs.size, ⟨⟨.none, he⟩, hit, Nat.succ_ne_self _, Nat.ne_of_gt (Nat.lt_succ_of_lt hlt), Nat.ne_of_gt hlt⟩, fun b hb => ?_, q⟩
    have e' : b = s1.heap.objs.size + 1 ∨ b = s1.heap.objs.size := by simpa using hb
    have hle : s1.heap.objs.size ≤ b := by
      rcases e' with z | z
      · rw [z]; exact Nat.le_add_right _ _
      · rw [z]; exact Nat.le_refl _
    exact I1.fpOk hle (I1.hok.fresh hle)
end
section
open PySem L2
theorem itOk_enumT {K : PySem.W.Frag} {H : Hp} {ρ : List Addr} {l : List PV} {a : Addr} {xs : List V} (s : SqT K H a xs) (r : Reps K H ρ l xs) : ItOk K H ρ ⟨enumL 0 l, []⟩ (IteT K a) where
  go := fun H1 ρ1 μ1 i p l1 M1 lk hi => by
    obtain ⟨p1, g1, rfl⟩ := enumL_get hi
    have s1 := l1.keep a xs s
    obtain ⟨x, h1, h2⟩ := r.get g1
    refine ⟨⟨xs, x, s1, h1⟩, fun z H' hy => ?_⟩
    obtain ⟨T, x', rfl, hT, rfl, e1⟩ := hy
    have e1 := e1 xs s1
    rw [h1] at e1
    cases e1
    have q := M1.other (ho := .tup [.int (i : Nat), x]) hT
    refine ⟨q.2, q.1, rep_pair q.2 ?_ (Rep.mono l1 _ _ h2)⟩
    rw [Nat.zero_add]
    exact rint
  stop := fun H1 ρ1 μ1 l1 M1 lk => by
    refine ⟨xs, l1.keep a xs s, ?_⟩
    show xs.length ≤ (enumL 0 l).length
    rw [enumL_len, r.length]
    exact Nat.le_refl _
variable {X : Cx} {E : XK} {a : Expr} {fa : Ex} {pos : Pos}
theorem ppi_enum {elts : List Expr} {kk : Nat} {tpos p : Pos} (hm : X.mg "enumerate" = none) (h : PP X E a fa) (hg : Gl X "enumerate" := by rfl) (hs : starEach [a] X.env = [(false, eval a X.env)] := by rfl) :
    PPI X E (.Tuple elts kk tpos) (.Call (.Name "enumerate" p) [a] [] pos) (iEnum fa) :=
  ⟨PI.imp (PI.or (pi_enum hg hm (pa_cons h.pe pa_nil (by rw [hs]; rfl)) hs) (pi_enumT hg hm (pa_cons h.pe pa_nil (by rw [hs]; rfl)) hs)) fun σ H R hh => by
  obtain ⟨env, μ, ρ, eo, M, hh⟩ := hh
  cases z : fa env μ with
  | ok p m =>
    have hz : Post X.K X.mg E (fun H' ρ' z J => ItOk X.K H' ρ' z J) H ρ R (enumOf p m) := by
      unfold iEnum at hh
      rw [z] at hh
      exact hh
    cases p with
    | tup l =>
      refine .inr (pa1 ⟨env, μ, ρ, eo, M, ?_⟩)
      rw [z]
      intro x H1 ρ1 l1 M1 r1
      obtain ⟨a, xs, rfl, k1, k2⟩ := rep_tup r1
      exact ⟨a, xs, rfl, k1, hz (IteT X.K a) H1 ρ1 l1 M1 (itOk_enumT k1 k2)⟩
    | ref n =>
      simp only [enumOf] at hz
      split at hz
      · rename_i l hl
        refine .inl (pa1 ⟨env, μ, ρ, eo, M, ?_⟩)
        rw [z]
        intro x H1 ρ1 l1 M1 r1
        obtain ⟨a, xs, rfl, k1, k2, _⟩ := getL_ref M1 r1 hl
        obtain ⟨b, hb, e⟩ := rep_ref M1 r1
        cases e
        exact ⟨a, xs, rfl, k1, hz (Ite X.K a) H1 ρ1 l1 M1 (itOk_enumL hb)⟩
      · exact hz.elim
    | _ => exact hz.elim
  | exc x m =>
    unfold iEnum at hh
    rw [z] at hh
    exact .inl (pa1 ⟨env, μ, ρ, eo, M, by rw [z]; exact hh⟩)
  | stuck =>
    unfold iEnum at hh
    rw [z] at hh
    exact hh.elim⟩
end
end PL
end
section
set_option autoImplicit false
set_option Elab.async false
set_option linter.all false
set_option maxRecDepth 100000
set_option maxHeartbeats 2000000
/-! Calls with keywords; the law's end. -/
namespace PL
open PySem L2
section
variable {X : Cx} {E : XK} {CX : CXT} {k : Nat} {e : Expr} {es : List Expr} {pos : Pos} {m : Fn} {ps : List Str} {st : Stmt}
/-- the values of keywords -/
structure PPK (X : Cx) (E : XK) (kws : List Keyword) (f : Ag) : Prop where
  pk : PK X kws (tA X.K X.mg E f)
  len : ∀ env μ as μ', f env μ = .ok as μ' → as.length = kws.length
theorem PK.imp {kws : List Keyword} {t t' : TA} (h : PK X kws t) (i : ∀ σ H Q, t' σ H Q → t σ H Q) : PK X kws t' := ⟨fun p pins s σ H Q I q => h.run p pins s σ H Q I (i σ H Q q)⟩
theorem ac_len {fa : Ex} {f : Ag} {n : Nat} (h : ∀ env μ as μ', f env μ = .ok as μ' → as.length = n) : ∀ env μ as μ', ac fa f env μ = .ok as μ' → as.length = n + 1 := fun env μ as μ' e => by
  unfold ac at e
  cases z : fa env μ with
  | ok p m =>
    rw [z, Res.bind_ok] at e
    cases z2 : f env m with
    | ok qs m2 =>
      rw [z2, Res.bind_ok] at e
      cases e
      simp [h _ _ _ _ z2]
    | exc x m2 => rw [z2] at e; cases e
    | stuck => rw [z2] at e; cases e
  | exc x m => rw [z] at e; cases e
  | stuck => rw [z] at e; cases e
theorem ppk_nil : PPK X E [] an := ⟨PK.imp pk_nil fun σ H Q h => by
  obtain ⟨env, μ, ρ, eo, M, h⟩ := h
  exact Post.val (R := RPs X.K) (show Post X.K X.mg E (RPs X.K) H ρ Q (Res.ok [] μ) from h) M .nil, fun env μ as μ' e => by cases e; rfl⟩
theorem ppk_cons {nm : Option Str} {kpos : Pos} {kws : List Keyword} {fa : Ex} {f : Ag} (ha : PP X E e fa) (hr : PPK X E kws f) : PPK X E (⟨nm, e, kpos⟩ :: kws) (ac fa f) := ⟨PK.imp (pk_cons ha.pe hr.pk) fun σ H Q h => by
  obtain ⟨env, μ, ρ, eo, M, h⟩ := h
  exact tE_bind eo M h fun x H1 p m ρ1 _ l1 e1 M1 r1 q1 => tA_bind e1 M1 q1 fun xs H2 qs m2 ρ2 _ l2 e2 M2 r2 q2 =>
    Post.val (R := RPs X.K) (show Post X.K X.mg E (RPs X.K) H2 ρ2 Q (Res.ok (p :: qs) m2) from q2) M2 (.cons (Rep.mono l2 _ _ r1) r2), fun env μ as μ' e => ac_len hr.len env μ as μ' e⟩
theorem perm_reps {K : PySem.W.Frag} {H : Hp} {ρ : List Addr} {l : List PV} {xs : List V} (r : Reps K H ρ l xs) : ∀ is : List Nat, Reps K H ρ (perm is l) (perm is xs)
  | [] => .nil
  | i :: is => by
    have ih := perm_reps r is
    unfold perm at ih ⊢
    cases h : l[i]? with
    | some p =>
      obtain ⟨x, h1, h2⟩ := r.get h
      rw [List.filterMap_cons_some h, List.filterMap_cons_some h1]
      exact .cons h2 ih
    | none =>
      have h1 : xs[i]? = none := by
        rw [List.getElem?_eq_none_iff, r.length]
        exact List.getElem?_eq_none_iff.mp h
      rw [List.filterMap_cons_none h, List.filterMap_cons_none h1]
      exact ih
theorem perm_vals {xs : List V} {us : List Value} (r : Vals xs us) : ∀ is : List Nat, Vals (perm is xs) (perm is us)
  | [] => .nil
  | i :: is => by
    have ih := perm_vals r is
    unfold perm at ih ⊢
    cases h : xs[i]? with
    | some p =>
      obtain ⟨u, h1, h2⟩ := r.get h
      rw [List.filterMap_cons_some h, List.filterMap_cons_some h1]
      exact .cons h2 ih
    | none =>
      rw [List.filterMap_cons_none h, List.filterMap_cons_none (r.none_of h)]
      exact ih
/-- how a call with keywords binds -/
def BdK (x : Str) (st : Stmt) (ps ks : List Str) (n : Nat) (is : List Nat) : Prop := ∀ (qual : Str) (kV doc pm : Value) (an : Option Addr) (cdv ct : Value) (us ws : List Value), us.length = n → ws.length = ks.length →
  bindArgs (PySem.W.fnOf x qual (defArgs st) (defBody st) (defScope st) .none kV doc pm an cdv ct) ⟨us, ks.zip ws⟩ = pure (ps.zip (perm is (us ++ ws)))
theorem pp_callK {x : Str} {g gk : Ag} {p : Pos} {j : Nat} {ks : List Str} {is : List Nat} {kws : List Keyword} (F : FnM X.prog X.w X.K X.mg X.base CX j x st ps m) (B : BdK x st ps ks (e :: es).length is) (hr : Room k X.A) (hj : j ≤ k) (hgd : X.A.guards = some []) (hx : Passes CX X E) (ha : PPA X E (e :: es) g) (hkw : PPK X E kws gk)
    (hl : ∀ l : List PV, l.length = (e :: es).length + kws.length → (perm is l).length = ps.length) (hlk : kws.length = ks.length := by rfl) (hg : Gl X x := by rfl) (hdb : (x == ("__debug__" : Str)) = false := by decide)
    (hall : (backToKw pos (keywordEach kws X.env)).all (·.1.isSome) = true := by rfl) (hks : (backToKw pos (keywordEach kws X.env)).filterMap (·.1) = ks := by rfl)
    (he : starEach (e :: es) X.env = (false, eval e X.env) :: starEach es X.env := by rfl)
    (hpl : ((backTo pos (starEach (e :: es) X.env)).any (·.1) || (backToKw pos (keywordEach kws X.env)).any (·.1.isNone)) = false := by rfl) :
    PP X E (.Call (.Name x p) (e :: es) kws pos) (callK m is g gk) := ⟨⟨fun pins s σ H Q I h => by
  obtain ⟨f, fd, qual, FF, hm, G⟩ := F.ex
  obtain ⟨env, μ, ρ, eo, M, h⟩ := h
  refine wpAny_Call_Name_kw (ld_glob I hg hm ?_ hdb)
  have h1 : tA X.K X.mg E g σ H (fun vs H1 => vs.length = (e :: es).length ∧ tA X.K X.mg E gk σ H1 fun zs H2 => zs.length = ks.length ∧ spP X.K X.mg ps.length m (perm is (vs ++ zs)) H2 Q E) :=
    tA_bind eo M h fun xs H1 as μ1 ρ1 eg l1 e1 M1 r1 q1 => ⟨by rw [r1.length]; exact ha.len _ _ _ _ eg, tA_bind e1 M1 q1 fun ys H2 bs μ2 ρ2 eg2 l2 e2 M2 r2 q2 =>
      ⟨by rw [r2.length, hkw.len _ _ _ _ eg2, hlk], _, μ2, ρ2, hl (as ++ bs) (by rw [List.length_append, ha.len _ _ _ _ eg, hkw.len _ _ _ _ eg2]), M2, perm_reps ((Reps.mono l2 _ _ r1).append r2) is, q2⟩⟩
  refine PySem.W.callWith_KW (h₀ := X.base) I.ok.mod.kin FF.kp hall (thn (ha.pa.run pos pins s σ H _ I h1) fun us s1 ⟨vs, H1, I1, r, hv, q⟩ => ?_) hpl he
  refine thn (hkw.pk.run pos pins s1 σ H1 _ I1 q) fun ws s2 ⟨zs, H2, I2, rz, hz, q2⟩ => ⟨I2.kIn, ?_⟩
  rw [hks]
  obtain ⟨oc, od, kV, doc, pm, an, cdv, ct, osl, rfl, lk, hcd⟩ := FF.ex
  exact call_fnG G (hr.mono hj) hgd (.of_eq (B qual kV doc pm an cdv ct us ws (by rw [← r.length]; exact hv) (by rw [← rz.length]; exact hz))) hx I2 (perm_vals (r.append rz) is) q2⟩⟩
theorem pp_callK0 {x : Str} {gk : Ag} {p : Pos} {j : Nat} {ks : List Str} {is : List Nat} {kws : List Keyword} (F : FnM X.prog X.w X.K X.mg X.base CX j x st ps m) (B : BdK x st ps ks 0 is) (hr : Room k X.A) (hj : j ≤ k) (hgd : X.A.guards = some []) (hx : Passes CX X E) (hkw : PPK X E kws gk)
    (hl : ∀ l : List PV, l.length = kws.length → (perm is l).length = ps.length) (hlk : kws.length = ks.length := by rfl) (hg : Gl X x := by rfl) (hdb : (x == ("__debug__" : Str)) = false := by decide)
    (hall : (backToKw pos (keywordEach kws X.env)).all (·.1.isSome) = true := by rfl) (hks : (backToKw pos (keywordEach kws X.env)).filterMap (·.1) = ks := by rfl)
    (hpl : ((backTo pos (starEach [] X.env)).any (·.1) || (backToKw pos (keywordEach kws X.env)).any (·.1.isNone)) = false := by rfl) :
    PP X E (.Call (.Name x p) [] kws pos) (callK m is an gk) := ⟨⟨fun pins s σ H Q I h => by
  obtain ⟨f, fd, qual, FF, hm, G⟩ := F.ex
  obtain ⟨env, μ, ρ, eo, M, h⟩ := h
  refine wpAny_Call_Name_kw (ld_glob I hg hm ?_ hdb)
  have h1 : tA X.K X.mg E gk σ H (fun zs H2 => zs.length = ks.length ∧ spP X.K X.mg ps.length m (perm is zs) H2 Q E) :=
    tA_bind (k := fun bs μ2 => m (perm is ([] ++ bs)) μ2) eo M h fun ys H2 bs μ2 ρ2 eg2 l2 e2 M2 r2 q2 => ⟨by rw [r2.length, hkw.len _ _ _ _ eg2, hlk], _, μ2, ρ2, hl bs (hkw.len _ _ _ _ eg2), M2, perm_reps r2 is, q2⟩
  refine PySem.W.callWith_KW0 (h₀ := X.base) I.ok.mod.kin FF.kp hall ?_ hpl
  refine thn (hkw.pk.run pos pins s σ H _ I h1) fun ws s2 ⟨zs, H2, I2, rz, hz, q2⟩ => ⟨I2.kIn, ?_⟩
  rw [hks]
  obtain ⟨oc, od, kV, doc, pm, an, cdv, ct, osl, rfl, lk, hcd⟩ := FF.ex
  exact call_fnG G (hr.mono hj) hgd (.of_eq (B qual kV doc pm an cdv ct [] ws rfl (by rw [← rz.length]; exact hz))) hx I2 (perm_vals rz is) q2⟩⟩
end
end PL
end
section
set_option autoImplicit false
set_option Elab.async false
set_option linter.all false
set_option maxRecDepth 100000
set_option maxHeartbeats 2000000
/-! The law's end: from the pure law to the row. -/
namespace PL
open PySem PySem.Spec PyProof.Rows L2
theorem hu65 {A : Around} {k : Nat} (hr : Room k A) : A.units + 65 < cLine := by have := hr.un; omega
theorem hu64 {A : Around} {k : Nat} (hr : Room k A) : A.units + 64 < cLine := by have := hr.un; omega
/-- what the script gives at the law's call -/
structure AtLaw (P : Program) (w : World) (K : PySem.W.Frag) (mg mb : Str → Option Value) (s : Shared) (a : Addr) (vs : List Value) (ns : List Int) : Prop where
  kin : K.In s.heap
  nm : s.heap.Ns mainGlobals mg
  nb : s.heap.Ns builtinsNs mb
  bt : ∀ x : Str, x ≠ "__name__" → mb x = bootBuiltins x
  lim : s.heap.NoLimit
  gens : s.gens = #[]
  obj : s.heap.get? a = some { cls := .type "list", data := .seq vs.toArray }
  vals : IntsAre vs ns
  few : ns.length ≤ sizeLine
/-- an abstract heap in which the script alone may be tracked -/
structure Alone (P : Program) (w : World) (K : PySem.W.Frag) (s : Shared) (a : Addr) (ns : List Int) (H : Hp) : Prop where
  only : Only H
  seq : RoL K H a (ns.map V.int)
  ok : HOk P w H s.heap
  here : ∀ b, H b ≠ none → b = a
  notK : H a ≠ none → K.lookup a = none
theorem AtLaw.alone {P : Program} {w : World} {K : PySem.W.Frag} {mg mb : Str → Option Value} {s : Shared} {a : Addr} {vs : List Value} {ns : List Int} (L : AtLaw P w K mg mb s a vs ns) : ∃ H, Alone P w K s a ns H := by
  have rv := vals_ints L.vals
  cases hk : K.lookup a with
  | some o =>
    have ho : o = { cls := .type "list", data := .seq vs.toArray } := Option.some.inj ((L.kin a o hk).symm.trans L.obj)
    subst ho
    have sq : ∀ H', SqL K H' a (ns.map V.int) := fun H' => Or.inr ⟨_, vs.toArray, _, hk, rfl, rfl, rfl, by rw [List.size_toArray, L.vals.length]; exact L.few, by simpa using rv⟩
    exact ⟨fun _ => none, ⟨fun _ => Or.inl rfl, Or.inr sq, fun b u z => by simp at z, fun b z => absurd rfl z, fun z => absurd rfl z⟩⟩
  | none =>
    let O : HO := .frz { cls := .type "list", data := .seq vs.toArray } (.lst (ns.map V.int))
    have at_a : ∀ b, b = a → (fun b => if b = a then some O else none : Hp) b = some O := fun b e => if_pos e
    have off : ∀ b, b ≠ a → (fun b => if b = a then some O else none : Hp) b = none := fun b e => if_neg e
    refine ⟨fun b => if b = a then some O else none, ⟨fun b => ?_, Or.inl ⟨_, at_a a rfl⟩, fun b u z => ?_, fun b z => ?_, fun _ => hk⟩⟩
    · by_cases e : b = a
      · exact Or.inr ⟨_, _, at_a b e⟩
      · exact Or.inl (off b e)
    · by_cases e : b = a
      · have z2 := (at_a b e).symm.trans z
        cases z2
        subst e
        exact ⟨L.obj, by rw [List.length_map]; exact L.few, vs, _, rv, L.obj⟩
      · have z2 := (off b e).symm.trans z
        cases z2
    · by_cases e : b = a
      · exact e
      · exact absurd (off b e) z
theorem lawG_call {P : Program} {w : World} {K : PySem.W.Frag} {mg mb : Str → Option Value} {k : Nat} {fa a : Addr} {fd : FuncData} {x : Str} {m : Fn} {s : Shared} {vs : List Value} {ns : List Int} (L : AtLaw P w K mg mb s a vs ns) (hr : Room k callerA)
    (F : ∀ base : Heap, K.In base → base.Ns mainGlobals mg → FnG P w K mg base CX0 k fa fd [x] (spP K mg 1 m)) (hbind : ∀ (s : Shared) (u : Value), BindsTo s fd ⟨[u], []⟩ [(x, u)])
    (law : ∃ μ', m [.ref 0] [.ro (ns.map PV.int)] = .ok (.bl true) μ') :
    codeAny (model P w) callerA (.call (.ref fa) ⟨[.ref a], []⟩) (fun r s' => r = .ok (.ret (.bool true)) ∧ OldK s.heap s'.heap ∧ s'.os = s.os ∧ AllBare s'.gens) s := by
  obtain ⟨H, N⟩ := L.alone
  obtain ⟨μ', hlaw⟩ := law
  have keepNs : ∀ {b : Addr} {f : Str → Option Value}, s.heap.Ns b f → (hidT s.heap H).Ns b f := fun {b f} ⟨o, es, ep, e, d, r⟩ => by
    have hb : H b = none := by
      cases q : H b with
      | none => rfl
      | some u =>
        have eb : b = a := N.here b (by simp [q])
        subst eb
        rw [L.obj] at e
        cases e
        cases d
    exact ⟨o, es, ep, hidT_get e hb, d, r⟩
  have kb : K.In (hidT s.heap H) := fun b o e => by
    refine hidT_get (L.kin b o e) ?_
    cases q : H b with
    | none => rfl
    | some u =>
      have eb : b = a := N.here b (by simp [q])
      subst eb
      rw [N.notK (by simp [q])] at e
      cases e
  have hM : Mod K mg (hidT s.heap H) := ⟨kb, keepNs L.nm, ⟨mb, keepNs L.nb, L.bt⟩, let ⟨mc, h1, h2⟩ := L.lim; ⟨mc, keepNs h1, h2⟩⟩
  have e0 : Env0 P w K mg (hidT s.heap H) callerA [] s H :=
    ⟨rfl, hM, fun b o e => of_hidT e, Nat.le_of_eq (hidT_size _ _), trivial, fun b hb => (nomatch (show b ∈ ([] : List Addr) from hb)), N.ok, .of_eq L.gens⟩
  have ints_rep : ∀ l : List Int, Reps K H [a] (l.map PV.int) (l.map V.int) := fun l => by
    induction l with
    | nil => exact .nil
    | cons z l ih => exact .cons rint ih
  have M : MemOk K H [a] [.ro (ns.map PV.int)] := by
    refine ⟨rfl, fun n o b hn hb => ?_, fun n k b o u _ _ ho _ mo _ => ?_⟩
    · have hn0 : n = 0 := by
        have := (List.getElem?_eq_some_iff.mp hn).1
        simpa using this
      subst hn0
      simp only [List.getElem?_cons_zero, Option.some.injEq] at hn hb
      subst hn hb
      exact ⟨ns.map V.int, N.seq, ints_rep ns⟩
    · have hn0 : n = 0 := by
        have := (List.getElem?_eq_some_iff.mp ho).1
        simpa using this
      subst hn0
      simp only [List.getElem?_cons_zero, Option.some.injEq] at ho
      subst ho
      cases mo
  have hsp : spP K mg 1 m [.ref a] H (fun v _ => v = .bl true) (fun _ _ _ => False) := by
    refine ⟨[.ref 0], [.ro (ns.map PV.int)], [a], rfl, M, .cons ?_ .nil, ?_⟩
    · simp only [Rep]
      exact ⟨a, rfl, rfl⟩
    · rw [hlaw]
      intro b H' ρ' l M' r
      exact vbl r
  refine codeAny_mono ((F _ kb (keepNs L.nm)).run callerA [] s H ⟨[.ref a], []⟩ [.ref a] [.ref a] _ _ hr rfl e0 (hbind s (.ref a)) (.cons rfl .nil) hsp) fun r s' h => ?_
  match r, h with
  | .error e, h => exact False.elim h
  | .ok .next, h => exact False.elim h
  | .ok .brk, h => exact False.elim h
  | .ok .cont, h => exact False.elim h
  | .ok (.ret u), h =>
    obtain ⟨v, H', os, bare, un, hok', rv, q⟩ := h
    have qv : v = .bl true := q
    subst qv
    have hu : u = Value.bool true := rv
    subst hu
    refine ⟨rfl, OldK.of_keep fun b o e => ?_, os, bare⟩
    cases q : H b with
    | none => exact un.keep b o e q (fun z => nomatch (show b ∈ ([] : List Addr) from z)) (fun z => nomatch z)
    | some u =>
      rcases N.only b with z | ⟨ob, xs, z⟩
      · rw [q] at z
        cases z
      · have z2 := un.frzs b ob _ z
        have g1 := (N.ok b _ z).1
        have g2 := (hok' b _ z2).1
        rw [e] at g1
        cases g1
        exact g2
/-- the goal that the head leaves -/
theorem walkP {l : PySem.W.OpenLaw} {n k : Nat} {q : Program} {loose : List Str} {XP : (Str → Option Value) → Heap → Prop} {YP : World → Heap → Prop} {d : DefRec} {K : Params → PySem.W.Frag} {x : Str} {st : Stmt} {m : Fn}
    (hn : l.most = some n) (hn2 : n ≤ sizeLine) (hdf : d.params.defaults = []) (hr : Room k callerA)
    (hY : ∀ (w : World) (h : Heap), YP w h → (K w.params).In h)
    (hB : Bd d.name st [x])
    (F : ∀ (w : World) (mg : Str → Option Value) (h base : Heap), (K w.params).In h → h.Ns mainGlobals mg → (K w.params).In base → base.Ns mainGlobals mg → FnM l.prog w (K w.params) mg base CX0 k d.name st [x] m)
    (law : ∀ ns : List Int, ns.length ≤ n → (∀ z ∈ ns, Builtin.Int.intBits z ≤ 1048576) → ∃ μ', m [.ref 0] [.ro (ns.map PV.int)] = .ok (.bl true) μ') :
    PySem.W.WalkO q loose XP YP l.row.toRowW d [] (fun f vs => PySem.call f vs) := by
  refine Att.attach_callB hn hdf fun w s₀ s₁ mg mb fa o pm cd doc a vs ns G Y ho hd hcd hmg hobj hints hlen hbits hg => ?_
  have KX := hY w _ Y
  have L : AtLaw l.prog w (K w.params) mg mb s₁ a vs ns := ⟨KX, G.T.g, G.T.b, G.T.builtins, G.T.nolimit, hg, hobj, hints, Nat.le_trans hlen hn2⟩
  obtain ⟨f0, fd0, qual, FF, hm0, G0⟩ := (F w mg s₁.heap s₁.heap KX G.T.g KX G.T.g).ex
  have ef : f0 = fa := by
    have h1 : (Value.ref f0 : Value) = Value.ref fa := Option.some.inj (hm0.symm.trans hmg)
    injection h1
  subst ef
  obtain ⟨oc, od, kV, doc', pm', an, cdv, ct, osl, rfl, lk, hcd'⟩ := FF.ex
  refine lawG_call L hr (fun base hb1 hb2 => ?_) (fun s u => .of_eq (hB qual kV doc' pm' an cdv ct [u] rfl)) (law ns hlen hbits)
  obtain ⟨f1, fd1, qual1, FF1, hm1, G1⟩ := (F w mg s₁.heap base KX G.T.g hb1 hb2).ex
  have ef : f1 = f0 := by
    have h1 : (Value.ref f1 : Value) = Value.ref f0 := Option.some.inj (hm1.symm.trans hmg)
    injection h1
  subst ef
  obtain ⟨oc1, od1, kV1, doc1, pm1, an1, cdv1, ct1, osl1, e1, lk1, hcd1⟩ := FF1.ex
  have e2 := lk.symm.trans lk1
  injection e2 with e3
  injection e3 with _ _ e4 _
  injection e4 with e5
  rw [e5]
  exact G1
end PL
end
section
set_option autoImplicit false
set_option Elab.async false
set_option linter.all false
set_option maxRecDepth 100000
set_option maxHeartbeats 2000000
/-! More: constants that are tuples, stars in displays, bits, statements that are not followed. -/
namespace PL
open PySem PySem.Spec PyProof.Rows L2
section
variable {K : PySem.W.Frag} {H : Hp} {ρ : List Addr}
/-- values of a constant -/
def KV (K : PySem.W.Frag) (H : Hp) (ρ : List Addr) (l : List PV) (vs : List Value) : Prop := ∃ xs, Vals xs vs ∧ Reps K H ρ l xs
theorem kv_nil : KV K H ρ [] [] := ⟨[], .nil, by simp only [Reps]⟩
theorem kv_cons {p : PV} {x : V} {u : Value} {l : List PV} {vs : List Value} (r : RelV x u) (h : Rep K H ρ p x) (t : KV K H ρ l vs) : KV K H ρ (p :: l) (u :: vs) := by
  obtain ⟨xs, h1, h2⟩ := t
  exact ⟨x :: xs, .cons r h1, .cons h h2⟩
theorem kv_int {i : Int} {t : Tok} {l : List PV} {vs : List Value} (h : KV K H ρ l vs) : KV K H ρ (.int i :: l) (.int i t :: vs) := kv_cons (x := .int i) ⟨t, rfl⟩ rint h
theorem kv_str {i : Str} {t : Tok} {l : List PV} {vs : List Value} (h : KV K H ρ l vs) : KV K H ρ (.str i :: l) (.str i t :: vs) := kv_cons (x := .str i) ⟨t, rfl⟩ rstr h
theorem kv_non {l : List PV} {vs : List Value} (h : KV K H ρ l vs) : KV K H ρ (.non :: l) (.none :: vs) := kv_cons (x := .non) rfl rnon h
theorem kv_bl {i : Bool} {l : List PV} {vs : List Value} (h : KV K H ρ l vs) : KV K H ρ (.bl i :: l) (.bool i :: vs) := kv_cons (x := .bl i) rfl rbl h
theorem kv_ref {p : PV} {a : Addr} {l : List PV} {vs : List Value} (r : Rep K H ρ p (.ref a)) (h : KV K H ρ l vs) : KV K H ρ (p :: l) (.ref a :: vs) := kv_cons (x := .ref a) rfl r h
theorem rep_ktup {a : Addr} {d : Option Addr} {its : Array Value} {n : Nat} {sl : Array (Option Value)} {l : List PV} (q : K.lookup a = some ⟨.type "tuple", d, .seq its n, sl⟩) (hz : its.size ≤ sizeLine) (hv : KV K H ρ l its.toList) : Rep K H ρ (.tup l) (.ref a) := by
  obtain ⟨xs, h1, h2⟩ := hv
  simp only [Rep]
  exact ⟨a, xs, rfl, .inr ⟨_, its, n, q, rfl, rfl, hz, h1⟩, h2⟩
end
section
variable {X : Cx} {E : XK} {a : Expr} {es : List Expr} {fa : Ex} {pos : Pos}
theorem pps_stuck {st : Stmt} : PPs X E st stuckS := ⟨⟨fun pins s σ H D I h => by
  obtain ⟨env, μ, ρ, _, _, h⟩ := h
  exact h.elim⟩⟩
/-- what a display lists, stars among it -/
structure PPAs (X : Cx) (E : XK) (es : List Expr) (f : Ag) : Prop where
  pa : PA X es (tA X.K X.mg E f)
theorem PPA.s {f : Ag} (h : PPA X E es f) : PPAs X E es f := ⟨h.pa⟩
theorem ppas_nil : PPAs X E [] an := PPA.s ppa_nil
theorem ppas_cons {f : Ag} (ha : PP X E a fa) (hr : PPAs X E es f) (hs : starEach (a :: es) X.env = (false, eval a X.env) :: starEach es X.env := by rfl) : PPAs X E (a :: es) (ac fa f) := ⟨by
  refine PA.imp (pa_cons ha.pe hr.pa hs) fun σ H Q h => ?_
  obtain ⟨env, μ, ρ, eo, M, h⟩ := h
  exact tE_bind eo M h fun x H1 p m ρ1 _ l1 e1 M1 r1 q1 => tA_bind e1 M1 q1 fun xs H2 ps m2 ρ2 _ l2 e2 M2 r2 q2 =>
    Post.val (R := RPs X.K) (show Post X.K X.mg E (RPs X.K) H2 ρ2 Q (Res.ok (p :: ps) m2) from q2) M2 (.cons (Rep.mono l2 _ _ r1) r2)⟩
theorem ppas_star {f : Ag} {p : Pos} (ha : PP X E a fa) (hr : PPAs X E es f) (hs : starEach (.Starred a p :: es) X.env = (true, eval a X.env) :: starEach es X.env := by rfl) : PPAs X E (.Starred a p :: es) (acs fa f) := ⟨by
  refine PA.imp (StX.pa_star ha.pe hr.pa hs) fun σ H Q h => ?_
  obtain ⟨env, μ, ρ, eo, M, h⟩ := h
  refine tE_bind eo M h fun x H1 p m ρ1 _ l1 e1 M1 r1 q1 => ?_
  cases p with
  | tup l =>
    obtain ⟨b, xs, rfl, k1, k2⟩ := rep_tup r1
    refine ⟨b, xs, rfl, .inl k1, tA_bind e1 M1 q1 fun ys H2 ps m2 ρ2 _ l2 e2 M2 r2 q2 => ?_⟩
    exact Post.val (R := RPs X.K) (show Post X.K X.mg E (RPs X.K) H2 ρ2 (fun ys H2 => Q ys H2) (Res.ok (l ++ ps) m2) from q2) M2 ((Reps.mono l2 _ _ k2).append r2)
  | ref n =>
    simp only at q1
    split at q1
    · rename_i l e
      obtain ⟨b, xs, g1, rfl, g3, g4⟩ := mem_lst M1 r1 e
      refine ⟨b, xs, rfl, .inr (SqL.of g3), tA_bind e1 M1 q1 fun ys H2 ps m2 ρ2 _ l2 e2 M2 r2 q2 => ?_⟩
      exact Post.val (R := RPs X.K) (show Post X.K X.mg E (RPs X.K) H2 ρ2 (fun ys H2 => Q ys H2) (Res.ok (l ++ ps) m2) from q2) M2 ((Reps.mono l2 _ _ g4).append r2)
    · exact q1.elim
  | _ => exact q1.elim⟩
theorem pp_tupS {f : Ag} {k : Nat} (h : PPAs X E es f) : PP X E (.Tuple es k pos) (app fTup f) := ⟨by
  refine PE.imp (pe_tup h.pa) fun σ H Q h => ?_
  obtain ⟨env, μ, ρ, eo, M, h⟩ := h
  refine tA_bind eo M h fun xs H1 ps m ρ1 _ l1 e1 M1 r1 q1 => ?_
  unfold fTup at q1
  split at q1
  · rename_i hz
    exact ⟨by rw [SL_eq, r1.length]; exact hz, q1.newT M1 r1⟩
  · exact q1.elim⟩
theorem pp_lstS {f : Ag} (h : PPAs X E es f) : PP X E (.List es pos) (app fLst f) := ⟨by
  refine PE.imp (pe_lst h.pa) fun σ H Q h => ?_
  obtain ⟨env, μ, ρ, eo, M, h⟩ := h
  refine tA_bind eo M h fun xs H1 ps m ρ1 _ l1 e1 M1 r1 q1 => ?_
  unfold fLst at q1
  split at q1
  · rename_i hz
    exact ⟨by rw [SL_eq, r1.length]; exact hz, q1.newL M1 r1⟩
  · exact q1.elim⟩
theorem opP_shl : OpR X (binaryOp .LShift) (rP2 X.K X.mg E fShl) := by
  intro pins s σ H x y v u Q I rx ry h
  obtain ⟨μ, ρ, p, q, M, hp, hq, h⟩ := h
  cases p <;> cases q <;> first | exact h.elim | skip
  rename_i i j
  obtain rfl := vint hp
  obtain rfl := vint hq
  simp only [fShl] at h
  split at h
  · rename_i hz
    exact op_shlW pins s σ H _ _ v u Q I rx ry ⟨i, j, rfl, rfl, hz, h.val M rint⟩
  · exact h.elim
theorem opP_shr : OpR X (binaryOp .RShift) (rP2 X.K X.mg E fShr) := by
  intro pins s σ H x y v u Q I rx ry h
  obtain ⟨μ, ρ, p, q, M, hp, hq, h⟩ := h
  cases p <;> cases q <;> first | exact h.elim | skip
  rename_i i j
  obtain rfl := vint hp
  obtain rfl := vint hq
  simp only [fShr] at h
  split at h
  · rename_i hz
    exact op_shr pins s σ H _ _ v u Q I rx ry ⟨i, j, rfl, rfl, hz, h.val M rint⟩
  · exact h.elim
theorem opP_band : OpR X (binaryOp .BitAnd) (rP2 X.K X.mg E fBAnd) := by
  intro pins s σ H x y v u Q I rx ry h
  obtain ⟨μ, ρ, p, q, M, hp, hq, h⟩ := h
  cases p <;> cases q <;> first | exact h.elim | skip
  rename_i i j
  obtain rfl := vint hp
  obtain rfl := vint hq
  exact op_and pins s σ H _ _ v u Q I rx ry ⟨i, j, rfl, rfl, Post.val (R := RP X.K) (show Post X.K X.mg E (RP X.K) H ρ Q (Res.ok (.int (Builtin.bitAnd i j)) μ) from h) M rint⟩
theorem opP_bor : OpR X (binaryOp .BitOr) (rP2 X.K X.mg E fBOr) := by
  intro pins s σ H x y v u Q I rx ry h
  obtain ⟨μ, ρ, p, q, M, hp, hq, h⟩ := h
  cases p <;> cases q <;> first | exact h.elim | skip
  rename_i i j
  obtain rfl := vint hp
  obtain rfl := vint hq
  exact op_or pins s σ H _ _ v u Q I rx ry ⟨i, j, rfl, rfl, Post.val (R := RP X.K) (show Post X.K X.mg E (RP X.K) H ρ Q (Res.ok (.int (Builtin.bitOr i j)) μ) from h) M rint⟩
theorem opP_bxor : OpR X (binaryOp .BitXor) (rP2 X.K X.mg E fBXor) := by
  intro pins s σ H x y v u Q I rx ry h
  obtain ⟨μ, ρ, p, q, M, hp, hq, h⟩ := h
  cases p <;> cases q <;> first | exact h.elim | skip
  rename_i i j
  obtain rfl := vint hp
  obtain rfl := vint hq
  exact op_xor pins s σ H _ _ v u Q I rx ry ⟨i, j, rfl, rfl, Post.val (R := RP X.K) (show Post X.K X.mg E (RP X.K) H ρ Q (Res.ok (.int (Builtin.bitXor i j)) μ) from h) M rint⟩
end
end PL
end
section
set_option autoImplicit false
set_option Elab.async false
set_option linter.all false
set_option maxRecDepth 100000
set_option maxHeartbeats 2000000
/-! range(a, b) of ends of any size. -/
namespace PL
open PySem PySem.Spec PyProof.Rows L2
theorem turn_longrange {P : Program} {w : World} {K : PySem.W.Frag} {tg : Expr} (it : Addr) (lo : Int) (n : Nat) : Turn P w K tg (Itr lo n) [it] it (fun i h => IsLongIter h it (lo + (i : Nat) * 1) ((n : Int) - (i : Nat)) 1) where
  mem := by simp
  obj := fun i h st b hb => by
    have e : b = it := by simpa using hb
    subst e
    exact ⟨_, st, fun v z => by
      have z' : Data.fields _ = Data.cell v := z
      cases z'⟩
  keep := fun i h h' st k => k it (by simp) _ st
  item := by
    intro X hP hw hK hc i pins s σ H E I hf st hg
    subst hP hw hK
    obtain ⟨f0, f1, f2, f3, f4, f5⟩ := hf it (by simp)
    have W := Walks.longrange (prog := X.prog) (w := X.w) (I.ok.hd hc) it lo 1 n
    refine W.item i s _ _ hg st fun v h' tk hv st' kk => ?_
    obtain ⟨t, rfl⟩ := hv
    have I1 : Inv X pins σ H { s with heap := h', toks := tk } := I.turned (fun b o hb e => kk b o (by simpa using hb) e) f0 f1 f3 f4 f5
    refine ⟨_, rfl, go_of (s := { s with heap := h', toks := tk }) (n := "longrange_iterator") st' rfl rfl (by decide) ⟨.int (lo + i), H, I1, ⟨t, ?_⟩, ⟨rfl, rfl⟩, st', fun b hb => (hf b hb).1⟩⟩
    rw [Int.mul_one]
  done := by
    intro X hP hw hK hc i pins s σ H E I hf st hg
    subst hP hw hK
    obtain ⟨f0, f1, f2, f3, f4, f5⟩ := hf it (by simp)
    exact wpAny_pyNext_long_end (I.ok.hd hc) st (by have : n ≤ i := hg; omega) fun h' eb => ⟨rfl, I.turned (t' := s.toks) (fun b o hb e => eb b o hb e) f0 f1 f3 f4 f5⟩
  self := fun _ _ _ _ _ st h => wpAny_pyIter_longiter st h
section
variable {X : Cx} {tg : Expr}
theorem range_itW {pins : List (Addr × Obj)} {σ : L2.St} {H : Hp} {s : Shared} {R : L2.It → Hp → Prop} {E : Value → Shared → Prop} {lo hi : Int} {t u v : Tok} {tk : Nat} (I : Inv X pins σ H s)
    (q : R (Itr lo (hi - lo).toNat) H) : wpAny (model X.prog X.w) X.A (pyIter (.ref s.heap.objs.size)) (PIE X pins σ tg R) E { s with heap := s.heap.push { cls := .type "range", data := .fields #[.int lo t, .int hi u, .int 1 v] }, toks := tk } := by
  have I1 : Inv X pins σ H { s with heap := s.heap.push { cls := .type "range", data := .fields #[.int lo t, .int hi u, .int 1 v] }, toks := tk } := I.kept fun b o e => Heap.get?_push_of_some _ e
  by_cases hs : Builtin.Range.small lo hi 1 = true
  · refine wpAny_pyIter_range (IsRange.new ..) hs ?_
    refine ⟨(s.heap.push { cls := .type "range", data := .fields #[.int lo t, .int hi u, .int 1 v] }).objs.size, [(s.heap.push { cls := .type "range", data := .fields #[.int lo t, .int hi u, .int 1 v] }).objs.size], _, _, H, rfl,
      I1.kept (t' := tk) fun b o e => Heap.get?_push_of_some _ e, turn_range _ lo (hi - lo).toNat, ?_, fun b hb => ?_, q⟩
    · have e1 : lo + ((0 : Nat) : Int) * 1 = lo := by simp
      have e2 : (((hi - lo).toNat : Nat) : Int) - ((0 : Nat) : Int) = Builtin.Range.rangeSize lo hi 1 := by rw [rangeSize_one]; split <;> omega
      show IsRangeIter _ _ (lo + ((0 : Nat) : Int) * 1) ((((hi - lo).toNat : Nat) : Int) - ((0 : Nat) : Int)) 1
      rw [e1, e2]
      exact Heap.get?_push_size _ rfl
    · have e : b = (s.heap.push { cls := .type "range", data := .fields #[.int lo t, .int hi u, .int 1 v] }).objs.size := by simpa using hb
      subst e
      exact I1.fpOk (Nat.le_refl _) (I1.hok.fresh (Nat.le_refl _))
  · refine wpAny_pyIter_longrange (IsRange.new ..) (by simpa using hs) ?_
    refine ⟨(s.heap.push { cls := .type "range", data := .fields #[.int lo t, .int hi u, .int 1 v] }).objs.size, [(s.heap.push { cls := .type "range", data := .fields #[.int lo t, .int hi u, .int 1 v] }).objs.size], _, _, H, rfl,
      I1.kept (t' := tk) fun b o e => Heap.get?_push_of_some _ e, turn_longrange _ lo (hi - lo).toNat, ?_, fun b hb => ?_, q⟩
    · have e1 : lo + ((0 : Nat) : Int) * 1 = lo := by simp
      have e2 : (((hi - lo).toNat : Nat) : Int) - ((0 : Nat) : Int) = Builtin.Range.rangeSize lo hi 1 := by rw [rangeSize_one]; split <;> omega
      show IsLongIter _ _ (lo + ((0 : Nat) : Int) * 1) ((((hi - lo).toNat : Nat) : Int) - ((0 : Nat) : Int)) 1
      rw [e1, e2]
      exact Heap.get?_push_size _ rfl
    · have e : b = (s.heap.push { cls := .type "range", data := .fields #[.int lo t, .int hi u, .int 1 v] }).objs.size := by simpa using hb
      subst e
      exact I1.fpOk (Nat.le_refl _) (I1.hok.fresh (Nat.le_refl _))
def wRng2 (ta : TA) : TI := fun σ H R => ta σ H fun vs H1 => ∃ i j : Int, vs = [.int i, .int j] ∧ R (Itr i (j - i).toNat) H1
theorem pi_range2W {a b : Expr} {ta : TA} {p pos : Pos} (hg : Gl X "range") (hm : X.mg "range" = none) (ha : PA X [a, b] ta) (hs : starEach [a, b] X.env = [(false, eval a X.env), (false, eval b X.env)] := by rfl) (hs2 : starEach [b] X.env = [(false, eval b X.env)] := by rfl) :
    PI X tg (.Call (.Name "range" p) [a, b] [] pos) (wRng2 ta) := by
  refine ⟨fun pins s σ H R I h => ?_⟩
  refine Call_ (ld_blt I hg hm boot_range (PyProof.Rows.callWith_type1 (thn (ha.run pos pins s σ H _ I h) fun us s1 ⟨vs, H1, I1, r1, q1⟩ => ?_) (by rw [hs, hs2]) (by rw [hs2]; rfl)))
  obtain ⟨i, j, e, q⟩ := q1
  subst e
  cases r1 with
  | cons r rr =>
    cases rr with
    | cons r' rr =>
      cases rr
      obtain ⟨t, rfl⟩ := r
      obtain ⟨t', rfl⟩ := r'
      exact call_range_2 (range_itW I1 q)
end
section
variable {X : Cx} {E : XK} {a b tg : Expr} {fa fb : Ex}
theorem ppi_rng2w {p pos : Pos} (hm : X.mg "range" = none) (h : PP X E a fa) (h' : PP X E b fb) (hg : Gl X "range" := by rfl) (hs : starEach [a, b] X.env = [(false, eval a X.env), (false, eval b X.env)] := by rfl) (hs2 : starEach [b] X.env = [(false, eval b X.env)] := by rfl) :
    PPI X E tg (.Call (.Name "range" p) [a, b] [] pos) (iRng2w fa fb) := ⟨PI.imp (pi_range2W (tg := tg) hg hm (pa_cons h.pe (pa_cons h'.pe pa_nil (by rw [hs2]; rfl)) (by rw [hs, hs2])) hs hs2) fun σ H R hh => by
  obtain ⟨env, μ, ρ, eo, M, hh⟩ := hh
  refine tE_bind eo M hh fun x H1 p m ρ1 _ l1 e1 M1 r1 q1 => tE_bind e1 M1 q1 fun y H2 q m2 ρ2 _ l2 e2 M2 r2 q2 => ?_
  cases p with
  | int i =>
    cases q with
    | int j =>
      obtain rfl := vint r1
      obtain rfl := vint r2
      exact ⟨i, j, rfl, q2 (Itr i (j - i).toNat) H2 ρ2 (.refl _ _ _) M2 (itOk_rng i _)⟩
    | _ => exact q2.elim
  | _ => cases q <;> exact q2.elim⟩
end
end PL
end
section
set_option autoImplicit false
set_option Elab.async false
set_option linter.all false
set_option maxRecDepth 100000
set_option maxHeartbeats 2000000
/-! list.index of data. -/
namespace PL
open PySem PySem.Spec PyProof.Rows L2
section
variable {X : Cx} {E : XK} {e : Expr} {es : List Expr} {pos : Pos}
theorem mtP_index (hu : X.A.units + 65 < cLine) : MtR X "list.index" (rPm X.K X.mg E fIndex) := by
  intro pins s σ H x xs v us Q I rx rxs h
  obtain ⟨μ, ρ, p, ps, M, hp, hps, h⟩ := h
  cases p with
  | ref n =>
    match ps, hps with
    | [q], hps =>
      obtain ⟨y, rfl, r⟩ := reps1 hps
      simp only [fIndex] at h
      split at h
      · rename_i d es e3 e4
        split at h
        · rename_i hz
          split at h
          · rename_i j hj
            have D1 := dp_toD M e4 hp
            have D2 := dp_toD M e3 r
            obtain ⟨hjl, hj1, hj2⟩ := List.findIdx?_eq_some_iff_getElem.mp hj
            obtain ⟨a, rfl⟩ : ∃ a, x = .ref a := by
              simp only [Rep] at hp
              first
                | exact ⟨_, hp.2⟩
                | (obtain ⟨a, _, rfl⟩ := hp; exact ⟨a, rfl⟩)
                | (obtain ⟨a, rfl, _⟩ := hp; exact ⟨a, rfl⟩)
            refine mt_indexD hu pins s σ H _ _ v us Q I rx rxs ⟨a, y, d, es, j, es[j], rfl, rfl, D1, D2, hz.2, hz.1, List.getElem?_eq_getElem hjl, hj1, ?_, h.val M rint⟩
            intro k z' hk hz'
            have hkl := (List.getElem?_eq_some_iff.mp hz').1
            have := hj2 k hk
            have e5 := (List.getElem?_eq_some_iff.mp hz').2
            rw [← e5]
            simpa using this
          · exact h.elim
        · exact h.elim
      · exact h.elim
    | [], _ => exact h.elim
    | _ :: _ :: _, _ => exact h.elim
  | _ => exact h.elim
theorem pp_index {o : Expr} {fo : Ex} {g : Ag} {apos : Pos} (hu : X.A.units + 65 < cLine) (ho : PP X E o fo) (ha : PPA X E (e :: es) g) (hbase : attributeBase o "index" X.env (eval o X.env) = eval o X.env := by rfl)
    (hfew : ((backTo pos (starEach (e :: es) X.env)).all (fun x => !x.1) && (backToKw pos (keywordEach [] X.env)).all (fun x => x.1.isSome)
      && decide ((e :: es).length + ([] : List Keyword).length + (if ([] : List Keyword).isEmpty then 0 else 1) < 30)) = true := by rfl)
    (hline : (apos.endLine == pos.line) = true := by rfl) (hs : starEach (e :: es) X.env = (false, eval e X.env) :: starEach es X.env := by rfl) (hplain : (backTo pos (starEach es X.env)).any (·.1) = false := by rfl) :
    PP X E (.Call (.Attribute o "index" apos) (e :: es) [] pos) (mth .list fIndex fo g) :=
  pp_bm (k := .list) PySem.F.plainAttrs_list PySem.F.slot_list_index PySem.F.type_list_index (mtP_index hu) ho ha hbase hfew hline hs hplain
end
end PL
end
section
set_option autoImplicit false
set_option Elab.async false
set_option linter.all false
/-! is True, is False. -/
namespace PL
open PySem PySem.Spec PyProof.Rows L2
section
variable {X : Cx} {E : XK}
theorem cmpP_isB : OpR X (compareOp .Is) (rP2 X.K X.mg E fIsB) := by
  intro pins s σ H x y v u Q I rx ry h
  obtain ⟨μ, ρ, p, q, M, hp, hq, h⟩ := h
  cases p <;> first | exact h.elim | skip
  rename_i a
  cases q <;> first | exact h.elim | skip
  rename_i b
  obtain rfl := vbl hp
  obtain rfl := vbl hq
  have e : fIsB [.bl a, .bl b] μ = .ok (.bl (decide (a = b))) μ := rfl
  rw [e] at h
  exact op_isBl pins s σ H _ _ v u Q I rx ry ⟨a, b, rfl, rfl, h.val M rbl⟩
theorem cmpP_notB : OpR X (compareOp .IsNot) (rP2 X.K X.mg E fNotB) := by
  intro pins s σ H x y v u Q I rx ry h
  obtain ⟨μ, ρ, p, q, M, hp, hq, h⟩ := h
  cases p <;> first | exact h.elim | skip
  rename_i a
  cases q <;> first | exact h.elim | skip
  rename_i b
  obtain rfl := vbl hp
  obtain rfl := vbl hq
  have e : fNotB [.bl a, .bl b] μ = .ok (.bl (!decide (a = b))) μ := rfl
  rw [e] at h
  exact op_notBl pins s σ H _ _ v u Q I rx ry ⟨a, b, rfl, rfl, h.val M rbl⟩
end
end PL
end
section
set_option autoImplicit false
set_option Elab.async false
set_option linter.all false
set_option maxRecDepth 100000
set_option maxHeartbeats 2000000
/-! Dicts with keys numbers and texts. -/
namespace PL
open PySem PySem.Spec PyProof.Rows L2
section
variable {K : PySem.W.Frag} {H : Hp} {ρ : List Addr}
theorem RepK.nil : RepK K H ρ [] [] := rfl
theorem RepK.cons_iff {p : DK × PV} {ps : KVs} {zs : List (Key × V)} : RepK K H ρ (p :: ps) zs ↔ ∃ y ys, zs = (p.1, y) :: ys ∧ Rep K H ρ p.2 y ∧ RepK K H ρ ps ys := Iff.rfl
theorem RepK.length : ∀ {kvs : KVs} {xs : List (Key × V)}, RepK K H ρ kvs xs → xs.length = kvs.length
  | [], xs, h => by have h' : xs = [] := h; subst h'; rfl
  | p :: ps, xs, h => by
    obtain ⟨y, ys, rfl, _, t⟩ := h
    simp [RepK.length t]
theorem RepK.val (k : DK) : ∀ {kvs : KVs} {xs : List (Key × V)}, RepK K H ρ kvs xs → (valD kvs k = none ∧ valV xs k = none) ∨ ∃ p x, valD kvs k = some p ∧ valV xs k = some x ∧ Rep K H ρ p x
  | [], xs, h => by have h' : xs = [] := h; subst h'; exact .inl ⟨rfl, rfl⟩
  | p :: ps, xs, h => by
    obtain ⟨y, ys, rfl, r, t⟩ := h
    by_cases e : p.1 = k
    · refine .inr ⟨p.2, y, by simp [valD, e], valV_pos (p := (p.1, y)) e, r⟩
    · have e1 : valD (p :: ps) k = valD ps k := by simp [valD, e]
      have e2 : valV ((p.1, y) :: ys) k = valV ys k := valV_neg (p := (p.1, y)) e
      rw [e1, e2]
      exact RepK.val k t
theorem RepK.any (k : DK) {kvs : KVs} {xs : List (Key × V)} (h : RepK K H ρ kvs xs) : (kvs.any fun kv => decide (kv.1 = k)) = xs.any fun kv => decide (kv.1 = k) := by
  induction kvs generalizing xs with
  | nil => have h' : xs = [] := h; subst h'; rfl
  | cons p ps ih =>
    obtain ⟨y, ys, rfl, r, t⟩ := h
    rw [List.any_cons, List.any_cons, ih t]
theorem RepK.map (k : DK) {q : PV} {y : V} (hq : Rep K H ρ q y) : ∀ {kvs : KVs} {xs : List (Key × V)}, RepK K H ρ kvs xs → RepK K H ρ (kvs.map fun kv => if kv.1 = k then (kv.1, q) else kv) (xs.map fun kv => if kv.1 = k then (kv.1, y) else kv)
  | [], xs, h => by have h' : xs = [] := h; subst h'; rfl
  | p :: ps, xs, h => by
    obtain ⟨z, ys, rfl, r, t⟩ := h
    by_cases e : p.1 = k
    · simp only [List.map_cons, e, if_true]
      exact ⟨y, _, rfl, hq, RepK.map k hq t⟩
    · simp only [List.map_cons, e, if_false]
      exact ⟨z, _, rfl, r, RepK.map k hq t⟩
theorem RepK.snoc {k : DK} {q : PV} {y : V} (hq : Rep K H ρ q y) : ∀ {kvs : KVs} {xs : List (Key × V)}, RepK K H ρ kvs xs → RepK K H ρ (kvs ++ [(k, q)]) (xs ++ [(k, y)])
  | [], xs, h => by have h' : xs = [] := h; subst h'; exact ⟨y, [], rfl, hq, rfl⟩
  | p :: ps, xs, h => by
    obtain ⟨z, ys, rfl, r, t⟩ := h
    exact ⟨z, _, rfl, r, RepK.snoc hq t⟩
theorem RepK.put {k : DK} {q : PV} {y : V} (hq : Rep K H ρ q y) {kvs : KVs} {xs : List (Key × V)} (h : RepK K H ρ kvs xs) : RepK K H ρ (putD kvs k q) (putK xs k y) := by
  unfold putD putK
  rw [h.any k]
  split
  · exact h.map k hq
  · exact h.snoc hq
theorem RepK.merge : ∀ {more : KVs} {ms : List (Key × V)} {kvs : KVs} {xs : List (Key × V)}, RepK K H ρ more ms → RepK K H ρ kvs xs → RepK K H ρ (mergeD kvs more) (mergeK xs ms)
  | [], ms, kvs, xs, h, t => by have h' : ms = [] := h; subst h'; exact t
  | p :: ps, ms, kvs, xs, h, t => by
    obtain ⟨y, ys, rfl, r, u⟩ := h
    have q := RepK.merge (more := ps) (ms := ys) u (t.put (k := p.1) r)
    exact q
theorem key_of' {q : PV} {k : DK} {y : V} (e : keyOf q = some k) (r : Rep K H ρ q y) : y = kV k := by
  cases q <;> simp only [keyOf, Option.some.injEq, reduceCtorEq] at e
  · subst e; exact vint r
  · subst e; exact vstr r
theorem dct_of {μ : Mem} {p : PV} {kvs : KVs} {x : V} (M : MemOk K H ρ μ) (e : dctAt μ p = some kvs) (r : Rep K H ρ p x) : ∃ n a xs, p = .ref n ∧ μ[n]? = some (.dct kvs) ∧ ρ[n]? = some a ∧ x = .ref a ∧ H a = some (.dK xs) ∧ RepK K H ρ kvs xs := by
  cases p <;> simp only [dctAt, reduceCtorEq] at e
  rename_i n
  split at e
  · rename_i kvs' e2
    cases e
    obtain ⟨a, h1, h2⟩ := rep_ref M r
    obtain ⟨xs, h3, h4⟩ := M.at' n _ a e2 h1
    exact ⟨n, a, xs, rfl, e2, h1, h2, h3, h4⟩
  · cases e
end
section
variable {X : Cx} {E : XK} {o i e : Expr} {fo fi fe : Ex} {pos pos' : Pos}
theorem pp_dget (hu : X.A.units + 1 < cLine) (ho : PP X E o fo) (hi : PP X E i fi) (hs : NoSl i := by intro _ _; rfl) : PP X E (.Subscript o i pos) (app2 fDGet fo fi) := ⟨by
  refine PE.imp (pe_dget hu ho.pe hi.pe hs) fun σ H Q h => ?_
  obtain ⟨env, μ, ρ, eo, M, h⟩ := h
  refine tE_bind eo M h fun x H1 p m ρ1 _ l1 e1 M1 r1 q1 => tE_bind e1 M1 q1 fun y H2 q m2 ρ2 _ l2 e2 M2 r2 q2 => ?_
  simp only [fDGet] at q2
  split at q2
  · rename_i kvs k h1 h2
    obtain ⟨n, a, xs, rfl, g1, g2, g3, g4, g5⟩ := dct_of M2 h1 (Rep.mono l2 _ _ r1)
    subst g3
    rcases g5.val k with ⟨z1, z2⟩ | ⟨p', x', z1, z2, z3⟩
    · rw [z1] at q2; exact q2.elim
    · rw [z1] at q2
      refine ⟨a, x', rfl, ?_, q2.val M2 z3⟩
      rw [key_of' h2 r2, ← z2]
      exact DGet.k g4
  · exact q2.elim⟩
theorem pps_dput (hu : X.A.units + 1 < cLine) (ho : PP X E o fo) (hi : PP X E i fi) (he : PP X E e fe) (hs : swapsWith e (some (.Subscript o i pos')) pos.line X.env = pure false := by rfl) :
    PPs X E (.Assign [.Subscript o i pos'] e pos) (dput fo fi fe) := ⟨by
  refine PS.imp (ps_dput hu ho.pe hi.pe he.pe hs) fun D σ H h => ?_
  obtain ⟨env, μ, ρ, eo, M, h⟩ := h
  have step : ∀ {f : Ex} {k : PV → Mem → Out} {H ρ env μ}, EnvOk X.K H ρ env σ → MemOk X.K H ρ μ → PostS X.K X.mg E H ρ D (.of (f env μ) k) → ∀ {Q : VK}, (∀ x H1 p m ρ1, Lat X.K H ρ H1 ρ1 → EnvOk X.K H1 ρ1 env σ → MemOk X.K H1 ρ1 m → Rep X.K H1 ρ1 p x → PostS X.K X.mg E H1 ρ1 D (k p m) → Q x H1) → tE X.K X.mg E f σ H Q :=
    fun {f k H ρ env μ} eo M h {Q} i => ⟨env, μ, ρ, eo, M, (PostS.of (R := RP X.K) h).imp fun x H1 ⟨p, m, ρ1, e, l, M1, r, q⟩ => i x H1 p m ρ1 l (eo.mono l) M1 r q⟩
  refine step (f := fe) eo M h fun v H1 p m ρ1 l1 e1 M1 r1 q1 => step (f := fo) e1 M1 q1 fun x H2 px m2 ρ2 l2 e2 M2 r2 q2 => step (f := fi) e2 M2 q2 fun y H3 py m3 ρ3 l3 e3 M3 r3 q3 => ?_
  have rx := Rep.mono l3 _ _ r2
  have rv := Rep.mono (l2.trans l3) _ _ r1
  cases px with
  | ref n =>
    simp only [fDPut] at q3
    split at q3
    · rename_i kvs k h1 h2
      split at q3
      · rename_i hz
        obtain ⟨n', a, xs, en, g1, g2, g3, g4, g5⟩ := dct_of (p := .ref n) (kvs := kvs) M3 (by simp only [dctAt, h1]) rx
        cases en
        subst g3
        have hl : xs.length < sizeLine := by rw [g5.length, SL_eq]; exact hz
        refine ⟨a, _, rfl, by rw [key_of' h2 r3]; exact DPut.k g4 hl, ?_⟩
        have L0 : Lat X.K H3 ρ3 (upd H3 a (.dK (putK xs k v))) ρ3 := ⟨⟨[], by simp⟩, .upd (fun xs q => by rw [g4] at q; cases q) fun ob xs q => by rw [g4] at q; cases q⟩
        have w := M3.set (ho := .dK (putK xs k v)) (u := .dct (putD kvs k p)) h1 g2 rfl ⟨_, upd_same, RepK.mono L0 _ _ (g5.put rv)⟩
        have q4 : PostS X.K X.mg E H3 ρ3 D (.nx env (m3.set n (.dct (putD kvs k p)))) := q3
        exact q4 σ _ ρ3 w.2 w.1 (e3.mono w.2)
      · exact q3.elim
    · exact q3.elim
  | _ => exact q3.elim⟩
theorem pp_dnew : PP X E (.Dict [] [] pos) dnew := ⟨by
  refine PE.imp pe_dnewK fun σ H Q h => ?_
  obtain ⟨env, μ, ρ, eo, M, h⟩ := h
  intro p hp
  have q := M.push (ho := .dK []) (o := .dct []) hp fun H' ρ' L e => ⟨[], e, rfl⟩
  have h' : Post X.K X.mg E (RP X.K) H ρ Q (.ok (.ref μ.length) (μ ++ [.dct []])) := h
  refine h' (.ref p) _ _ q.2 q.1 ?_
  show Rep X.K _ _ (.ref μ.length) (.ref p)
  simp only [Rep]
  exact ⟨p, by rw [← M.len, List.getElem?_append_right (Nat.le_refl _)]; simp, rfl⟩⟩
/-- pairs of a display -/
def RPP (K : PySem.W.Frag) (H : Hp) (ρ : List Addr) : List (PV × PV) → List (V × V) → Prop
  | [], xs => xs = []
  | p :: ps, xs => ∃ x y ys, xs = (x, y) :: ys ∧ Rep K H ρ p.1 x ∧ Rep K H ρ p.2 y ∧ RPP K H ρ ps ys
theorem RPP.mono {K : PySem.W.Frag} {H H' : Hp} {ρ ρ' : List Addr} (l : Lat K H ρ H' ρ') : ∀ (ps : List (PV × PV)) (xs : List (V × V)), RPP K H ρ ps xs → RPP K H' ρ' ps xs
  | [], _, h => h
  | p :: ps, xs, h => by
    obtain ⟨x, y, ys, e, r1, r2, t⟩ := h
    exact ⟨x, y, ys, e, Rep.mono l _ _ r1, Rep.mono l _ _ r2, RPP.mono l ps ys t⟩
structure PPP (X : Cx) (E : XK) (pos : Pos) (ks : List (Option Expr)) (vs : List Expr) (f : Ap) : Prop where
  ex : ∃ trs, L2.PPs X pos ks vs trs ∧ ∀ σ H (Q : List (V × V) → Hp → Prop), (∃ env μ ρ, EnvOk X.K H ρ env σ ∧ MemOk X.K H ρ μ ∧ Post X.K X.mg E (RPP X.K) H ρ Q (f env μ)) → tPairs trs σ H Q
theorem ppp_nil : PPP X E pos [] [] dn := ⟨[], L2.pps_nil, fun σ H Q ⟨env, μ, ρ, eo, M, h⟩ => Post.val (R := RPP X.K) (show Post X.K X.mg E (RPP X.K) H ρ Q (Res.ok [] μ) from h) M rfl⟩
theorem ppp_cons {k v : Expr} {fk fv : Ex} {ks : List (Option Expr)} {vs : List Expr} {f : Ap} (hk : PP X E k fk) (hv : PP X E v fv) (hr : PPP X E pos ks vs f) : PPP X E pos (some k :: ks) (v :: vs) (dc fk fv f) := by
  obtain ⟨trs, h1, h2⟩ := hr.ex
  refine ⟨(tE X.K X.mg E fk, tE X.K X.mg E fv) :: trs, L2.pps_cons hk.pe hv.pe h1, fun σ H Q ⟨env, μ, ρ, eo, M, h⟩ => ?_⟩
  refine tE_bind (fa := fk) eo M h fun x H1 p m ρ1 _ l1 e1 M1 r1 q1 => tE_bind (fa := fv) e1 M1 q1 fun y H2 q m2 ρ2 _ l2 e2 M2 r2 q2 => h2 σ H2 _ ⟨env, m2, ρ2, e2, M2, ?_⟩
  refine (Post.bind (R := RPP X.K) q2).imp fun ps H3 ⟨qs, m3, ρ3, _, l3, M3, r3, q3⟩ => ?_
  exact Post.val (R := RPP X.K) (show Post X.K X.mg E (RPP X.K) H3 ρ3 Q (Res.ok ((p, q) :: qs) m3) from q3) M3 ⟨x, y, ps, rfl, Rep.mono (l2.trans l3) _ _ r1, Rep.mono l3 _ _ r2, r3⟩
theorem keys_rep {K : PySem.W.Frag} {H : Hp} {ρ : List Addr} : ∀ {ps : List (PV × PV)} {kvs : KVs} {xs : List (V × V)}, keysOf ps = some kvs → RPP K H ρ ps xs → ∃ ks : List (Key × V), xs = ks.map (fun kv => (kV kv.1, kv.2)) ∧ RepK K H ρ kvs ks
  | [], kvs, xs, e, h => by
    simp only [keysOf, Option.some.injEq] at e
    subst e
    have h' : xs = [] := h
    subst h'
    exact ⟨[], rfl, rfl⟩
  | p :: ps, kvs, xs, e, h => by
    obtain ⟨x, y, ys, rfl, r1, r2, t⟩ := h
    simp only [keysOf] at e
    split at e
    · rename_i k ks h1 h2
      cases e
      obtain ⟨zs, rfl, hz⟩ := keys_rep h2 t
      exact ⟨(k, y) :: zs, by rw [key_of' h1 r1]; rfl, y, zs, rfl, r2, hz⟩
    · cases e
theorem pp_disp {ks : List (Option Expr)} {vs : List Expr} {f : Ap} (h : PPP X E pos ks vs f) (hall : ks.all (·.isSome) = true := by rfl) (hl : ks.length = vs.length := by rfl) (h0 : ks ≠ [] := by exact fun h => nomatch h) (h15 : ks.length ≤ 15 := by decide) :
    PP X E (.Dict ks vs pos) (dsp f) := by
  obtain ⟨trs, h1, h2⟩ := h.ex
  refine ⟨PE.imp (pe_disp h1 hall hl h0 h15) fun σ H Q hq => ?_⟩
  obtain ⟨env, μ, ρ, eo, M, hq⟩ := hq
  intro p hp
  have q := M.push (ho := .dK []) (o := .dct []) hp fun H' ρ' L e => ⟨[], e, rfl⟩
  have hq' : Post X.K X.mg E (RP X.K) H ρ Q ((f env (μ ++ [.dct []])).bind fun ps μ1 => dfin μ.length ps μ1) := hq
  refine h2 σ _ _ ⟨env, μ ++ [.dct []], ρ ++ [p], eo.mono q.2, q.1, ?_⟩
  refine (Post.bind (R := RPP X.K) (hq'.later q.2)).imp fun ps H3 ⟨qs, m3, ρ3, _, l3, M3, r3, q3⟩ => ?_
  unfold dfin at q3
  split at q3
  · rename_i kvs e1 e2
    split at q3
    · rename_i hz
      have hp1 : (ρ ++ [p])[μ.length]? = some p := by rw [← M.len, List.getElem?_append_right (Nat.le_refl _)]; simp
      have hp3 := l3.get hp1
      obtain ⟨xs, k1, k2⟩ := M3.at' _ _ p e1 hp3
      have k3 : xs = [] := k2
      subst k3
      obtain ⟨zs, rfl, hzs⟩ := keys_rep e2 r3
      refine ⟨k1, zs, rfl, by rw [hzs.length]; exact hz, ?_⟩
      have L0 : Lat X.K H3 ρ3 (upd H3 p (.dK (mergeK [] zs))) ρ3 := ⟨⟨[], by simp⟩, .upd (fun xs q => by rw [k1] at q; cases q) fun ob xs q => by rw [k1] at q; cases q⟩
      have w := M3.set (ho := .dK (mergeK [] zs)) (u := .dct (mergeD [] kvs)) e1 hp3 rfl ⟨_, upd_same, RepK.mono L0 _ _ (hzs.merge (kvs := []) (xs := []) rfl)⟩
      refine q3 (.ref p) _ _ w.2 w.1 ?_
      show Rep X.K _ _ (.ref μ.length) (.ref p)
      simp only [Rep]
      exact ⟨p, hp3, rfl⟩
    · exact q3.elim
  · exact q3.elim
theorem din_read {f : Fn} {g : Bool → Bool} (hf : ∀ q d μ, f [q, d] μ = match dctAt μ d, keyOf q with
    | some kvs, some k => .ok (.bl (g (valD kvs k).isSome)) μ
    | _, _ => .stuck) {K : PySem.W.Frag} {mg : Str → Option Value} {σ : L2.St} {H : Hp} {Q : VK} (h : tE K mg E (app2 f fi fo) σ H Q) :
    tE K mg E fi σ H fun y H1 => tE K mg E fo σ H1 fun x H2 => ∃ a o, x = .ref a ∧ DGet H2 a y o ∧ Q (.bl (g o.isSome)) H2 := by
  obtain ⟨env, μ, ρ, eo, M, h⟩ := h
  refine tE_bind eo M h fun y H1 p m ρ1 _ l1 e1 M1 r1 q1 => tE_bind e1 M1 q1 fun x H2 q m2 ρ2 _ l2 e2 M2 r2 q2 => ?_
  rw [hf] at q2
  split at q2
  · rename_i kvs k h1 h2
    obtain ⟨n, a, xs, rfl, g1, g2, g3, g4, g5⟩ := dct_of M2 h1 r2
    subst g3
    have hk := key_of' h2 (Rep.mono l2 _ _ r1)
    refine ⟨a, valV xs k, rfl, by rw [hk]; exact DGet.k g4, ?_⟩
    have es : (valV xs k).isSome = (valD kvs k).isSome := by
      rcases g5.val k with ⟨z1, z2⟩ | ⟨p', x', z1, z2, z3⟩
      · rw [z1, z2]; rfl
      · rw [z1, z2]; rfl
    rw [es]
    exact Post.val (R := RP K) q2 M2 rbl
  · exact q2.elim
theorem pp_din (hu : X.A.units + 1 < cLine) (hi : PP X E i fi) (ho : PP X E o fo) (hm : behindInMarks .In o = false := by first | rfl | with_unfolding_all rfl) : PP X E (.Compare i [.In] [o] pos) (app2 fDIn fi fo) :=
  ⟨PE.imp (pe_cmp (pc_din hu hi.pe ho.pe) hm) fun σ H Q h => din_read (g := id) (fun _ _ _ => rfl) h⟩
theorem pp_dnotin (hu : X.A.units + 1 < cLine) (hi : PP X E i fi) (ho : PP X E o fo) (hm : behindInMarks .NotIn o = false := by first | rfl | with_unfolding_all rfl) : PP X E (.Compare i [.NotIn] [o] pos) (app2 fDNotIn fi fo) :=
  ⟨PE.imp (pe_cmp (pc_dnotin hu hi.pe ho.pe) hm) fun σ H Q h => din_read (g := fun b => !b) (fun _ _ _ => rfl) h⟩
theorem tB_read {f : Ex} {K : PySem.W.Frag} {mg : Str → Option Value} {σ : L2.St} {H : Hp} {Q : Bool → Hp → Prop} {t : TE} (i : ∀ Q, tE K mg E f σ H Q → t σ H Q) (h : tT K mg E f σ H Q) : tB t σ H Q := i _ (tE_test h)
theorem ppt_din (hu : X.A.units + 1 < cLine) (hi : PP X E i fi) (ho : PP X E o fo) (hm : behindInMarks .In o = false := by first | rfl | with_unfolding_all rfl) : PPT X E (.Compare i [.In] [o] pos) (app2 fDIn fi fo) :=
  ⟨PT.imp (pt_cmp (pc_din hu hi.pe ho.pe) hm) fun σ H Q h => tB_read (fun Q h => din_read (g := id) (fun _ _ _ => rfl) h) h⟩
theorem ppt_dnotin (hu : X.A.units + 1 < cLine) (hi : PP X E i fi) (ho : PP X E o fo) (hm : behindInMarks .NotIn o = false := by first | rfl | with_unfolding_all rfl) : PPT X E (.Compare i [.NotIn] [o] pos) (app2 fDNotIn fi fo) :=
  ⟨PT.imp (pt_cmp (pc_dnotin hu hi.pe ho.pe) hm) fun σ H Q h => tB_read (fun Q h => din_read (g := fun b => !b) (fun _ _ _ => rfl) h) h⟩
end
theorem hu1 {n : Nat} (h : n + 64 < cLine) : n + 1 < cLine := by omega
end PL
end
section
set_option autoImplicit false
set_option Elab.async false
set_option linter.all false
set_option maxRecDepth 100000
set_option maxHeartbeats 4000000
/-! A tuple so many times, also none, once, of nothing. -/
namespace PL
open PySem PySem.Spec PyProof.Rows L2
theorem tuple_mul_same (l : Addr) (items : Array Value) (n : Nat) (dd : Option Addr) (sl : Array (Option Value)) (x : Int) (u : Tok) (k0 : (decide (x < -(2 ^ 63)) || decide (x ≥ 2 ^ 63)) = false) (k1 : (items.isEmpty || x == 1) = true) :
    Meets (Builtin.«tuple.__mul__» ⟨[.ref l, .int x u], []⟩) (fun _ R s => s.heap.get? l = some { cls := .type "tuple", dict := dd, data := .seq items n, slots := sl } ∧
      R (.ok (.ret (Value.ref l))) s) :=
  .of_wp fun prog w A R s h => by
    obtain ⟨hp, gs, dr, tk, os⟩ := s; obtain ⟨hat, h⟩ := h; have f1 := AutoSeq1.idx_int
    wp_walk using wpAny_loadPart' hat
    repeat (first
      | (refine wpAny_ite_false (decide_eq_false (by rw [k0]; exact Bool.false_ne_true)) ?_; wp_walk using wpAny_loadPart' hat)
      | (refine wpAny_ite_true (decide_eq_true k1) ?_; wp_walk using wpAny_loadPart' hat))
    exact ⟨_, rfl, h⟩
theorem tuple_mul_none (l : Addr) (items : Array Value) (n : Nat) (dd : Option Addr) (sl : Array (Option Value)) (x : Int) (u : Tok) (k0 : (decide (x < -(2 ^ 63)) || decide (x ≥ 2 ^ 63)) = false) (k1 : (items.isEmpty || x == 1) = false) (k2 : (decide (x ≤ 0) || items.isEmpty) = true) :
    Meets (Builtin.«tuple.__mul__» ⟨[.ref l, .int x u], []⟩) (fun _ R s => s.heap.get? l = some { cls := .type "tuple", dict := dd, data := .seq items n, slots := sl } ∧
      R (.ok (.ret (Value.ref s.heap.objs.size))) { s with heap := s.heap.push { cls := Value.type "tuple", data := Data.seq #[] }, toks := s.toks }) :=
  .of_wp fun prog w A R s h => by
    obtain ⟨hp, gs, dr, tk, os⟩ := s; obtain ⟨hat, h⟩ := h; have f1 := AutoSeq1.idx_int
    wp_walk using wpAny_loadPart' hat
    repeat (first
      | (refine wpAny_ite_false (decide_eq_false (by rw [k0]; exact Bool.false_ne_true)) ?_; wp_walk using wpAny_loadPart' hat)
      | (refine wpAny_ite_false (decide_eq_false (by rw [k1]; exact Bool.false_ne_true)) ?_; wp_walk using wpAny_loadPart' hat)
      | (refine wpAny_ite_true (decide_eq_true k2) ?_; wp_walk using wpAny_loadPart' hat))
    exact ⟨_, rfl, h⟩
section
variable {X : Cx} {E : XK}
theorem opP_mulT : OpR X (binaryOp .Mult) (rP2 X.K X.mg E fMulT) := by
  intro pins s σ H x y v u Q I rx ry h
  obtain ⟨μ, ρ, p, q, M, hp, hq, h⟩ := h
  cases p <;> cases q <;> first | exact h.elim | skip
  rename_i l j
  obtain rfl := vint hq
  obtain ⟨a, xs, rfl, h1, h2⟩ := rep_tup hp
  simp only [fMulT] at h
  split at h
  · rename_i hz
    obtain ⟨z1, z2, z3⟩ := hz
    by_cases cA : xs ≠ [] ∧ 2 ≤ j
    · exact op_repT pins s σ H _ _ v u Q I rx ry ⟨a, j, xs, rfl, rfl, h1, cA.1, cA.2, z2, by rw [h2.length]; exact z3, h.newT M (h2.rep _)⟩
    · cases rx
      obtain ⟨t, rfl⟩ := ry
      obtain ⟨its, r, ⟨⟨cls, dd, data, sl⟩, ho, hc, n, hd⟩, hs⟩ := I.tuple h1
      simp only at hc hd
      subst hc hd
      have k0 : (decide (j < -(2 ^ 63)) || decide (j ≥ 2 ^ 63)) = false := by
        rw [decide_eq_false (by omega), decide_eq_false (by omega)] <;> rfl
      have hle : its.length = xs.length := r.length.symm
      by_cases k1 : (its.toArray.isEmpty || j == 1) = true
      · refine wpAny_binaryOp_repeat_ref (T := "tuple") (U := "int") (by decide) ⟨_, ho, rfl⟩ (fun s' => typeIs_int s' j t) noFill_tuple_mul F.fills_int_mul F.slot_int_rmul repeat_tuple F.slot_int_index.lookup
          (call_meets F.slot_int_rmul (typeIs_int s j t) F.entry_int_rmul (F.args_int_rmul_2 _ _) (int_rmul_tuple j t a its.toArray n dd sl)
            ⟨ho, rfl, ⟨_, ho, rfl⟩, call_meets F.slot_tuple_mul ⟨_, ho, rfl⟩ F.entry_tuple_mul (F.args_tuple_mul_2 _ _) (tuple_mul_same a its.toArray n dd sl j t k0 k1) ⟨ho, ?_⟩⟩)
        refine ⟨.ref a, H, I, rfl, h.val M ?_⟩
        show Rep X.K H ρ (.tup (List.replicate j.toNat l).flatten) (.ref a)
        simp only [Rep]
        refine ⟨a, xs, rfl, h1, ?_⟩
        have el : (List.replicate j.toNat l).flatten = l := by
          rcases Bool.or_eq_true _ _ ▸ k1 with c | c
          · have e0 : its = [] := by
              cases its with
              | nil => rfl
              | cons a b => cases c
            have e1 : l = [] := List.eq_nil_of_length_eq_zero (by rw [← h2.length, ← hle, e0]; rfl)
            subst e1
            induction j.toNat with
            | zero => rfl
            | succ k ih => rw [List.replicate_succ, List.flatten_cons, ih]; rfl
          · have : j = 1 := by simpa using c
            subst this
            simp
        rw [el]; exact h2
      · have k1n : (its.toArray.isEmpty || j == 1) = false := by simpa using k1
        have hne : its ≠ [] := by
          intro e; subst e; simp at k1n
        have hj : j ≤ 0 := by
          have : j ≠ 1 := by
            intro e; subst e; simp at k1n
          by_cases c3 : 2 ≤ j
          · exact absurd ⟨fun e => hne (List.eq_nil_of_length_eq_zero (by rw [hle, e]; rfl)), c3⟩ cA
          · omega
        have k2 : (decide (j ≤ 0) || its.toArray.isEmpty) = true := by rw [decide_eq_true hj]; rfl
        refine wpAny_binaryOp_repeat_ref (T := "tuple") (U := "int") (by decide) ⟨_, ho, rfl⟩ (fun s' => typeIs_int s' j t) noFill_tuple_mul F.fills_int_mul F.slot_int_rmul repeat_tuple F.slot_int_index.lookup
          (call_meets F.slot_int_rmul (typeIs_int s j t) F.entry_int_rmul (F.args_int_rmul_2 _ _) (int_rmul_tuple j t a its.toArray n dd sl)
            ⟨ho, rfl, ⟨_, ho, rfl⟩, call_meets F.slot_tuple_mul ⟨_, ho, rfl⟩ F.entry_tuple_mul (F.args_tuple_mul_2 _ _) (tuple_mul_none a its.toArray n dd sl j t k0 k1n k2) ⟨ho, ?_⟩⟩)
        have e0 : (List.replicate j.toNat l).flatten = [] := by
          have : j.toNat = 0 := by omega
          rw [this]; rfl
        rw [e0] at h
        refine ⟨.ref s.heap.objs.size, _, I.laid (t' := s.toks) (o := .tup []) (fun b ob q => Heap.get?_push_of_some _ q) (Nat.le_refl _) ?_, rfl, h.newT M (xs := []) (by simp only [Reps]) _ (I.hok.fresh (Nat.le_refl _))⟩
        exact ⟨Nat.zero_le _, [], .nil, IsTup.new _ _⟩
  · exact h.elim
end
end PL
end
section
set_option autoImplicit false
set_option Elab.async false
set_option linter.all false
set_option maxRecDepth 100000
set_option maxHeartbeats 4000000
/-! `or` of values. -/
namespace PL
open PySem PySem.Spec PyProof.Rows L2
section
variable {X : Cx} {E : XK} {a b : Expr} {fa fb : Ex} {rest : List Expr} {pos : Pos}
theorem pp_orV (ha : PP X E a fa) (hb : PP X E (.BoolOp .Or (b :: rest) pos) fb) : PP X E (.BoolOp .Or (a :: b :: rest) pos) (orV fa fb) := ⟨by
  refine PE.imp (pe_orT ha.pe hb.pe) fun σ H Q h => ?_
  obtain ⟨env, μ, ρ, eo, M, h⟩ := h
  exact tE_bind eo M h fun x H1 p m ρ1 _ l1 e1 M1 r1 q1 => by
    cases p with
    | non =>
      obtain rfl := vnon r1
      exact ⟨false, rfl, by simpa using ⟨env, m, ρ1, e1, M1, q1⟩⟩
    | bl t =>
      obtain rfl := vbl r1
      cases t with
      | false => exact ⟨false, rfl, by simpa using ⟨env, m, ρ1, e1, M1, q1⟩⟩
      | true => exact ⟨true, rfl, by simpa using Post.val q1 M1 r1⟩
    | int i =>
      obtain rfl := vint r1
      by_cases hi : (i != 0) = true
      · refine ⟨true, hi.symm, ?_⟩
        simp only [truP, hi] at q1
        simpa using Post.val q1 M1 r1
      · have hi' : (i != 0) = false := by simpa using hi
        refine ⟨false, hi'.symm, ?_⟩
        simp only [truP, hi'] at q1
        simpa using ⟨env, m, ρ1, e1, M1, q1⟩
    | _ => exact q1.elim⟩
end
end PL
end
section
set_option autoImplicit false
/-! How pure bodies are run: rewriting rules. -/
namespace PL
open PySem
section
variable (env : Env) (μ : Mem)
@[simp] theorem c_ev (p : PV) : c p env μ = .ok p μ := id rfl
@[simp] theorem an_ev : an env μ = .ok [] μ := id rfl
@[simp] theorem ac_ev (a : Ex) (r : Ag) : ac a r env μ = (a env μ).bind fun p μ1 => (r env μ1).bind fun ps μ2 => .ok (p :: ps) μ2 := id rfl
@[simp] theorem acs_ev (a : Ex) (r : Ag) : acs a r env μ = (a env μ).bind fun p μ1 => match p with
  | .tup l => (r env μ1).bind fun ps μ2 => .ok (l ++ ps) μ2
  | .ref n => match μ1[n]? with | some (.lst l) => (r env μ1).bind fun ps μ2 => .ok (l ++ ps) μ2 | _ => .stuck
  | _ => .stuck := id rfl
@[simp] theorem stuckS_ev : stuckS env μ = .stuck := id rfl
@[simp] theorem app_ev (f : Fn) (as : Ag) : app f as env μ = (as env μ).bind fun ps μ1 => f ps μ1 := id rfl
@[simp] theorem app1_ev (f : Fn) (a : Ex) : app1 f a env μ = (a env μ).bind fun p μ1 => f [p] μ1 := id rfl
@[simp] theorem app2_ev (f : Fn) (a b : Ex) : app2 f a b env μ = (a env μ).bind fun p μ1 => (b env μ1).bind fun q μ2 => f [p, q] μ2 := id rfl
@[simp] theorem mth_ev (k : Kd) (f : Fn) (o : Ex) (g : Ag) : mth k f o g env μ = (o env μ).bind fun p μ1 => if isKd k μ1 p = true then (g env μ1).bind fun ps μ2 => f (p :: ps) μ2 else .stuck := id rfl
@[simp] theorem ite_ev (t a b : Ex) : ite t a b env μ = (t env μ).bind fun p μ1 => onB p (a env μ1) (b env μ1) := id rfl
@[simp] theorem and_ev (a b : Ex) : PL.and a b env μ = (a env μ).bind fun p μ1 => onB p (b env μ1) (.ok (.bl false) μ1) := id rfl
@[simp] theorem or_ev (a b : Ex) : PL.or a b env μ = (a env μ).bind fun p μ1 => onB p (.ok (.bl true) μ1) (b env μ1) := id rfl
@[simp] theorem chain_ev (f g : Fn) (a b d : Ex) : chain f g a b d env μ = (a env μ).bind fun p μ1 => (b env μ1).bind fun q μ2 => (f [p, q] μ2).bind fun t μ3 =>
  onB t ((d env μ3).bind fun r μ4 => g [q, r] μ4) (.ok (.bl false) μ3) := id rfl
@[simp] theorem sl_ev (a lo hi : Ex) : sl a lo hi env μ = (a env μ).bind fun p μ1 => ((lo env μ1).bind onPart).bind fun ql μ2 => ((hi env μ2).bind onPart).bind fun qh μ3 => fSl [p, ql, qh] μ3 := id rfl
@[simp] theorem callK_ev (m : Fn) (is : List Nat) (g gk : Ag) : callK m is g gk env μ = (g env μ).bind fun as μ1 => (gk env μ1).bind fun bs μ2 => m (perm is (as ++ bs)) μ2 := id rfl
@[simp] theorem tn_ev (i : Nat) (p : PV) : tn i p env μ = .ok (env.set i (some p)) μ := id rfl
@[simp] theorem t0_ev : t0 [] env μ = .ok env μ := id rfl
@[simp] theorem tc_ev (g : Tg) (r : Tgs) (p : PV) (qs : List PV) : tc g r (p :: qs) env μ = (g p env μ).bind fun e μ1 => r qs e μ1 := id rfl
@[simp] theorem tt_ev (n : Nat) (r : Tgs) (l : List PV) : tt n r (.tup l) env μ = if l.length = n then r l env μ else .stuck := id rfl
@[simp] theorem tt_ref (n : Nat) (r : Tgs) (k : Nat) : tt n r (.ref k) env μ = (match μ[k]? with | some (.lst l) => if l.length = n then r l env μ else .stuck | _ => .stuck) := id rfl
@[simp] theorem tsub_ev (f : Fn) (o i : Ex) (p : PV) : tsub f o i p env μ = (o env μ).bind fun x μ1 => (i env μ1).bind fun y μ2 => (f [x, y, p] μ2).bind fun _ μ3 => .ok env μ3 := id rfl
@[simp] theorem skip_ev : skip env μ = .nx env μ := id rfl
@[simp] theorem brk_ev : brk env μ = .bk env μ := id rfl
@[simp] theorem cnt_ev : cnt env μ = .ct env μ := id rfl
@[simp] theorem seq_ev (a b : Sm) : seq a b env μ = (a env μ).then b := id rfl
@[simp] theorem exp_ev (e : Ex) : PL.exp e env μ = .of (e env μ) fun _ μ1 => .nx env μ1 := id rfl
@[simp] theorem ret_ev (e : Ex) : ret e env μ = .of (e env μ) fun p μ1 => .rt p μ1 := id rfl
@[simp] theorem cond_ev (t : Ex) (a b : Sm) : PL.cond t a b env μ = .of (t env μ) fun p μ1 => onS p (a env μ1) (b env μ1) := id rfl
@[simp] theorem asg_ev (g : Tg) (e : Ex) : asg g e env μ = .of (e env μ) fun p μ1 => .of (g p env μ1) fun e2 μ2 => .nx e2 μ2 := id rfl
@[simp] theorem setv_ev (i : Nat) (e : Ex) : setv i e env μ = .of (e env μ) fun p μ1 => .nx (env.set i (some p)) μ1 := id rfl
@[simp] theorem par_ev (i j : Nat) (a b : Ex) : par i j a b env μ = .of (a env μ) fun p μ1 => .of (b env μ1) fun q μ2 => .nx ((env.set i (some p)).set j (some q)) μ2 := id rfl
@[simp] theorem par3_ev (i j k : Nat) (a b d : Ex) : par3 i j k a b d env μ = .of (a env μ) fun p μ1 => .of (b env μ1) fun q μ2 => .of (d env μ2) fun r μ3 => .nx (((env.set i (some p)).set j (some q)).set k (some r)) μ3 := id rfl
@[simp] theorem forS_ev (it : It) (g : Tg) (body : Sm) : forS it g body env μ = .of (it env μ) fun z μ1 => forN z.lk g body z.items env μ1 := id rfl
@[simp] theorem whileS_ev (t : Ex) (body : Sm) : whileS t body env μ = whileN t body fuel env μ := id rfl
@[simp] theorem iVal_ev (e : Ex) : iVal e env μ = (e env μ).bind itsOf := id rfl
@[simp] theorem iEnum_ev (e : Ex) : iEnum e env μ = (e env μ).bind enumOf := id rfl
@[simp] theorem yes_ev : yes env μ = .ok (.bl true) μ := id rfl
theorem lc_ev (it : It) (g : Tg) (t e : Ex) (vs : List Nat) : lc it g t e vs env μ = (it env μ).bind fun z μ1 => (lcN z.lk g t e vs μ1.length env z.items (μ1 ++ [.lst []])).bind fun _ μ2 => .ok (.ref μ1.length) μ2 := rfl
end
/-- a name's value -/
theorem v_ev (i : Nat) (env : Env) (μ : Mem) (p : PV) (h : env[i]? = some (some p)) : v i env μ = .ok p μ := by unfold v; rw [h]
@[simp] theorem v0 (p : PV) (e : Env) (μ : Mem) : v 0 (some p :: e) μ = .ok p μ := id rfl
@[simp] theorem vS (n : Nat) (o : Option PV) (e : Env) (μ : Mem) : v (n + 1) (o :: e) μ = v n e μ := id rfl
@[simp] theorem itsOf_tup (l : List PV) (μ : Mem) : itsOf (.tup l) μ = .ok ⟨l, []⟩ μ := id rfl
@[simp] theorem enumOf_tup (l : List PV) (μ : Mem) : enumOf (.tup l) μ = .ok ⟨enumL 0 l, []⟩ μ := id rfl
@[simp] theorem locked_nil' (μ : Mem) : locked [] μ := locked_nil μ
theorem forN_nil {lk : List (Nat × List PV)} {g : Tg} {b : Sm} {env : Env} {μ : Mem} (h : locked lk μ) : forN lk g b [] env μ = .nx env μ := by unfold forN; rw [if_pos h]
theorem forN_cons {lk : List (Nat × List PV)} {g : Tg} {b : Sm} {env : Env} {μ : Mem} {p : PV} {ps : List PV} (h : locked lk μ) : forN lk g b (p :: ps) env μ = .of (g p env μ) fun e1 μ1 => match b e1 μ1 with
      | .nx e m => forN lk g b ps e m
      | .ct e m => forN lk g b ps e m
      | .bk e m => .nx e m
      | o => o := by rw [forN, if_pos h]; try rfl
/-! memory: what was there, then new cells -/
@[simp] theorem get_new0 (μ l : Mem) : (μ ++ l)[μ.length]? = l[0]? := by rw [List.getElem?_append_right (Nat.le_refl _), Nat.sub_self]
@[simp] theorem get_new (μ l : Mem) (k : Nat) : (μ ++ l)[μ.length + k]? = l[k]? := by rw [List.getElem?_append_right (Nat.le_add_right _ _), Nat.add_sub_cancel_left]
@[simp] theorem set_new0 (μ l : Mem) (o : PO) : (μ ++ l).set μ.length o = μ ++ l.set 0 o := by rw [List.set_append_right _ _ (Nat.le_refl _), Nat.sub_self]
@[simp] theorem set_new (μ l : Mem) (k : Nat) (o : PO) : (μ ++ l).set (μ.length + k) o = μ ++ l.set k o := by rw [List.set_append_right _ _ (Nat.le_add_right _ _), Nat.add_sub_cancel_left]
@[simp] theorem get_some {μ l : Mem} {k : Nat} {o : PO} (h : μ[k]? = some o) : (μ ++ l)[k]? = some o := by
  rw [List.getElem?_append_left (List.getElem?_eq_some_iff.mp h).1]; exact h
/-! defs -/
@[simp] theorem res_rt (p : PV) (m : Mem) : (Out.rt p m).res = .ok p m := id rfl
@[simp] theorem res_nx (e : Env) (m : Mem) : (Out.nx e m).res = .ok .non m := id rfl
@[simp] theorem res_exc (x : PX) (m : Mem) : (Out.exc x m).res = .exc x m := id rfl
theorem run_ev (n : Nat) (b : Sm) (args : List PV) (μ : Mem) : run n b args μ = (b (args.map some ++ List.replicate (n - args.length) none) μ).res := rfl
theorem fn_ev (n : Nat) (b : Sm) (args : List PV) (μ : Mem) : fn n b args μ = gc μ (run n b args μ) := rfl
@[simp] theorem gc_stuck (μ : Mem) : gc μ .stuck = .stuck := id rfl
theorem gc_drop {μ l : Mem} {p : PV} (h : p.under μ.length = true) : gc μ (.ok p (μ ++ l)) = .ok p μ := by
  unfold gc
  simp only
  rw [if_pos ⟨by simp, h, fun i hi => .inl (List.getElem?_append_left hi)⟩]
  rw [List.take_left]
theorem gc_same {μ : Mem} {p : PV} : gc μ (.ok p μ) = .ok p μ := by
  unfold gc
  simp only
  split
  · rw [List.take_length]
  · rfl
/-- cells of old were written, new ones are dropped -/
theorem gc_wr {μ μ' l : Mem} {p : PV} (hl : μ'.length = μ.length) (h : p.under μ.length = true) (hw : ∀ i, i < μ.length → μ'[i]? = μ[i]? ∨ ∃ o, μ'[i]? = some o ∧ o.under μ.length = true) : gc μ (.ok p (μ' ++ l)) = .ok p μ' := by
  unfold gc
  simp only
  rw [if_pos ⟨by simp [hl], h, fun i hi => by rw [List.getElem?_append_left (by omega)]; exact hw i hi⟩]
  rw [← hl, List.take_left]
/-! data: no reference at all -/
mutual
def PV.data : PV → Bool
  | .tup l => PV.datas l
  | .ref _ => false
  | .cst _ => false
  | .non => true | .bl _ => true | .int _ => true | .str _ => true
def PV.datas : List PV → Bool
  | [] => true
  | p :: ps => PV.data p && PV.datas ps
end
mutual
theorem under_data (n : Nat) : ∀ p : PV, p.data = true → p.under n = true
  | .tup l, h => by simp only [PV.data] at h; simp only [PV.under]; exact unders_data n l h
  | .ref _, h => by simp [PV.data] at h
  | .cst _, h => by simp [PV.data] at h
  | .non, _ => by simp only [PV.under]
  | .bl _, _ => by simp only [PV.under]
  | .int _, _ => by simp only [PV.under]
  | .str _, _ => by simp only [PV.under]
theorem unders_data (n : Nat) : ∀ l : List PV, PV.datas l = true → PV.unders n l = true
  | [], _ => by simp only [PV.unders]
  | p :: ps, h => by
    simp only [PV.datas, Bool.and_eq_true] at h
    simp only [PV.unders, under_data n p h.1, unders_data n ps h.2, Bool.and_self]
end
@[simp] theorem data_int (i : Int) : PV.data (.int i) = true := by simp only [PV.data]
@[simp] theorem data_bl (i : Bool) : PV.data (.bl i) = true := by simp only [PV.data]
@[simp] theorem data_str (i : Str) : PV.data (.str i) = true := by simp only [PV.data]
@[simp] theorem data_non : PV.data .non = true := by simp only [PV.data]
@[simp] theorem data_tup (l : List PV) : PV.data (.tup l) = PV.datas l := by simp only [PV.data]
@[simp] theorem datas_nil : PV.datas [] = true := by simp only [PV.datas]
@[simp] theorem datas_cons (p : PV) (l : List PV) : PV.datas (p :: l) = (PV.data p && PV.datas l) := by simp only [PV.datas]
theorem datas_iff (l : List PV) : PV.datas l = true ↔ ∀ p ∈ l, p.data = true := by
  induction l with
  | nil => simp
  | cons p ps ih => simp [ih]
/-- a def that hands back data and leaves the old cells alone -/
theorem fn_data {n : Nat} {b : Sm} {args : List PV} {μ l : Mem} {p : PV} (h : run n b args μ = .ok p (μ ++ l)) (hd : p.data = true) : fn n b args μ = .ok p μ := by
  rw [fn_ev, h, gc_drop (under_data _ _ hd)]
theorem fn_pure0 {n : Nat} {b : Sm} {args : List PV} {μ : Mem} {p : PV} (h : run n b args μ = .ok p μ) : fn n b args μ = .ok p μ := by
  rw [fn_ev, h, gc_same]
end PL
end
section
set_option autoImplicit false
/-! Operations by rewriting. -/
namespace PL
open PySem
theorem str_inj (a b : String) : (Str.ofString a = Str.ofString b) = (a = b) := by
  apply propext
  constructor
  · intro h
    rw [Str.ofString_eq_toList, Str.ofString_eq_toList] at h
    have h2 : (a.toList.map Char.toNat) = (b.toList.map Char.toNat) := by
      have := congrArg (fun s : Str => s.cps.toList) h
      simpa using this
    have h3 : a.toList = b.toList := by
      have inj : ∀ (l k : List Char), l.map Char.toNat = k.map Char.toNat → l = k := by
        intro l
        induction l with
        | nil => intro k h; cases k with
          | nil => rfl
          | cons _ _ => simp at h
        | cons x xs ih => intro k h; cases k with
          | nil => simp at h
          | cons y ys =>
            simp only [List.map_cons, List.cons.injEq] at h
            rw [ih ys h.2]
            congr 1
            exact Char.ext (UInt32.toNat_inj.mp h.1)
      exact inj _ _ h2
    exact String.toList_inj.mp h3
  · intro h; rw [h]
@[simp] theorem str_inj' (a b : String) : (Str.ofString a = Str.ofString b) ↔ (a = b) := by rw [str_inj]
section
variable (μ : Mem)
@[simp] theorem fAdd_int (i j : Int) : fAdd [.int i, .int j] μ = .ok (.int (i + j)) μ := id rfl
@[simp] theorem fSub_int (i j : Int) : fSub [.int i, .int j] μ = .ok (.int (i - j)) μ := id rfl
@[simp] theorem fNeg_int (i : Int) : fNeg [.int i] μ = .ok (.int (-i)) μ := id rfl
@[simp] theorem fNot_bl (b : Bool) : fNot [.bl b] μ = .ok (.bl (!b)) μ := id rfl
@[simp] theorem fLt_int (i j : Int) : fLt [.int i, .int j] μ = .ok (.bl (decide (i < j))) μ := id rfl
@[simp] theorem fLe_int (i j : Int) : fLe [.int i, .int j] μ = .ok (.bl (decide (i ≤ j))) μ := id rfl
@[simp] theorem fGt_int (i j : Int) : fGt [.int i, .int j] μ = .ok (.bl (decide (j < i))) μ := id rfl
@[simp] theorem fGe_int (i j : Int) : fGe [.int i, .int j] μ = .ok (.bl (decide (j ≤ i))) μ := id rfl
@[simp] theorem fEq_int (i j : Int) : fEq [.int i, .int j] μ = .ok (.bl (decide (i = j))) μ := id rfl
@[simp] theorem fNe_int (i j : Int) : fNe [.int i, .int j] μ = .ok (.bl (!decide (i = j))) μ := id rfl
@[simp] theorem fEq_str (i j : Str) : fEq [.str i, .str j] μ = .ok (.bl (decide (i = j))) μ := id rfl
@[simp] theorem fNe_str (i j : Str) : fNe [.str i, .str j] μ = .ok (.bl (!decide (i = j))) μ := id rfl
@[simp] theorem fEq_bl (i j : Bool) : fEq [.bl i, .bl j] μ = .ok (.bl (decide (i = j))) μ := id rfl
@[simp] theorem fNe_bl (i j : Bool) : fNe [.bl i, .bl j] μ = .ok (.bl (!decide (i = j))) μ := id rfl
@[simp] theorem fInt_int (i : Int) : fInt [.int i] μ = .ok (.int i) μ := id rfl
@[simp] theorem fInt_bl (b : Bool) : fInt [.bl b] μ = .ok (.int (if b then 1 else 0)) μ := id rfl
@[simp] theorem fAbs_int (i : Int) : fAbs [.int i] μ = .ok (.int (if i < 0 then -i else i)) μ := id rfl
@[simp] theorem fMax_int (i j : Int) : fMax [.int i, .int j] μ = .ok (.int (if j > i then j else i)) μ := id rfl
@[simp] theorem fMin_int (i j : Int) : fMin [.int i, .int j] μ = .ok (.int (if j < i then j else i)) μ := id rfl
theorem fMul_ok {i j : Int} (h : mulOk i j) : fMul [.int i, .int j] μ = .ok (.int (i * j)) μ := by simp only [fMul]; rw [if_pos h]
theorem fDiv_ok {i j : Int} (h : divOk j) : fDiv [.int i, .int j] μ = .ok (.int (i / j)) μ := by simp only [fDiv]; rw [if_pos h]
theorem fMod_ok {i j : Int} (h : 0 < j) : fMod [.int i, .int j] μ = .ok (.int (i % j)) μ := by simp only [fMod]; rw [if_pos h]
theorem fPow_ok {i j : Int} (h : 0 ≤ j ∧ j ≤ 1000000 ∧ i.natAbs < 2 ^ 64) : fPow [.int i, .int j] μ = .ok (.int (i ^ j.toNat)) μ := by simp only [fPow]; rw [if_pos h]
theorem fTup_ok {l : List PV} (h : l.length ≤ SL) : fTup l μ = .ok (.tup l) μ := by unfold fTup; rw [if_pos h]
theorem fLst_ok {l : List PV} (h : l.length ≤ SL) : fLst l μ = .ok (.ref μ.length) (μ ++ [.lst l]) := by unfold fLst newL; rw [if_pos h]
@[simp] theorem fTup0 : fTup [] μ = .ok (.tup []) μ := id rfl
@[simp] theorem fTup1 (a : PV) : fTup [a] μ = .ok (.tup [a]) μ := id rfl
@[simp] theorem fTup2 (a b : PV) : fTup [a, b] μ = .ok (.tup [a, b]) μ := id rfl
@[simp] theorem fTup3 (a b d : PV) : fTup [a, b, d] μ = .ok (.tup [a, b, d]) μ := id rfl
@[simp] theorem fTup4 (a b d e : PV) : fTup [a, b, d, e] μ = .ok (.tup [a, b, d, e]) μ := id rfl
@[simp] theorem fLst0 : fLst [] μ = .ok (.ref μ.length) (μ ++ [.lst []]) := id rfl
@[simp] theorem fLst1 (a : PV) : fLst [a] μ = .ok (.ref μ.length) (μ ++ [.lst [a]]) := id rfl
@[simp] theorem fLst2 (a b : PV) : fLst [a, b] μ = .ok (.ref μ.length) (μ ++ [.lst [a, b]]) := id rfl
@[simp] theorem fLst3 (a b d : PV) : fLst [a, b, d] μ = .ok (.ref μ.length) (μ ++ [.lst [a, b, d]]) := id rfl
@[simp] theorem fLst4 (a b d e : PV) : fLst [a, b, d, e] μ = .ok (.ref μ.length) (μ ++ [.lst [a, b, d, e]]) := id rfl
/-- places -/
def ixOf (l : List PV) (i : Int) (μ : Mem) : Res PV := match atI l i with | some q => .ok q μ | none => .stuck
@[simp] theorem fIx_tup (l : List PV) (i : Int) : fIx [.tup l, .int i] μ = ixOf l i μ := id rfl
theorem fIx_lst {n : Nat} {l : List PV} (i : Int) (h : μ[n]? = some (.lst l)) : fIx [.ref n, .int i] μ = ixOf l i μ := by
  simp only [fIx, getL, h]; rfl
theorem fIx_ro {n : Nat} {l : List PV} (i : Int) (h : μ[n]? = some (.ro l)) : fIx [.ref n, .int i] μ = ixOf l i μ := by
  simp only [fIx, getL, h]; rfl
@[simp] theorem ixOf0 (p : PV) (l : List PV) : ixOf (p :: l) 0 μ = .ok p μ := by
  simp [ixOf, atI, ixN]
theorem ixOf_nat {l : List PV} {k : Nat} {p : PV} (h : l[k]? = some p) : ixOf l (k : Int) μ = .ok p μ := by
  have hk := (List.getElem?_eq_some_iff.mp h).1
  unfold ixOf atI ixN
  rw [if_pos (by omega), if_pos (by omega)]
  simp [h]
@[simp] theorem ixOf1 (p q : PV) (l : List PV) : ixOf (p :: q :: l) 1 μ = .ok q μ := ixOf_nat (k := 1) μ rfl
@[simp] theorem ixOf2 (p q r : PV) (l : List PV) : ixOf (p :: q :: r :: l) 2 μ = .ok r μ := ixOf_nat (k := 2) μ rfl
@[simp] theorem ixOf3 (p q r s : PV) (l : List PV) : ixOf (p :: q :: r :: s :: l) 3 μ = .ok s μ := ixOf_nat (k := 3) μ rfl
theorem ixOf_int {l : List PV} {i : Int} {p : PV} (h0 : 0 ≤ i) (h : l[i.toNat]? = some p) : ixOf l i μ = .ok p μ := by
  have e : i = (i.toNat : Int) := by omega
  rw [e]
  exact ixOf_nat μ h
@[simp] theorem ixOf_last (l : List PV) (p : PV) : ixOf (l ++ [p]) (-1) μ = .ok p μ := by
  unfold ixOf atI ixN
  rw [if_neg (by omega), if_pos (by simp; omega)]
  have : ((-1 : Int) + ((l ++ [p]).length : Nat)).toNat = l.length := by simp; omega
  simp only [Option.bind_some, this]
  simp
/-- list cells -/
theorem push1_ok {n : Nat} {l : List PV} {p : PV} (h : μ[n]? = some (.lst l)) (hz : l.length < SL) : push1 n p μ = some (μ.set n (.lst (l ++ [p]))) := by
  unfold push1; rw [h]; simp only; rw [if_pos hz]
theorem append_ok {n : Nat} {l : List PV} {p : PV} (h : μ[n]? = some (.lst l)) (hz : l.length < SL) : fAppend [.ref n, p] μ = .ok .non (μ.set n (.lst (l ++ [p]))) := by
  simp only [fAppend]; rw [push1_ok μ h hz]
theorem isKd_lst {n : Nat} {l : List PV} (h : μ[n]? = some (.lst l)) : isKd .list μ (.ref n) = true := by simp only [isKd]; rw [h]
theorem fTuple_lst {n : Nat} {l : List PV} (h : μ[n]? = some (.lst l)) : fTuple [.ref n] μ = .ok (.tup l) μ := by simp only [fTuple, getL, h]
theorem fLen_lst {n : Nat} {l : List PV} (h : μ[n]? = some (.lst l)) : fLen [.ref n] μ = .ok (.int l.length) μ := by simp only [fLen, getL, h]
@[simp] theorem fLen_tup (l : List PV) : fLen [.tup l] μ = .ok (.int l.length) μ := id rfl
@[simp] theorem fTuple_tup (l : List PV) : fTuple [.tup l] μ = .ok (.tup l) μ := id rfl
theorem itsOf_lst {n : Nat} {l : List PV} (h : μ[n]? = some (.lst l)) : itsOf (.ref n) μ = .ok ⟨l, [(n, l)]⟩ μ := by simp only [itsOf, getL, h]
theorem itsOf_ro {n : Nat} {l : List PV} (h : μ[n]? = some (.ro l)) : itsOf (.ref n) μ = .ok ⟨l, [(n, l)]⟩ μ := by simp only [itsOf, getL, h]
theorem locked_lst {n : Nat} {l : List PV} (h : μ[n]? = some (.lst l)) : locked [(n, l)] μ := fun x hx => by
  simp only [List.mem_singleton] at hx
  subst hx
  exact .inl h
theorem locked_ro {n : Nat} {l : List PV} (h : μ[n]? = some (.ro l)) : locked [(n, l)] μ := fun x hx => by
  simp only [List.mem_singleton] at hx
  subst hx
  exact .inr h
theorem set_ok {n : Nat} {l : List PV} {i : Int} {p : PV} (h : μ[n]? = some (.lst l)) (h0 : 0 ≤ i) (h1 : i < l.length) : fSet [.ref n, .int i, p] μ = .ok .non (μ.set n (.lst (l.set i.toNat p))) := by
  simp only [fSet, h, ixN]
  rw [if_pos h0, if_pos h1]
theorem pop_ok {n : Nat} {l : List PV} {p : PV} (h : μ[n]? = some (.lst (l ++ [p]))) : fPop [.ref n] μ = .ok p (μ.set n (.lst l)) := by
  simp only [fPop, h]
  simp
@[simp] theorem fAppend_ref (n : Nat) (p : PV) : fAppend [.ref n, p] μ = (match μ[n]? with | some (.lst l) => if l.length < SL then .ok .non (μ.set n (.lst (l ++ [p]))) else .stuck | _ => .stuck) := by
  simp only [fAppend, push1]
  cases h : μ[n]? with
  | none => rfl
  | some o =>
    cases o with
    | lst l => by_cases hz : l.length < SL <;> simp [hz]
    | _ => rfl
@[simp] theorem isKd_ref (n : Nat) : isKd .list μ (.ref n) = (match μ[n]? with | some (.lst _) => true | _ => false) := id rfl
@[simp] theorem fIx_ref (n : Nat) (i : Int) : fIx [.ref n, .int i] μ = (match μ[n]? with | some (.lst l) => ixOf l i μ | some (.ro l) => ixOf l i μ | _ => .stuck) := by
  simp only [fIx, getL]
  cases h : μ[n]? with
  | none => rfl
  | some o => cases o <;> rfl
@[simp] theorem fLen_ref (n : Nat) : fLen [.ref n] μ = (match μ[n]? with | some (.lst l) => .ok (.int l.length) μ | some (.ro l) => .ok (.int l.length) μ | _ => .stuck) := by
  simp only [fLen, getL]
  cases h : μ[n]? with
  | none => rfl
  | some o => cases o <;> rfl
@[simp] theorem fTuple_ref (n : Nat) : fTuple [.ref n] μ = (match μ[n]? with | some (.lst l) => .ok (.tup l) μ | some (.ro l) => .ok (.tup l) μ | _ => .stuck) := by
  simp only [fTuple, getL]
  cases h : μ[n]? with
  | none => rfl
  | some o => cases o <;> rfl
@[simp] theorem fList_ref (n : Nat) : fList [.ref n] μ = (match μ[n]? with | some (.lst l) => .ok (.ref μ.length) (μ ++ [.lst l]) | some (.ro l) => .ok (.ref μ.length) (μ ++ [.lst l]) | _ => .stuck) := by
  simp only [fList, getL]
  cases h : μ[n]? with
  | none => rfl
  | some o => cases o <;> rfl
@[simp] theorem fList_tup (l : List PV) : fList [.tup l] μ = .ok (.ref μ.length) (μ ++ [.lst l]) := id rfl
@[simp] theorem itsOf_ref (n : Nat) : itsOf (.ref n) μ = (match μ[n]? with | some (.lst l) => .ok ⟨l, [(n, l)]⟩ μ | some (.ro l) => .ok ⟨l, [(n, l)]⟩ μ | _ => .stuck) := by
  simp only [itsOf, getL]
  cases h : μ[n]? with
  | none => rfl
  | some o => cases o <;> rfl
@[simp] theorem fAdd_ref (a b : Nat) : fAdd [.ref a, .ref b] μ = (match μ[a]?, μ[b]? with
    | some (.lst xs), some (.lst ys) => if xs.length + ys.length ≤ SL then .ok (.ref μ.length) (μ ++ [.lst (xs ++ ys)]) else .stuck
    | _, _ => .stuck) := id rfl
theorem fAdd_tup {a b : List PV} (h : a.length + b.length ≤ SL) : fAdd [.tup a, .tup b] μ = .ok (.tup (a ++ b)) μ := by simp only [fAdd]; rw [if_pos h]
@[simp] theorem fSl_tup (l : List PV) (lo hi : Option Int) (ql qh : PV) (h1 : optI ql = some lo) (h2 : optI qh = some hi) : fSl [.tup l, ql, qh] μ = .ok (.tup (cut l lo hi)) μ := by simp only [fSl, h1, h2]
@[simp] theorem optI_non : optI .non = some none := id rfl
@[simp] theorem optI_int (i : Int) : optI (.int i) = some (some i) := id rfl
@[simp] theorem onPart_non : onPart .non μ = .ok .non μ := id rfl
@[simp] theorem onPart_int (i : Int) : onPart (.int i) μ = .ok (.int i) μ := id rfl
@[simp] theorem fPart_int (i : Int) : fPart [.int i] μ = .ok (.int i) μ := id rfl
@[simp] theorem fSl_tup00 (l : List PV) : fSl [.tup l, .non, .non] μ = .ok (.tup (cut l none none)) μ := id rfl
@[simp] theorem fSl_tup01 (l : List PV) (j : Int) : fSl [.tup l, .non, .int j] μ = .ok (.tup (cut l none (some j))) μ := id rfl
@[simp] theorem fSl_tup10 (l : List PV) (i : Int) : fSl [.tup l, .int i, .non] μ = .ok (.tup (cut l (some i) none)) μ := id rfl
@[simp] theorem fSl_tup11 (l : List PV) (i j : Int) : fSl [.tup l, .int i, .int j] μ = .ok (.tup (cut l (some i) (some j))) μ := id rfl
@[simp] theorem fSl_ref (n : Nat) (ql qh : PV) : fSl [.ref n, ql, qh] μ = (match optI ql, optI qh with
    | some lo, some hi => (match μ[n]? with | some (.lst l) => .ok (.ref μ.length) (μ ++ [.lst (cut l lo hi)]) | some (.ro l) => .ok (.ref μ.length) (μ ++ [.lst (cut l lo hi)]) | _ => .stuck)
    | _, _ => .stuck) := by
  simp only [fSl, getL]
  cases optI ql with
  | none => rfl
  | some lo =>
    cases optI qh with
    | none => rfl
    | some hi =>
      simp only
      cases h : μ[n]? with
      | none => rfl
      | some o => cases o <;> rfl
@[simp] theorem cut_to (l : List PV) (j : Nat) : cut l none (some (j : Int)) = l.take j := by
  unfold cut sIx
  simp only [List.drop_zero, Nat.sub_zero]
  rw [if_neg (by omega)]
  simp only [Int.toNat_natCast]
  rw [Nat.min_def]
  split
  · rfl
  · rw [List.take_of_length_le (Nat.le_refl _), List.take_of_length_le (by omega)]
theorem cut_last (l : List PV) (p : PV) : cut (l ++ [p]) none (some (-1)) = l := by
  unfold cut sIx
  simp only [List.drop_zero, Nat.sub_zero]
  rw [if_pos (by omega)]
  have : ((-1 : Int) + ((l ++ [p]).length : Nat)).toNat = l.length := by simp; omega
  rw [this, List.take_left]
@[simp] theorem cut_from (l : List PV) (j : Nat) : cut l (some (j : Int)) none = l.drop j := by
  unfold cut sIx
  simp only
  rw [if_neg (by omega)]
  simp only [Int.toNat_natCast]
  rw [Nat.min_def]
  split
  · rw [List.take_of_length_le (by simp)]
  · rw [List.drop_of_length_le (Nat.le_refl _), List.drop_of_length_le (by omega)]; simp
@[simp] theorem fSub1 : SL = 16777216 := id rfl
end
/-! texts as constants -/
end PL
end
section
set_option autoImplicit false
/-! Loops by folds. -/
namespace PL
open PySem
/-- what is wanted of a statement's ends -/
structure Wp where
  nx : Env → Mem → Prop := fun _ _ => False
  rt : PV → Mem → Prop := fun _ _ => False
  bk : Env → Mem → Prop := fun _ _ => False
  ct : Env → Mem → Prop := fun _ _ => False
def Out.sat0 (o : Out) (W : Wp) : Prop := match o with
  | .nx e m => W.nx e m
  | .rt p m => W.rt p m
  | .bk e m => W.bk e m
  | .ct e m => W.ct e m
  | _ => False
/-- not reckoned out when looked at -/
def Out.sat (o : Out) (W : Wp) : Prop := (∃ e m, o = .nx e m ∧ W.nx e m) ∨ (∃ p m, o = .rt p m ∧ W.rt p m) ∨ (∃ e m, o = .bk e m ∧ W.bk e m) ∨ (∃ e m, o = .ct e m ∧ W.ct e m)
theorem sat_eq (o : Out) (W : Wp) : o.sat W = o.sat0 W := by
  apply propext
  cases o with
  | nx e m => exact ⟨fun h => by
      rcases h with ⟨_, _, h, h2⟩ | ⟨_, _, h, h2⟩ | ⟨_, _, h, h2⟩ | ⟨_, _, h, h2⟩ <;> cases h <;> exact h2, fun h => .inl ⟨_, _, rfl, h⟩⟩
  | rt e m => exact ⟨fun h => by
      rcases h with ⟨_, _, h, h2⟩ | ⟨_, _, h, h2⟩ | ⟨_, _, h, h2⟩ | ⟨_, _, h, h2⟩ <;> cases h <;> exact h2, fun h => .inr (.inl ⟨_, _, rfl, h⟩)⟩
  | bk e m => exact ⟨fun h => by
      rcases h with ⟨_, _, h, h2⟩ | ⟨_, _, h, h2⟩ | ⟨_, _, h, h2⟩ | ⟨_, _, h, h2⟩ <;> cases h <;> exact h2, fun h => .inr (.inr (.inl ⟨_, _, rfl, h⟩))⟩
  | ct e m => exact ⟨fun h => by
      rcases h with ⟨_, _, h, h2⟩ | ⟨_, _, h, h2⟩ | ⟨_, _, h, h2⟩ | ⟨_, _, h, h2⟩ <;> cases h <;> exact h2, fun h => .inr (.inr (.inr ⟨_, _, rfl, h⟩))⟩
  | exc e m => exact ⟨fun h => by simp [Out.sat] at h, fun h => h.elim⟩
  | stuck => exact ⟨fun h => by simp [Out.sat] at h, fun h => h.elim⟩
@[simp] theorem sat_nx (e : Env) (m : Mem) (W : Wp) : (Out.nx e m).sat W = W.nx e m := by rw [sat_eq]; exact id rfl
@[simp] theorem sat_rt (p : PV) (m : Mem) (W : Wp) : (Out.rt p m).sat W = W.rt p m := by rw [sat_eq]; exact id rfl
@[simp] theorem sat_bk (e : Env) (m : Mem) (W : Wp) : (Out.bk e m).sat W = W.bk e m := by rw [sat_eq]; exact id rfl
@[simp] theorem sat_ct (e : Env) (m : Mem) (W : Wp) : (Out.ct e m).sat W = W.ct e m := by rw [sat_eq]; exact id rfl
@[simp] theorem sat_stuck (W : Wp) : Out.stuck.sat W = False := by rw [sat_eq]; exact id rfl
@[simp] theorem sat_exc (x : PX) (m : Mem) (W : Wp) : (Out.exc x m).sat W = False := by rw [sat_eq]; exact id rfl
def Res.sat {α : Type} (r : Res α) (P : α → Mem → Prop) : Prop := ∃ a m, r = .ok a m ∧ P a m
@[simp] theorem rsat_ok {α : Type} (a : α) (m : Mem) (P : α → Mem → Prop) : (Res.ok a m).sat P = P a m := by
  apply propext
  exact ⟨fun ⟨_, _, h, h2⟩ => by cases h; exact h2, fun h => ⟨a, m, rfl, h⟩⟩
@[simp] theorem rsat_stuck {α : Type} (P : α → Mem → Prop) : (Res.stuck : Res α).sat P = False := by
  apply propext
  simp [Res.sat]
@[simp] theorem rsat_exc {α : Type} (x : PX) (m : Mem) (P : α → Mem → Prop) : (Res.exc x m : Res α).sat P = False := by
  apply propext
  simp [Res.sat]
theorem rsat_ex {α : Type} {r : Res α} {P : α → Mem → Prop} (h : r.sat P) : ∃ a m, r = .ok a m ∧ P a m := h
theorem rsat_imp {α : Type} {r : Res α} {P Q : α → Mem → Prop} (h : r.sat P) (i : ∀ a m, P a m → Q a m) : r.sat Q := by
  obtain ⟨a, m, rfl, h⟩ := h
  simpa using i a m h
theorem bind_sat {α β : Type} {r : Res α} {k : α → Mem → Res β} {P : β → Mem → Prop} (h : r.sat fun a m => (k a m).sat P) : (r.bind k).sat P := by
  obtain ⟨a, m, rfl, h⟩ := h
  exact h
theorem of_sat {α : Type} {r : Res α} {k : α → Mem → Out} {W : Wp} (h : r.sat fun a m => (k a m).sat W) : (Out.of r k).sat W := by
  obtain ⟨a, m, rfl, h⟩ := h
  exact h
theorem then_sat {o : Out} {k : Sm} {W : Wp} (h : o.sat { W with nx := fun e m => (k e m).sat W }) : (o.then k).sat W := by
  cases o <;> simpa using h
theorem sat_imp {o : Out} {W V : Wp} (h : o.sat W) (h1 : ∀ e m, W.nx e m → V.nx e m) (h2 : ∀ p m, W.rt p m → V.rt p m) (h3 : ∀ e m, W.bk e m → V.bk e m) (h4 : ∀ e m, W.ct e m → V.ct e m) : o.sat V := by
  cases o with
  | nx e m => simp at h ⊢; exact h1 _ _ h
  | rt p m => simp at h ⊢; exact h2 _ _ h
  | bk e m => simp at h ⊢; exact h3 _ _ h
  | ct e m => simp at h ⊢; exact h4 _ _ h
  | exc x m => simp at h
  | stuck => simp at h
/-! truth values open in two -/
@[simp] theorem onS_then (p : PV) (a b : Out) (k : Sm) : (onS p a b).then k = onS p (a.then k) (b.then k) := by
  cases p with
  | bl t => cases t <;> rfl
  | _ => rfl
@[simp] theorem onB_bind {α β : Type} (p : PV) (a b : Res α) (k : α → Mem → Res β) : (onB p a b).bind k = onB p (a.bind k) (b.bind k) := by
  cases p with
  | bl t => cases t <;> rfl
  | _ => rfl
@[simp] theorem onB_of {α : Type} (p : PV) (a b : Res α) (k : α → Mem → Out) : Out.of (onB p a b) k = onS p (Out.of a k) (Out.of b k) := by
  cases p with
  | bl t => cases t <;> rfl
  | _ => rfl
@[simp] theorem of_then {α : Type} (r : Res α) (k : α → Mem → Out) (j : Sm) : (Out.of r k).then j = Out.of r fun a m => (k a m).then j := by cases r <;> rfl
@[simp] theorem bind_bind' {α β γ : Type} (r : Res α) (k : α → Mem → Res β) (j : β → Mem → Res γ) : (r.bind k).bind j = r.bind fun a m => (k a m).bind j := by cases r <;> rfl
@[simp] theorem bind_of {α β : Type} (r : Res α) (k : α → Mem → Res β) (j : β → Mem → Out) : Out.of (r.bind k) j = Out.of r fun a m => Out.of (k a m) j := by cases r <;> rfl
@[simp] theorem then_then (o : Out) (a b : Sm) : (o.then a).then b = o.then fun e m => (a e m).then b := by cases o <;> rfl
@[simp] theorem onS_sat (t : Bool) (a b : Out) (W : Wp) : (onS (.bl t) a b).sat W ↔ (t = true → a.sat W) ∧ (t = false → b.sat W) := by cases t <;> simp
@[simp] theorem onB_sat {α : Type} (t : Bool) (a b : Res α) (P : α → Mem → Prop) : (onB (.bl t) a b).sat P ↔ (t = true → a.sat P) ∧ (t = false → b.sat P) := by cases t <;> simp
theorem run_sat {n : Nat} {b : Sm} {args : List PV} {μ : Mem} {P : PV → Mem → Prop} (h : (b (args.map some ++ List.replicate (n - args.length) none) μ).sat { rt := P, nx := fun _ m => P .non m }) : (run n b args μ).sat P := by
  rw [run_ev]
  generalize (b (args.map some ++ List.replicate (n - args.length) none) μ) = o at h
  cases o <;> simpa using h
/-- a def whose result is data: the memory as the body left it, its own cells dropped -/
theorem fn_sat_data {n : Nat} {b : Sm} {args : List PV} {μ : Mem} {p : PV} (hd : p.data = true) (h : (run n b args μ).sat fun q m => q = p ∧ ∃ l, m = μ ++ l) : fn n b args μ = .ok p μ := by
  obtain ⟨q, m, e, rfl, l, rfl⟩ := rsat_ex h
  exact fn_data e hd
/-! loops -/
def turn (g : Tg) (b : Sm) (p : PV) (env : Env) (μ : Mem) : Out := .of (g p env μ) fun e1 μ1 => b e1 μ1
@[simp] theorem turn_ev (g : Tg) (b : Sm) (p : PV) (env : Env) (μ : Mem) : turn g b p env μ = .of (g p env μ) fun e1 μ1 => b e1 μ1 := id rfl
theorem for_sat {α : Type} {lk : List (Nat × List PV)} {g : Tg} {b k : Sm} {W : Wp} {env : Env} {μ : Mem} (enc : α → PV) (xs : List α) (R : Nat → Env → Mem → Prop) (hl : ∀ i env μ, R i env μ → locked lk μ) (h : R 0 env μ)
    (st : ∀ i x env μ, xs[i]? = some x → R i env μ → (turn g b (enc x) env μ).sat { nx := R (i + 1), ct := R (i + 1), bk := fun e m => (k e m).sat W, rt := W.rt })
    (hk : ∀ e m, R xs.length e m → (k e m).sat W) : ((forN lk g b (xs.map enc) env μ).then k).sat W := by
  have go : ∀ (n i : Nat) (env : Env) (μ : Mem), n + i = xs.length → R i env μ → ((forN lk g b ((xs.drop i).map enc) env μ).then k).sat W := by
    intro n
    induction n with
    | zero =>
      intro i env μ hi h
      have : i = xs.length := by omega
      subst this
      rw [List.drop_length, List.map_nil, forN_nil (hl _ env μ h)]
      exact hk env μ h
    | succ n ih =>
      intro i env μ hi h
      have hlt : i < xs.length := by omega
      have s1 := st i xs[i] env μ (List.getElem?_eq_getElem hlt) h
      rw [sat_eq] at s1
      rw [List.drop_eq_getElem_cons hlt, List.map_cons, forN_cons (hl i env μ h)]
      unfold turn at s1
      cases z : g (enc xs[i]) env μ with
      | ok e1 μ1 =>
        rw [z] at s1
        simp only [Out.of_ok] at s1 ⊢
        cases z2 : b e1 μ1 with
        | nx e m => rw [z2] at s1; exact ih (i + 1) e m (by omega) s1
        | ct e m => rw [z2] at s1; exact ih (i + 1) e m (by omega) s1
        | bk e m => rw [z2] at s1; exact s1
        | rt p m => rw [z2] at s1; rw [Out.then_rt, sat_rt]; exact s1
        | exc x m => rw [z2] at s1; exact s1.elim
        | stuck => rw [z2] at s1; exact s1.elim
      | exc x m => rw [z] at s1; exact s1.elim
      | stuck => rw [z] at s1; exact s1.elim
  have := go xs.length 0 env μ (by omega) h
  rwa [List.drop_zero] at this
theorem for_sat0 {α : Type} {lk : List (Nat × List PV)} {g : Tg} {b : Sm} {W : Wp} {env : Env} {μ : Mem} (enc : α → PV) (xs : List α) (R : Nat → Env → Mem → Prop) (hl : ∀ i env μ, R i env μ → locked lk μ) (h : R 0 env μ)
    (st : ∀ i x env μ, xs[i]? = some x → R i env μ → (turn g b (enc x) env μ).sat { nx := R (i + 1), ct := R (i + 1), bk := W.nx, rt := W.rt })
    (hk : ∀ e m, R xs.length e m → W.nx e m) : (forN lk g b (xs.map enc) env μ).sat W := by
  have e : forN lk g b (xs.map enc) env μ = (forN lk g b (xs.map enc) env μ).then fun e m => .nx e m := by
    generalize forN lk g b (xs.map enc) env μ = o
    cases o <;> rfl
  rw [e]
  exact for_sat enc xs R hl h (fun i x env μ hx hR => by simpa using st i x env μ hx hR) (by simpa using hk)
/-- while, by a measure -/
theorem while_sat {t : Ex} {b k : Sm} {W : Wp} {env : Env} {μ : Mem} (R : Nat → Env → Mem → Prop) (n0 : Nat) (hn : n0 < fuel) (h : R n0 env μ)
    (st : ∀ n env μ, R n env μ → (t env μ).sat fun p m => ∃ c, p = .bl c ∧ (c = true → (b env m).sat { nx := fun e m => ∃ n', n' < n ∧ R n' e m, ct := fun e m => ∃ n', n' < n ∧ R n' e m, bk := fun e m => (k e m).sat W, rt := W.rt }) ∧ (c = false → (k env m).sat W)) :
    ((whileN t b fuel env μ).then k).sat W := by
  have go : ∀ (N n : Nat) (env : Env) (μ : Mem), n < N → R n env μ → ((whileN t b N env μ).then k).sat W := by
    intro N
    induction N with
    | zero => intro n env μ hn; omega
    | succ N ih =>
      intro n env μ hn h
      have s1 := st n env μ h
      unfold whileN
      cases z : t env μ with
      | ok p m =>
        rw [z, rsat_ok] at s1
        obtain ⟨c, rfl, s2, s3⟩ := s1
        simp only [Out.of_ok]
        cases c with
        | false => exact s3 rfl
        | true =>
          have s4 := s2 rfl
          rw [sat_eq] at s4
          simp only [onS_true]
          cases z2 : b env m with
          | nx e m => rw [z2] at s4; obtain ⟨n', h1, h2⟩ := s4; exact ih n' e m (by omega) h2
          | ct e m => rw [z2] at s4; obtain ⟨n', h1, h2⟩ := s4; exact ih n' e m (by omega) h2
          | bk e m => rw [z2] at s4; exact s4
          | rt p m => rw [z2] at s4; rw [Out.then_rt, sat_rt]; exact s4
          | exc x m => rw [z2] at s4; exact s4.elim
          | stuck => rw [z2] at s4; exact s4.elim
      | exc x m => rw [z, rsat_exc] at s1; exact s1.elim
      | stuck => rw [z, rsat_stuck] at s1; exact s1.elim
  exact go fuel n0 env μ hn h
/-- comprehensions: the list that is made, what each item gives (none: left out) -/
theorem lcN_map {α : Type} {lk : List (Nat × List PV)} {g : Tg} {t e : Ex} {vs : List Nat} {n : Nat} {env : Env} (enc : α → PV) (F : α → Option PV) (M : List PV → Mem) (hn : ∀ acc, (M acc)[n]? = some (.lst acc)) (hs : ∀ acc acc', (M acc).set n (.lst acc') = M acc') (hl : ∀ acc, locked lk (M acc)) :
    ∀ (xs : List α) (acc : List PV), acc.length + xs.length < SL → (∀ x ∈ xs, ∀ acc, ∃ e1, g (enc x) (wipe env vs) (M acc) = .ok e1 (M acc) ∧
      match F x with
      | some q => t e1 (M acc) = .ok (.bl true) (M acc) ∧ e e1 (M acc) = .ok q (M acc)
      | none => t e1 (M acc) = .ok (.bl false) (M acc)) →
    lcN lk g t e vs n env (xs.map enc) (M acc) = .ok () (M (acc ++ xs.filterMap F))
  | [], acc, _, _ => by rw [List.map_nil, lcN, if_pos (hl acc)]; simp
  | x :: xs, acc, hz, st => by
    obtain ⟨e1, h1, h2⟩ := st x List.mem_cons_self acc
    rw [List.map_cons, lcN, if_pos (hl acc), h1]
    simp only [Res.bind_ok]
    simp only [List.length_cons] at hz
    cases hF : F x with
    | none =>
      rw [hF] at h2
      simp only at h2
      rw [h2]
      simp only [Res.bind_ok, onB_false]
      rw [lcN_map enc F M hn hs hl xs acc (by omega) fun x hx => st x (List.mem_cons_of_mem _ hx), List.filterMap_cons_none hF]
    | some q =>
      rw [hF] at h2
      simp only at h2
      rw [h2.1]
      simp only [Res.bind_ok, onB_true]
      rw [h2.2]
      simp only [Res.bind_ok]
      rw [push1_ok _ (hn acc) (by omega)]
      simp only
      rw [hs, lcN_map enc F M hn hs hl xs (acc ++ [q]) (by rw [List.length_append, List.length_singleton]; omega) fun x hx => st x (List.mem_cons_of_mem _ hx), List.filterMap_cons_some hF]
      simp
/-- a comprehension whose parts leave the memory alone -/
theorem lc_pure {α : Type} {it : It} {g : Tg} {t e : Ex} {vs : List Nat} {env : Env} {μ μ1 : Mem} {lk : List (Nat × List PV)} (enc : α → PV) (F : α → Option PV) (xs : List α) (hi : it env μ = .ok ⟨xs.map enc, lk⟩ μ1) (hl : ∀ l, locked lk (μ1 ++ l)) (hz : xs.length < SL)
    (st : ∀ x ∈ xs, ∀ l, ∃ e1, g (enc x) (wipe env vs) (μ1 ++ l) = .ok e1 (μ1 ++ l) ∧
      match F x with
      | some q => t e1 (μ1 ++ l) = .ok (.bl true) (μ1 ++ l) ∧ e e1 (μ1 ++ l) = .ok q (μ1 ++ l)
      | none => t e1 (μ1 ++ l) = .ok (.bl false) (μ1 ++ l)) :
    lc it g t e vs env μ = .ok (.ref μ1.length) (μ1 ++ [.lst (xs.filterMap F)]) := by
  rw [lc_ev, hi]
  simp only [Res.bind_ok]
  have := lcN_map (lk := lk) (g := g) (t := t) (e := e) (vs := vs) (n := μ1.length) (env := env) enc F (fun acc => μ1 ++ [.lst acc]) (fun acc => by simp) (fun acc acc' => by simp) (fun acc => hl _) xs [] (by simpa using hz) fun x hx acc => st x hx _
  rw [this]
  simp
theorem locked_app {lk : List (Nat × List PV)} {μ : Mem} (h : locked lk μ) (l : Mem) : locked lk (μ ++ l) := fun x hx => by
  rcases h x hx with h | h
  · exact .inl (get_some h)
  · exact .inr (get_some h)
theorem gc_keep {μ m : Mem} {p : PV} (h : p.under μ.length = false) : gc μ (.ok p m) = .ok p m := by
  unfold gc
  simp only
  rw [if_neg fun z => by rw [z.2.1] at h; cases h]
/-- a comprehension whose parts change the memory: R by the turn, what is made so far, the memory -/
theorem lc_sat {α : Type} {it : It} {g : Tg} {t e : Ex} {vs : List Nat} {env : Env} {μ μ1 : Mem} {lk : List (Nat × List PV)} {P : PV → Mem → Prop} (enc : α → PV) (xs : List α) (R : Nat → List PV → Mem → Prop) (hi : it env μ = .ok ⟨xs.map enc, lk⟩ μ1)
    (hl : ∀ i acc m, R i acc m → locked lk m) (h0 : R 0 [] (μ1 ++ [.lst []])) (hz : xs.length < SL) (hacc : ∀ i acc m, R i acc m → acc.length ≤ i)
    (st : ∀ i x acc m, xs[i]? = some x → R i acc m → (g (enc x) (wipe env vs) m).sat fun e1 m1 => (t e1 m1).sat fun b m2 => ∃ c, b = .bl c ∧ (c = false → R (i + 1) acc m2) ∧ (c = true → (e e1 m2).sat fun q m3 => m3[μ1.length]? = some (.lst acc) ∧ R (i + 1) (acc ++ [q]) (m3.set μ1.length (.lst (acc ++ [q])))))
    (hk : ∀ acc m, R xs.length acc m → P (.ref μ1.length) m) : (lc it g t e vs env μ).sat P := by
  rw [lc_ev, hi]
  simp only [Res.bind_ok]
  have go : ∀ (n i : Nat) (acc : List PV) (m : Mem), n + i = xs.length → R i acc m → ((lcN lk g t e vs μ1.length env ((xs.drop i).map enc) m).bind fun _ μ2 => .ok (.ref μ1.length) μ2).sat P := by
    intro n
    induction n with
    | zero =>
      intro i acc m hi h
      have : i = xs.length := by omega
      subst this
      rw [List.drop_length, List.map_nil, lcN, if_pos (hl _ acc m h), Res.bind_ok, rsat_ok]
      exact hk acc m h
    | succ n ih =>
      intro i acc m hi h
      have hlt : i < xs.length := by omega
      have s1 := st i xs[i] acc m (List.getElem?_eq_getElem hlt) h
      rw [List.drop_eq_getElem_cons hlt, List.map_cons, lcN, if_pos (hl i acc m h)]
      obtain ⟨e1, m1, z1, s2⟩ := rsat_ex s1
      obtain ⟨b, m2, z2, c, rfl, s3, s4⟩ := rsat_ex s2
      rw [z1]
      simp only [Res.bind_ok]
      rw [z2]
      simp only [Res.bind_ok]
      cases c with
      | false => exact ih (i + 1) acc m2 (by omega) (s3 rfl)
      | true =>
        obtain ⟨q, m3, z3, s5, s6⟩ := rsat_ex (s4 rfl)
        simp only [onB_true]
        rw [z3]
        simp only [Res.bind_ok]
        have ha := hacc i acc m h
        rw [push1_ok _ s5 (by omega)]
        exact ih (i + 1) _ _ (by omega) s6
  have := go xs.length 0 [] (μ1 ++ [.lst []]) (by omega) h0
  rwa [List.drop_zero] at this
theorem take_succ' {α : Type} {xs : List α} {i : Nat} {x : α} (h : xs[i]? = some x) : xs.take (i + 1) = xs.take i ++ [x] := by
  rw [List.take_add_one, h]; rfl
theorem lt_of_get {α : Type} {xs : List α} {i : Nat} {x : α} (h : xs[i]? = some x) : i < xs.length := (List.getElem?_eq_some_iff.mp h).1
end PL
end
section
set_option autoImplicit false
/-! Data: what is read, compared, shown. -/
namespace PL
open PySem
mutual
def PV.pd : PV → PyData
  | .non => .none
  | .bl b => .bool b
  | .int i => .int i
  | .str x => .str x
  | .tup l => .tuple (PV.pds l)
  | .ref _ => .none
  | .cst _ => .none
def PV.pds : List PV → List PyData
  | [] => []
  | p :: ps => PV.pd p :: PV.pds ps
end
@[simp] theorem pds_nil : PV.pds [] = [] := by simp only [PV.pds]
@[simp] theorem pds_cons (p : PV) (l : List PV) : PV.pds (p :: l) = p.pd :: PV.pds l := by simp only [PV.pds]
@[simp] theorem pd_tup (l : List PV) : PV.pd (.tup l) = .tuple (PV.pds l) := by simp only [PV.pd]
@[simp] theorem pd_int (i : Int) : PV.pd (.int i) = .int i := by simp only [PV.pd]
@[simp] theorem pd_str (i : Str) : PV.pd (.str i) = .str i := by simp only [PV.pd]
@[simp] theorem pd_bl (i : Bool) : PV.pd (.bl i) = .bool i := by simp only [PV.pd]
@[simp] theorem pd_non : PV.pd .non = .none := by simp only [PV.pd]
theorem pds_map (l : List PV) : PV.pds l = l.map PV.pd := by
  induction l with
  | nil => simp
  | cons p ps ih => simp [ih]
mutual
theorem conv_pd (r : Nat → Option PyData) : ∀ p : PV, p.data = true → PV.conv r p = some p.pd
  | .tup l, h => by simp only [PV.data] at h; simp only [PV.conv, convs_pd r l h, Option.map_some, PV.pd]
  | .ref _, h => by simp [PV.data] at h
  | .cst _, h => by simp [PV.data] at h
  | .non, _ => by simp only [PV.conv, PV.pd]
  | .bl _, _ => by simp only [PV.conv, PV.pd]
  | .int _, _ => by simp only [PV.conv, PV.pd]
  | .str _, _ => by simp only [PV.conv, PV.pd]
theorem convs_pd (r : Nat → Option PyData) : ∀ l : List PV, PV.datas l = true → PV.convs r l = some (PV.pds l)
  | [], _ => by simp only [PV.convs, PV.pds]
  | p :: ps, h => by
    simp only [PV.datas, Bool.and_eq_true] at h
    simp only [PV.convs, conv_pd r p h.1, convs_pd r ps h.2, Option.bind_some, Option.map_some, PV.pds]
end
theorem toD_data {μ : Mem} {p : PV} (h : p.data = true) : toD μ p = some p.pd := by
  unfold toD toDn
  exact conv_pd _ p h
theorem toD_ref (μ : Mem) (n : Nat) : toD μ (.ref n) = (match μ[n]? with
    | some (.lst l) => (PV.convs (fun j => toDn μ 4 (.ref j)) l).map .list
    | some (.ro l) => (PV.convs (fun j => toDn μ 4 (.ref j)) l).map .list
    | _ => none) := by
  unfold toD
  rw [toDn]
  simp only [PV.conv]
  try rfl
theorem toD_lst {μ : Mem} {n : Nat} {l : List PV} (h : μ[n]? = some (.lst l)) (hd : PV.datas l = true) : toD μ (.ref n) = some (.list (PV.pds l)) := by
  rw [toD_ref, h]
  simp only
  rw [convs_pd _ l hd]
  rfl
/-! how great data is: numbers and texts that can be shown, how many items, how deep -/
end PL
namespace PySem.PyData
mutual
def sm : PyData → Bool
  | .none => true
  | .bool _ => true
  | .int i => decide (i.natAbs.log2 < 1920)
  | .str x => strOk x && decide ((reprText x).length ≤ 1990)
  | .list l => sms l
  | .tuple l => sms l
  | .dict _ => false
def sms : List PyData → Bool
  | [] => true
  | x :: xs => sm x && sms xs
end
mutual
def wt : PyData → Nat
  | .list l => wts l + 1
  | .tuple l => wts l + 1
  | .none => 1 | .bool _ => 1 | .int _ => 1 | .str _ => 1 | .dict _ => 1
def wts : List PyData → Nat
  | [] => 0
  | x :: xs => wt x + wts xs
end
end PySem.PyData
namespace PL
open PySem
@[simp] theorem sm_none : PyData.none.sm = true := by simp only [PyData.sm]
@[simp] theorem sm_bool (b : Bool) : (PyData.bool b).sm = true := by simp only [PyData.sm]
@[simp] theorem sm_int (i : Int) : (PyData.int i).sm = decide (i.natAbs.log2 < 1920) := by simp only [PyData.sm]
@[simp] theorem sm_str (x : Str) : (PyData.str x).sm = (PyData.strOk x && decide ((reprText x).length ≤ 1990)) := by simp only [PyData.sm]
@[simp] theorem sm_list (l : List PyData) : (PyData.list l).sm = PyData.sms l := by simp only [PyData.sm]
@[simp] theorem sm_tuple (l : List PyData) : (PyData.tuple l).sm = PyData.sms l := by simp only [PyData.sm]
@[simp] theorem sms_nil : PyData.sms [] = true := by simp only [PyData.sms]
@[simp] theorem sms_cons (x : PyData) (l : List PyData) : PyData.sms (x :: l) = (x.sm && PyData.sms l) := by simp only [PyData.sms]
@[simp] theorem wt_none : PyData.none.wt = 1 := by simp only [PyData.wt]
@[simp] theorem wt_bool (b : Bool) : (PyData.bool b).wt = 1 := by simp only [PyData.wt]
@[simp] theorem wt_int (i : Int) : (PyData.int i).wt = 1 := by simp only [PyData.wt]
@[simp] theorem wt_str (x : Str) : (PyData.str x).wt = 1 := by simp only [PyData.wt]
@[simp] theorem wt_list (l : List PyData) : (PyData.list l).wt = PyData.wts l + 1 := by simp only [PyData.wt]
@[simp] theorem wt_tuple (l : List PyData) : (PyData.tuple l).wt = PyData.wts l + 1 := by simp only [PyData.wt]
@[simp] theorem wts_nil : PyData.wts [] = 0 := by simp only [PyData.wts]
@[simp] theorem wts_cons (x : PyData) (l : List PyData) : PyData.wts (x :: l) = x.wt + PyData.wts l := by simp only [PyData.wts]
@[simp] theorem dp_none : PyData.none.depth = 0 := by simp only [PyData.depth]
@[simp] theorem dp_bool (b : Bool) : (PyData.bool b).depth = 0 := by simp only [PyData.depth]
@[simp] theorem dp_int (i : Int) : (PyData.int i).depth = 0 := by simp only [PyData.depth]
@[simp] theorem dp_str (x : Str) : (PyData.str x).depth = 0 := by simp only [PyData.depth]
@[simp] theorem dp_list (l : List PyData) : (PyData.list l).depth = PyData.depthAll l + 1 := by simp only [PyData.depth]
@[simp] theorem dp_tuple (l : List PyData) : (PyData.tuple l).depth = PyData.depthAll l + 1 := by simp only [PyData.depth]
@[simp] theorem dps_nil : PyData.depthAll [] = 0 := by simp only [PyData.depthAll]
@[simp] theorem dps_cons (x : PyData) (l : List PyData) : PyData.depthAll (x :: l) = max x.depth (PyData.depthAll l) := by simp only [PyData.depthAll]
theorem sms_iff (l : List PyData) : PyData.sms l = true ↔ ∀ x ∈ l, x.sm = true := by
  induction l with
  | nil => simp
  | cons x xs ih => simp [ih]
@[simp] theorem sms_app (l k : List PyData) : PyData.sms (l ++ k) = (PyData.sms l && PyData.sms k) := by
  induction l with
  | nil => simp
  | cons x xs ih => simp [ih, Bool.and_assoc]
@[simp] theorem wts_app (l k : List PyData) : PyData.wts (l ++ k) = PyData.wts l + PyData.wts k := by
  induction l with
  | nil => simp
  | cons x xs ih => simp [ih]; omega
theorem wts_le {l : List PyData} {k : Nat} (h : ∀ x ∈ l, x.wt ≤ k) : PyData.wts l ≤ k * l.length := by
  induction l with
  | nil => simp
  | cons x xs ih =>
    have := h x List.mem_cons_self
    have := ih fun y hy => h y (List.mem_cons_of_mem _ hy)
    simp only [wts_cons, List.length_cons, Nat.mul_add]
    omega
theorem dps_le {l : List PyData} {k : Nat} (h : ∀ x ∈ l, x.depth ≤ k) : PyData.depthAll l ≤ k := by
  induction l with
  | nil => simp
  | cons x xs ih =>
    have := h x List.mem_cons_self
    have := ih fun y hy => h y (List.mem_cons_of_mem _ hy)
    simp only [dps_cons]
    omega
mutual
theorem lay_sm : ∀ d : PyData, d.sm = true → d.canLay0 = true
  | .none, _ => by simp only [PyData.canLay0]
  | .bool _, _ => by simp only [PyData.canLay0]
  | .int _, _ => by simp only [PyData.canLay0]
  | .str x, h => by simp only [PyData.sm, Bool.and_eq_true] at h; simp only [PyData.canLay0, h.1]
  | .list l, h => by simp only [PyData.sm] at h; simp only [PyData.canLay0, lays_sm l h]
  | .tuple l, h => by simp only [PyData.sm] at h; simp only [PyData.canLay0, lays_sm l h]
  | .dict _, h => by simp [PyData.sm] at h
theorem lays_sm : ∀ l : List PyData, PyData.sms l = true → PyData.canLayAll0 l = true
  | [], _ => by simp only [PyData.canLayAll0]
  | x :: xs, h => by
    simp only [PyData.sms, Bool.and_eq_true] at h
    simp only [PyData.canLayAll0, lay_sm x h.1, lays_sm xs h.2, Bool.and_self]
end
mutual
theorem shw_sm : ∀ d : PyData, d.sm = true → d.showable = true
  | .none, _ => by simp only [PyData.showable]
  | .bool _, _ => by simp only [PyData.showable]
  | .int _, h => by simp only [PyData.sm] at h; simp only [PyData.showable, h]
  | .str x, h => by simp only [PyData.showable]
  | .list l, h => by simp only [PyData.sm] at h; simp only [PyData.showable, shws_sm l h]
  | .tuple l, h => by simp only [PyData.sm] at h; simp only [PyData.showable, shws_sm l h]
  | .dict _, h => by simp [PyData.sm] at h
theorem shws_sm : ∀ l : List PyData, PyData.sms l = true → PyData.showableAll l = true
  | [], _ => by simp only [PyData.showableAll]
  | x :: xs, h => by
    simp only [PyData.sms, Bool.and_eq_true] at h
    simp only [PyData.showableAll, shw_sm x h.1, shws_sm xs h.2, Bool.and_self]
end
theorem shaped_sm {d : PyData} (h : d.sm = true) (hd : d.depth ≤ 60) : SeqAt.shaped d = true := by
  unfold SeqAt.shaped
  rw [lay_sm d h]
  simp; omega
theorem join_len (ts : List Str) : (Str.join ", " ts).length ≤ (ts.map fun t => t.length + 2).sum := by
  cases ts with
  | nil => decide
  | cons t r =>
    have h := join_length_add (t :: r) (by simp)
    have : ∀ l : List Str, piled l = (l.map fun t => t.length + 2).sum := by
      intro l
      induction l with
      | nil => rfl
      | cons a b ih => rw [piled_cons, ih]; simp
    rw [this] at h
    omega
mutual
theorem shown_len : ∀ d : PyData, d.sm = true → d.shown.length + 2 ≤ 2000 * d.wt
  | .none, _ => by rw [PyData.shown_none, wt_none]; decide
  | .bool b, _ => by rw [PyData.shown_bool, wt_bool]; cases b <;> decide
  | .int i, h => by
    rw [PyData.shown_int, wt_int]
    rw [sm_int, decide_eq_true_eq] at h
    have := int_text_length_le (k := 1920) (by decide) h
    have e : (Str.ofString (toString i)).length = (toString i).length := by
      rw [Str.ofString_eq_toList]; simp only [Str.length, List.size_toArray, List.length_map, String.length_toList]
    rw [e]
    omega
  | .str x, h => by
    rw [PyData.shown_str, wt_str]
    rw [sm_str, Bool.and_eq_true, decide_eq_true_eq] at h
    omega
  | .list l, h => by
    rw [PyData.shown_list, wt_list]
    rw [sm_list] at h
    have h1 := join_len (PyData.shownAll l)
    have h2 := showns_len l h
    simp only [strLen_append]
    have e1 : (Str.ofString "[").length = 1 := by decide
    have e2 : (Str.ofString "]").length = 1 := by decide
    rw [e1, e2]
    omega
  | .tuple l, h => by
    rw [PyData.shown_tuple, wt_tuple]
    rw [sm_tuple] at h
    have h1 := join_len (PyData.shownAll l)
    have h2 := showns_len l h
    simp only [strLen_append]
    have e1 : (Str.ofString "(").length = 1 := by decide
    have e2 : (Str.ofString (if l.length == 1 then ",)" else ")" : String)).length ≤ 2 := by split <;> decide
    rw [e1]
    omega
  | .dict _, h => by simp [PyData.sm] at h
theorem showns_len : ∀ l : List PyData, PyData.sms l = true → ((PyData.shownAll l).map fun t => t.length + 2).sum ≤ 2000 * PyData.wts l
  | [], _ => by rw [PyData.shownAll_nil]; simp
  | x :: xs, h => by
    simp only [sms_cons, Bool.and_eq_true] at h
    rw [PyData.shownAll_cons, wts_cons]
    have h1 := shown_len x h.1
    have h2 := showns_len xs h.2
    simp only [List.map_cons, List.sum_cons]
    omega
end
theorem repr_ok {μ : Mem} {p : PV} {d : PyData} (h : toD μ p = some d) (hs : d.sm = true) (hw : d.wt ≤ 8000) (hd : d.depth ≤ 60) : fRepr [p] μ = .ok (.str d.shown) μ := by
  simp only [fRepr, h]
  have := shown_len d hs
  rw [if_pos ⟨shw_sm d hs, by show _ ≤ 16777216; omega, by omega⟩]
/-- == with the empty list -/
theorem eqR_nil {μ : Mem} {a b : Nat} {l : List PV} (ha : μ[a]? = some (.lst l)) (hb : μ[b]? = some (.lst [])) (hl : PV.datas l = true) (hs : PyData.sms (PV.pds l) = true) (hd : PyData.depthAll (PV.pds l) ≤ 59) : eqR μ (.ref a) (.ref b) = some l.isEmpty := by
  unfold eqR
  simp only [scalP]
  rw [toD_lst ha hl, toD_lst hb (by simp)]
  simp only
  rw [if_pos ⟨shaped_sm (by simpa using hs) (by simp; omega), shaped_sm (by simp) (by simp)⟩]
  cases l <;> simp [PyData.eqv, PyData.eqvAll]
theorem fNe_nil {μ : Mem} {a b : Nat} {l : List PV} (ha : μ[a]? = some (.lst l)) (hb : μ[b]? = some (.lst [])) (hl : PV.datas l = true) (hs : PyData.sms (PV.pds l) = true) (hd : PyData.depthAll (PV.pds l) ≤ 59) : fNe [.ref a, .ref b] μ = .ok (.bl (!l.isEmpty)) μ := by
  simp only [fNe, eqR_nil ha hb hl hs hd]
theorem fEq_nil {μ : Mem} {a b : Nat} {l : List PV} (ha : μ[a]? = some (.lst l)) (hb : μ[b]? = some (.lst [])) (hl : PV.datas l = true) (hs : PyData.sms (PV.pds l) = true) (hd : PyData.depthAll (PV.pds l) ≤ 59) : fEq [.ref a, .ref b] μ = .ok (.bl l.isEmpty) μ := by
  simp only [fEq, eqR_nil ha hb hl hs hd]
@[simp] theorem pds_app (l k : List PV) : PV.pds (l ++ k) = PV.pds l ++ PV.pds k := by simp [pds_map]
@[simp] theorem datas_app (l k : List PV) : PV.datas (l ++ k) = (PV.datas l && PV.datas k) := by
  induction l with
  | nil => simp
  | cons x xs ih => simp [ih, Bool.and_assoc]
end PL
end
section
set_option autoImplicit false
/-! Memories that grow; results that are new lists. -/
namespace PL
open PySem
@[simp] theorem get_new_2 (μ l : Mem) : (μ ++ l)[μ.length + 1 + 1]? = l[2]? := get_new μ l 2
@[simp] theorem set_new_2 (μ l : Mem) (o : PO) : (μ ++ l).set (μ.length + 1 + 1) o = μ ++ l.set 2 o := set_new μ l 2 o
@[simp] theorem get_new_3 (μ l : Mem) : (μ ++ l)[μ.length + 1 + 1 + 1]? = l[3]? := get_new μ l 3
@[simp] theorem set_new_3 (μ l : Mem) (o : PO) : (μ ++ l).set (μ.length + 1 + 1 + 1) o = μ ++ l.set 3 o := set_new μ l 3 o
@[simp] theorem get_new_4 (μ l : Mem) : (μ ++ l)[μ.length + 1 + 1 + 1 + 1]? = l[4]? := get_new μ l 4
@[simp] theorem set_new_4 (μ l : Mem) (o : PO) : (μ ++ l).set (μ.length + 1 + 1 + 1 + 1) o = μ ++ l.set 4 o := set_new μ l 4 o
@[simp] theorem get_new_5 (μ l : Mem) : (μ ++ l)[μ.length + 1 + 1 + 1 + 1 + 1]? = l[5]? := get_new μ l 5
@[simp] theorem set_new_5 (μ l : Mem) (o : PO) : (μ ++ l).set (μ.length + 1 + 1 + 1 + 1 + 1) o = μ ++ l.set 5 o := set_new μ l 5 o
@[simp] theorem get_new_6 (μ l : Mem) : (μ ++ l)[μ.length + 1 + 1 + 1 + 1 + 1 + 1]? = l[6]? := get_new μ l 6
@[simp] theorem set_new_6 (μ l : Mem) (o : PO) : (μ ++ l).set (μ.length + 1 + 1 + 1 + 1 + 1 + 1) o = μ ++ l.set 6 o := set_new μ l 6 o
@[simp] theorem get_new_7 (μ l : Mem) : (μ ++ l)[μ.length + 1 + 1 + 1 + 1 + 1 + 1 + 1]? = l[7]? := get_new μ l 7
@[simp] theorem set_new_7 (μ l : Mem) (o : PO) : (μ ++ l).set (μ.length + 1 + 1 + 1 + 1 + 1 + 1 + 1) o = μ ++ l.set 7 o := set_new μ l 7 o
@[simp] theorem get_new_8 (μ l : Mem) : (μ ++ l)[μ.length + 1 + 1 + 1 + 1 + 1 + 1 + 1 + 1]? = l[8]? := get_new μ l 8
@[simp] theorem set_new_8 (μ l : Mem) (o : PO) : (μ ++ l).set (μ.length + 1 + 1 + 1 + 1 + 1 + 1 + 1 + 1) o = μ ++ l.set 8 o := set_new μ l 8 o
@[simp] theorem fTup5 (a0 a1 a2 a3 a4 : PV) (μ : Mem) : fTup [a0, a1, a2, a3, a4] μ = .ok (.tup [a0, a1, a2, a3, a4]) μ := id rfl
@[simp] theorem fLst5 (a0 a1 a2 a3 a4 : PV) (μ : Mem) : fLst [a0, a1, a2, a3, a4] μ = .ok (.ref μ.length) (μ ++ [.lst [a0, a1, a2, a3, a4]]) := id rfl
@[simp] theorem fTup6 (a0 a1 a2 a3 a4 a5 : PV) (μ : Mem) : fTup [a0, a1, a2, a3, a4, a5] μ = .ok (.tup [a0, a1, a2, a3, a4, a5]) μ := id rfl
@[simp] theorem fLst6 (a0 a1 a2 a3 a4 a5 : PV) (μ : Mem) : fLst [a0, a1, a2, a3, a4, a5] μ = .ok (.ref μ.length) (μ ++ [.lst [a0, a1, a2, a3, a4, a5]]) := id rfl
@[simp] theorem fTup7 (a0 a1 a2 a3 a4 a5 a6 : PV) (μ : Mem) : fTup [a0, a1, a2, a3, a4, a5, a6] μ = .ok (.tup [a0, a1, a2, a3, a4, a5, a6]) μ := id rfl
@[simp] theorem fLst7 (a0 a1 a2 a3 a4 a5 a6 : PV) (μ : Mem) : fLst [a0, a1, a2, a3, a4, a5, a6] μ = .ok (.ref μ.length) (μ ++ [.lst [a0, a1, a2, a3, a4, a5, a6]]) := id rfl
@[simp] theorem fTup8 (a0 a1 a2 a3 a4 a5 a6 a7 : PV) (μ : Mem) : fTup [a0, a1, a2, a3, a4, a5, a6, a7] μ = .ok (.tup [a0, a1, a2, a3, a4, a5, a6, a7]) μ := id rfl
@[simp] theorem fLst8 (a0 a1 a2 a3 a4 a5 a6 a7 : PV) (μ : Mem) : fLst [a0, a1, a2, a3, a4, a5, a6, a7] μ = .ok (.ref μ.length) (μ ++ [.lst [a0, a1, a2, a3, a4, a5, a6, a7]]) := id rfl
@[simp] theorem fTup9 (a0 a1 a2 a3 a4 a5 a6 a7 a8 : PV) (μ : Mem) : fTup [a0, a1, a2, a3, a4, a5, a6, a7, a8] μ = .ok (.tup [a0, a1, a2, a3, a4, a5, a6, a7, a8]) μ := id rfl
@[simp] theorem fLst9 (a0 a1 a2 a3 a4 a5 a6 a7 a8 : PV) (μ : Mem) : fLst [a0, a1, a2, a3, a4, a5, a6, a7, a8] μ = .ok (.ref μ.length) (μ ++ [.lst [a0, a1, a2, a3, a4, a5, a6, a7, a8]]) := id rfl
@[simp] theorem fTup10 (a0 a1 a2 a3 a4 a5 a6 a7 a8 a9 : PV) (μ : Mem) : fTup [a0, a1, a2, a3, a4, a5, a6, a7, a8, a9] μ = .ok (.tup [a0, a1, a2, a3, a4, a5, a6, a7, a8, a9]) μ := id rfl
@[simp] theorem fLst10 (a0 a1 a2 a3 a4 a5 a6 a7 a8 a9 : PV) (μ : Mem) : fLst [a0, a1, a2, a3, a4, a5, a6, a7, a8, a9] μ = .ok (.ref μ.length) (μ ++ [.lst [a0, a1, a2, a3, a4, a5, a6, a7, a8, a9]]) := id rfl
@[simp] theorem fTup11 (a0 a1 a2 a3 a4 a5 a6 a7 a8 a9 a10 : PV) (μ : Mem) : fTup [a0, a1, a2, a3, a4, a5, a6, a7, a8, a9, a10] μ = .ok (.tup [a0, a1, a2, a3, a4, a5, a6, a7, a8, a9, a10]) μ := id rfl
@[simp] theorem fLst11 (a0 a1 a2 a3 a4 a5 a6 a7 a8 a9 a10 : PV) (μ : Mem) : fLst [a0, a1, a2, a3, a4, a5, a6, a7, a8, a9, a10] μ = .ok (.ref μ.length) (μ ++ [.lst [a0, a1, a2, a3, a4, a5, a6, a7, a8, a9, a10]]) := id rfl
@[simp] theorem fTup12 (a0 a1 a2 a3 a4 a5 a6 a7 a8 a9 a10 a11 : PV) (μ : Mem) : fTup [a0, a1, a2, a3, a4, a5, a6, a7, a8, a9, a10, a11] μ = .ok (.tup [a0, a1, a2, a3, a4, a5, a6, a7, a8, a9, a10, a11]) μ := id rfl
@[simp] theorem fLst12 (a0 a1 a2 a3 a4 a5 a6 a7 a8 a9 a10 a11 : PV) (μ : Mem) : fLst [a0, a1, a2, a3, a4, a5, a6, a7, a8, a9, a10, a11] μ = .ok (.ref μ.length) (μ ++ [.lst [a0, a1, a2, a3, a4, a5, a6, a7, a8, a9, a10, a11]]) := id rfl
@[simp] theorem fTup13 (a0 a1 a2 a3 a4 a5 a6 a7 a8 a9 a10 a11 a12 : PV) (μ : Mem) : fTup [a0, a1, a2, a3, a4, a5, a6, a7, a8, a9, a10, a11, a12] μ = .ok (.tup [a0, a1, a2, a3, a4, a5, a6, a7, a8, a9, a10, a11, a12]) μ := id rfl
@[simp] theorem fLst13 (a0 a1 a2 a3 a4 a5 a6 a7 a8 a9 a10 a11 a12 : PV) (μ : Mem) : fLst [a0, a1, a2, a3, a4, a5, a6, a7, a8, a9, a10, a11, a12] μ = .ok (.ref μ.length) (μ ++ [.lst [a0, a1, a2, a3, a4, a5, a6, a7, a8, a9, a10, a11, a12]]) := id rfl
@[simp] theorem fTup14 (a0 a1 a2 a3 a4 a5 a6 a7 a8 a9 a10 a11 a12 a13 : PV) (μ : Mem) : fTup [a0, a1, a2, a3, a4, a5, a6, a7, a8, a9, a10, a11, a12, a13] μ = .ok (.tup [a0, a1, a2, a3, a4, a5, a6, a7, a8, a9, a10, a11, a12, a13]) μ := id rfl
@[simp] theorem fLst14 (a0 a1 a2 a3 a4 a5 a6 a7 a8 a9 a10 a11 a12 a13 : PV) (μ : Mem) : fLst [a0, a1, a2, a3, a4, a5, a6, a7, a8, a9, a10, a11, a12, a13] μ = .ok (.ref μ.length) (μ ++ [.lst [a0, a1, a2, a3, a4, a5, a6, a7, a8, a9, a10, a11, a12, a13]]) := id rfl
@[simp] theorem fTup15 (a0 a1 a2 a3 a4 a5 a6 a7 a8 a9 a10 a11 a12 a13 a14 : PV) (μ : Mem) : fTup [a0, a1, a2, a3, a4, a5, a6, a7, a8, a9, a10, a11, a12, a13, a14] μ = .ok (.tup [a0, a1, a2, a3, a4, a5, a6, a7, a8, a9, a10, a11, a12, a13, a14]) μ := id rfl
@[simp] theorem fLst15 (a0 a1 a2 a3 a4 a5 a6 a7 a8 a9 a10 a11 a12 a13 a14 : PV) (μ : Mem) : fLst [a0, a1, a2, a3, a4, a5, a6, a7, a8, a9, a10, a11, a12, a13, a14] μ = .ok (.ref μ.length) (μ ++ [.lst [a0, a1, a2, a3, a4, a5, a6, a7, a8, a9, a10, a11, a12, a13, a14]]) := id rfl
@[simp] theorem fTup16 (a0 a1 a2 a3 a4 a5 a6 a7 a8 a9 a10 a11 a12 a13 a14 a15 : PV) (μ : Mem) : fTup [a0, a1, a2, a3, a4, a5, a6, a7, a8, a9, a10, a11, a12, a13, a14, a15] μ = .ok (.tup [a0, a1, a2, a3, a4, a5, a6, a7, a8, a9, a10, a11, a12, a13, a14, a15]) μ := id rfl
@[simp] theorem fLst16 (a0 a1 a2 a3 a4 a5 a6 a7 a8 a9 a10 a11 a12 a13 a14 a15 : PV) (μ : Mem) : fLst [a0, a1, a2, a3, a4, a5, a6, a7, a8, a9, a10, a11, a12, a13, a14, a15] μ = .ok (.ref μ.length) (μ ++ [.lst [a0, a1, a2, a3, a4, a5, a6, a7, a8, a9, a10, a11, a12, a13, a14, a15]]) := id rfl
def Ext (μ m : Mem) : Prop := ∃ l, m = μ ++ l
@[simp] theorem ext_app (μ l : Mem) : Ext μ (μ ++ l) := ⟨l, rfl⟩
@[simp] theorem ext_refl (μ : Mem) : Ext μ μ := ⟨[], by simp⟩
theorem Ext.refl (μ : Mem) : Ext μ μ := ⟨[], by simp⟩
theorem Ext.app (μ l : Mem) : Ext μ (μ ++ l) := ⟨l, rfl⟩
theorem Ext.trans {a b d : Mem} (h : Ext a b) (k : Ext b d) : Ext a d := by
  obtain ⟨l, rfl⟩ := h
  obtain ⟨j, rfl⟩ := k
  exact ⟨l ++ j, by simp⟩
theorem Ext.get {μ m : Mem} (h : Ext μ m) {k : Nat} {o : PO} (e : μ[k]? = some o) : m[k]? = some o := by
  obtain ⟨l, rfl⟩ := h
  exact get_some e
theorem Ext.len {μ m : Mem} (h : Ext μ m) : μ.length ≤ m.length := by
  obtain ⟨l, rfl⟩ := h
  simp
theorem Ext.set {μ m : Mem} (h : Ext μ m) {k : Nat} (hk : μ.length ≤ k) (o : PO) : Ext μ (m.set k o) := by
  obtain ⟨l, rfl⟩ := h
  refine ⟨l.set (k - μ.length) o, ?_⟩
  rw [List.set_append_right _ _ hk]
/-- a new list -/
def NewL (μ : Mem) (l : List PV) (p : PV) (m : Mem) : Prop := ∃ k, p = .ref k ∧ μ.length ≤ k ∧ m[k]? = some (.lst l) ∧ Ext μ m
theorem newL_mk {μ m : Mem} {l : List PV} {k : Nat} (h1 : μ.length ≤ k) (h2 : m[k]? = some (.lst l)) (h3 : Ext μ m) : NewL μ l (.ref k) m := ⟨k, rfl, h1, h2, h3⟩
theorem newL_iff (μ r : Mem) (l : List PV) (k : Nat) : NewL μ l (.ref (μ.length + k)) (μ ++ r) ↔ r[k]? = some (.lst l) := by
  constructor
  · rintro ⟨j, e, h1, h2, h3⟩
    cases e
    simpa using h2
  · intro h
    exact newL_mk (by omega) (by rw [get_new]; exact h) (Ext.app _ _)
@[simp] theorem newL_0 (μ r : Mem) (l : List PV) : NewL μ l (.ref (μ.length)) (μ ++ r) ↔ r[0]? = some (.lst l) := newL_iff μ r l 0
@[simp] theorem newL_1 (μ r : Mem) (l : List PV) : NewL μ l (.ref (μ.length + 1)) (μ ++ r) ↔ r[1]? = some (.lst l) := newL_iff μ r l 1
@[simp] theorem newL_2 (μ r : Mem) (l : List PV) : NewL μ l (.ref (μ.length + 1 + 1)) (μ ++ r) ↔ r[2]? = some (.lst l) := newL_iff μ r l 2
@[simp] theorem newL_3 (μ r : Mem) (l : List PV) : NewL μ l (.ref (μ.length + 1 + 1 + 1)) (μ ++ r) ↔ r[3]? = some (.lst l) := newL_iff μ r l 3
@[simp] theorem newL_4 (μ r : Mem) (l : List PV) : NewL μ l (.ref (μ.length + 1 + 1 + 1 + 1)) (μ ++ r) ↔ r[4]? = some (.lst l) := newL_iff μ r l 4
@[simp] theorem newL_5 (μ r : Mem) (l : List PV) : NewL μ l (.ref (μ.length + 1 + 1 + 1 + 1 + 1)) (μ ++ r) ↔ r[5]? = some (.lst l) := newL_iff μ r l 5
@[simp] theorem newL_6 (μ r : Mem) (l : List PV) : NewL μ l (.ref (μ.length + 1 + 1 + 1 + 1 + 1 + 1)) (μ ++ r) ↔ r[6]? = some (.lst l) := newL_iff μ r l 6
@[simp] theorem newL_7 (μ r : Mem) (l : List PV) : NewL μ l (.ref (μ.length + 1 + 1 + 1 + 1 + 1 + 1 + 1)) (μ ++ r) ↔ r[7]? = some (.lst l) := newL_iff μ r l 7
@[simp] theorem newL_8 (μ r : Mem) (l : List PV) : NewL μ l (.ref (μ.length + 1 + 1 + 1 + 1 + 1 + 1 + 1 + 1)) (μ ++ r) ↔ r[8]? = some (.lst l) := newL_iff μ r l 8
theorem fn_sat_new {n : Nat} {b : Sm} {args : List PV} {μ : Mem} {l : List PV} (h : (run n b args μ).sat (NewL μ l)) : (fn n b args μ).sat (NewL μ l) := by
  obtain ⟨q, m, e, k, rfl, hk, h1, h2⟩ := rsat_ex h
  rw [fn_ev, e, gc_keep (by simp [PV.under]; omega)]
  exact (rsat_ok _ _ _).mpr ⟨k, rfl, hk, h1, h2⟩
/-- a property that survives the dropping of new cells -/
theorem gc_sat {μ : Mem} {r : Res PV} {P : PV → Mem → Prop} (h : r.sat P) (hs : ∀ p m, P p m → μ.length ≤ m.length → p.under μ.length = true → P p (m.take μ.length)) : (gc μ r).sat P := by
  obtain ⟨p, m, rfl, hp⟩ := rsat_ex h
  unfold gc
  simp only
  split
  · next g => rw [rsat_ok]; exact hs p m hp g.1 g.2.1
  · rw [rsat_ok]; exact hp
theorem fn_sat {n : Nat} {b : Sm} {args : List PV} {μ : Mem} {P : PV → Mem → Prop} (h : (run n b args μ).sat P) (hs : ∀ p m, P p m → μ.length ≤ m.length → p.under μ.length = true → P p (m.take μ.length)) : (fn n b args μ).sat P := by
  rw [fn_ev]; exact gc_sat h hs
theorem ok_of_sat {r : Res PV} {p : PV} {μ : Mem} (h : r.sat fun q m => q = p ∧ m = μ) : r = .ok p μ := by
  obtain ⟨q, m, e, rfl, rfl⟩ := rsat_ex h
  exact e
@[simp] theorem cut_toI (l : List PV) {j : Int} (h : 0 ≤ j) : cut l none (some j) = l.take j.toNat := by
  have e : j = (j.toNat : Int) := by omega
  conv => lhs; rw [e]
  exact cut_to l _
@[simp] theorem cut_fromI (l : List PV) {j : Int} (h : 0 ≤ j) : cut l (some j) none = l.drop j.toNat := by
  have e : j = (j.toNat : Int) := by omega
  conv => lhs; rw [e]
  exact cut_from l _
/-- data of mapped lists -/
theorem datas_map {α : Type} (f : α → PV) (h : ∀ x, (f x).data = true) (l : List α) : PV.datas (l.map f) = true := by
  rw [datas_iff]; intro p hp; obtain ⟨x, _, rfl⟩ := List.mem_map.mp hp; exact h x
@[simp] theorem datas_int (l : List Int) : PV.datas (l.map .int) = true := datas_map _ (fun x => by simp) l
theorem sms_map {α : Type} (f : α → PV) (l : List α) (h : ∀ x ∈ l, (f x).pd.sm = true) : PyData.sms (PV.pds (l.map f)) = true := by
  rw [sms_iff]; intro d hd
  rw [pds_map, List.map_map] at hd
  obtain ⟨x, hx, rfl⟩ := List.mem_map.mp hd
  exact h x hx
theorem dps_map {α : Type} (f : α → PV) (l : List α) (k : Nat) (h : ∀ x ∈ l, (f x).pd.depth ≤ k) : PyData.depthAll (PV.pds (l.map f)) ≤ k := by
  apply dps_le; intro d hd
  rw [pds_map, List.map_map] at hd
  obtain ⟨x, hx, rfl⟩ := List.mem_map.mp hd
  exact h x hx
theorem wts_map {α : Type} (f : α → PV) (l : List α) (k : Nat) (h : ∀ x ∈ l, (f x).pd.wt ≤ k) : PyData.wts (PV.pds (l.map f)) ≤ k * l.length := by
  have := wts_le (l := PV.pds (l.map f)) (k := k) (by
    intro d hd
    rw [pds_map, List.map_map] at hd
    obtain ⟨x, hx, rfl⟩ := List.mem_map.mp hd
    exact h x hx)
  simpa [pds_map] using this
/-- numbers that are not too great to be shown -/
abbrev sml (z : Int) : Prop := z.natAbs < 10 ^ 200
theorem log_sml {z : Int} (h : sml z) : z.natAbs.log2 < 1920 := by
  by_cases h0 : z.natAbs = 0
  · rw [h0]; decide
  · exact (Nat.log2_lt h0).mpr (Nat.lt_of_lt_of_le h (by decide +kernel))
theorem fSum_ref (μ : Mem) (n : Nat) : fSum [.ref n] μ = (match (getL μ (.ref n)).bind intsOf with | some is => .ok (.int is.sum) μ | _ => .stuck) := rfl
theorem intsOf_mapI (l : List Int) : intsOf (l.map .int) = some l := by
  induction l with
  | nil => rfl
  | cons x xs ih => simp [intsOf, ih]
theorem fSum_lst {μ : Mem} {n : Nat} {l : List Int} (h : μ[n]? = some (.lst (l.map .int))) : fSum [.ref n] μ = .ok (.int l.sum) μ := by
  rw [fSum_ref]
  simp only [getL, h, Option.bind_some, intsOf_mapI]
/-- a comprehension ahead of what follows -/
theorem lc_of {α : Type} {it : It} {g : Tg} {t e : Ex} {vs : List Nat} {env : Env} {μ μ1 : Mem} {lk : List (Nat × List PV)} {k : PV → Mem → Out} {W : Wp} (enc : α → PV) (F : α → Option PV) (xs : List α) {ys : List PV} (he : xs.filterMap F = ys) (hi : it env μ = .ok ⟨xs.map enc, lk⟩ μ1) (hl : locked lk μ1) (hz : xs.length < SL)
    (st : ∀ x ∈ xs, ∀ l, ∃ e1, g (enc x) (wipe env vs) (μ1 ++ l) = .ok e1 (μ1 ++ l) ∧
      match F x with
      | some q => t e1 (μ1 ++ l) = .ok (.bl true) (μ1 ++ l) ∧ e e1 (μ1 ++ l) = .ok q (μ1 ++ l)
      | none => t e1 (μ1 ++ l) = .ok (.bl false) (μ1 ++ l))
    (hk : (k (.ref μ1.length) (μ1 ++ [.lst ys])).sat W) : (Out.of (lc it g t e vs env μ) k).sat W := by
  subst he
  rw [lc_pure enc F xs hi (fun l => locked_app hl l) hz st]
  exact hk
theorem lc_bind {α β : Type} {it : It} {g : Tg} {t e : Ex} {vs : List Nat} {env : Env} {μ μ1 : Mem} {lk : List (Nat × List PV)} {k : PV → Mem → Res β} {P : β → Mem → Prop} (enc : α → PV) (F : α → Option PV) (xs : List α) {ys : List PV} (he : xs.filterMap F = ys) (hi : it env μ = .ok ⟨xs.map enc, lk⟩ μ1) (hl : locked lk μ1) (hz : xs.length < SL)
    (st : ∀ x ∈ xs, ∀ l, ∃ e1, g (enc x) (wipe env vs) (μ1 ++ l) = .ok e1 (μ1 ++ l) ∧
      match F x with
      | some q => t e1 (μ1 ++ l) = .ok (.bl true) (μ1 ++ l) ∧ e e1 (μ1 ++ l) = .ok q (μ1 ++ l)
      | none => t e1 (μ1 ++ l) = .ok (.bl false) (μ1 ++ l))
    (hk : (k (.ref μ1.length) (μ1 ++ [.lst ys])).sat P) : ((lc it g t e vs env μ).bind k).sat P := by
  subst he
  rw [lc_pure enc F xs hi (fun l => locked_app hl l) hz st]
  exact hk
theorem filterMap_map' {α β : Type} (f : α → Option β) (enc : β → PV) (l : List α) : l.filterMap (fun x => (f x).map enc) = (l.filterMap f).map enc := by rw [List.map_filterMap]
theorem filterMap_if {α : Type} (p : α → Bool) (enc : α → PV) (l : List α) : l.filterMap (fun x => if p x then some (enc x) else none) = (l.filter p).map enc := by
  induction l with
  | nil => rfl
  | cons x xs ih => by_cases h : p x <;> simp [h, ih]
theorem filterMap_some {α : Type} (enc : α → PV) (l : List α) : l.filterMap (fun x => some (enc x)) = l.map enc := by simp
end PL
end
section
set_option autoImplicit false
/-! The law's pot: two cells that change, the rest stays. -/
namespace PL
open PySem
/-- pot at cell a + 1, its great numbers at cell a -/
def Pot (a : Nat) (m : Mem) : Prop := ∃ (bs : List Int) (f l t : Int), m[a + 1]? = some (.lst [.ref a, .int f, .int l, .int t]) ∧ m[a]? = some (.lst (bs.map .int)) ∧ bs.length ≤ 100 ∧ -(2 ^ 64) < l ∧ l < 2 ^ 64
def Fr (a : Nat) (m m' : Mem) : Prop := m.length ≤ m'.length ∧ ∀ i, i ≠ a → i ≠ a + 1 → i < m.length → m'[i]? = m[i]?
theorem Fr.refl (a : Nat) (m : Mem) : Fr a m m := ⟨Nat.le_refl _, fun _ _ _ _ => rfl⟩
theorem Fr.trans {a : Nat} {x y z : Mem} (h : Fr a x y) (k : Fr a y z) : Fr a x z := ⟨Nat.le_trans h.1 k.1, fun i h1 h2 h3 => (k.2 i h1 h2 (Nat.lt_of_lt_of_le h3 h.1)).trans (h.2 i h1 h2 h3)⟩
theorem Fr.get {a : Nat} {m m' : Mem} (h : Fr a m m') {i : Nat} {o : PO} (e : m[i]? = some o) (h1 : i ≠ a) (h2 : i ≠ a + 1) : m'[i]? = some o := by
  rw [h.2 i h1 h2 (List.getElem?_eq_some_iff.mp e).1]; exact e
theorem Fr.ext {a : Nat} {m m' : Mem} (h : Ext m m') : Fr a m m' := ⟨h.len, fun i _ _ h3 => by obtain ⟨l, rfl⟩ := h; rw [List.getElem?_append_left h3]⟩
theorem Fr.set {a : Nat} {m m' : Mem} (h : Fr a m m') {k : Nat} (o : PO) (hk : k = a ∨ k = a + 1 ∨ m.length ≤ k) : Fr a m (m'.set k o) := by
  refine ⟨by simpa using h.1, fun i h1 h2 h3 => ?_⟩
  rw [List.getElem?_set_ne (by omega)]
  exact h.2 i h1 h2 h3
theorem Pot.lt {a : Nat} {m : Mem} (h : Pot a m) : a + 1 < m.length := by
  obtain ⟨bs, f, l, t, h1, _⟩ := h
  exact (List.getElem?_eq_some_iff.mp h1).1
theorem Pot.ext {a : Nat} {m m' : Mem} (h : Pot a m) (e : Ext m m') : Pot a m' := by
  obtain ⟨bs, f, l, t, h1, h2, h3, h4, h5⟩ := h
  exact ⟨bs, f, l, t, e.get h1, e.get h2, h3, h4, h5⟩
theorem Pot.app {a : Nat} {m : Mem} (h : Pot a m) (l : Mem) : Pot a (m ++ l) := h.ext (Ext.app _ _)
theorem Pot.set {a : Nat} {m : Mem} (h : Pot a m) {k : Nat} (o : PO) (hk : a + 1 < k) : Pot a (m.set k o) := by
  obtain ⟨bs, f, l, t, h1, h2, h3, h4, h5⟩ := h
  exact ⟨bs, f, l, t, by rw [List.getElem?_set_ne (by omega)]; exact h1, by rw [List.getElem?_set_ne (by omega)]; exact h2, h3, h4, h5⟩
theorem Pot.take {a : Nat} {m : Mem} (h : Pot a m) {n : Nat} (hn : a + 1 < n) : Pot a (m.take n) := by
  obtain ⟨bs, f, l, t, h1, h2, h3, h4, h5⟩ := h
  exact ⟨bs, f, l, t, by rw [List.getElem?_take_of_lt hn]; exact h1, by rw [List.getElem?_take_of_lt (by omega)]; exact h2, h3, h4, h5⟩
theorem Fr.take {a : Nat} {m m' : Mem} (h : Fr a m m') : Fr a m (m'.take m.length) := by
  refine ⟨by have := h.1; simp; omega, fun i h1 h2 h3 => ?_⟩
  rw [List.getElem?_take_of_lt h3]
  exact h.2 i h1 h2 h3
/-- pot goes on, the rest stays -/
def Go (a : Nat) (m m' : Mem) : Prop := Pot a m' ∧ Fr a m m'
theorem Go.trans {a : Nat} {x y z : Mem} (h : Go a x y) (k : Go a y z) : Go a x z := ⟨k.1, h.2.trans k.2⟩
theorem Go.take {a : Nat} {m m' : Mem} (hp : Pot a m) (h : Go a m m') : Go a m (m'.take m.length) := ⟨h.1.take hp.lt, h.2.take⟩
theorem Go.app {a : Nat} {m m' : Mem} (h : Go a m m') (l : Mem) : Go a m (m' ++ l) := ⟨h.1.app l, h.2.trans (Fr.ext (Ext.app _ _))⟩
theorem Go.ext {a : Nat} {m m' : Mem} (hp : Pot a m) (h : Ext m m') : Go a m m' := ⟨hp.ext h, Fr.ext h⟩
theorem Go.refl {a : Nat} {m : Mem} (hp : Pot a m) : Go a m m := ⟨hp, Fr.refl _ _⟩
theorem Go.get {a : Nat} {m m' : Mem} (h : Go a m m') {i : Nat} {o : PO} (e : m[i]? = some o) (h1 : a + 1 < i) : m'[i]? = some o := h.2.get e (by omega) (by omega)
/-- a def that draws from the pot and hands back data -/
theorem fn_go {a n : Nat} {b : Sm} {args : List PV} {μ : Mem} {P : PV → Prop} (hp : Pot a μ) (h : (run n b args μ).sat fun p m => P p ∧ Go a μ m) : (fn n b args μ).sat fun p m => P p ∧ Go a μ m :=
  fn_sat h fun _ _ h1 _ _ => ⟨h1.1, h1.2.take hp⟩
@[simp] theorem fMod_int (i j : Int) (μ : Mem) : fMod [.int i, .int j] μ = if 0 < j then .ok (.int (i % j)) μ else .stuck := id rfl
@[simp] theorem fDiv_int (i j : Int) (μ : Mem) : fDiv [.int i, .int j] μ = if divOk j then .ok (.int (i / j)) μ else .stuck := id rfl
@[simp] theorem fMul_int (i j : Int) (μ : Mem) : fMul [.int i, .int j] μ = if mulOk i j then .ok (.int (i * j)) μ else .stuck := id rfl
@[simp] theorem fPow_int (i j : Int) (μ : Mem) : fPow [.int i, .int j] μ = if 0 ≤ j ∧ j ≤ 1000000 ∧ i.natAbs < 2 ^ 64 then .ok (.int (i ^ j.toNat)) μ else .stuck := id rfl
@[simp] theorem fShl_int (i j : Int) (μ : Mem) : fShl [.int i, .int j] μ = if shlOk i j then .ok (.int (i * 2 ^ j.toNat)) μ else .stuck := id rfl
@[simp] theorem fShr_int (i j : Int) (μ : Mem) : fShr [.int i, .int j] μ = if 0 ≤ j then .ok (.int (i / 2 ^ j.toNat)) μ else .stuck := id rfl
@[simp] theorem fBAnd_int (i j : Int) (μ : Mem) : fBAnd [.int i, .int j] μ = .ok (.int (Builtin.bitAnd i j)) μ := id rfl
@[simp] theorem fBOr_int (i j : Int) (μ : Mem) : fBOr [.int i, .int j] μ = .ok (.int (Builtin.bitOr i j)) μ := id rfl
@[simp] theorem fBXor_int (i j : Int) (μ : Mem) : fBXor [.int i, .int j] μ = .ok (.int (Builtin.bitXor i j)) μ := id rfl
@[simp] theorem fSet_ref (n : Nat) (i : Int) (p : PV) (μ : Mem) : fSet [.ref n, .int i, p] μ = (match μ[n]? with
    | some (.lst xs) => match ixN xs.length i with | some k => .ok .non (μ.set n (.lst (xs.set k p))) | none => .stuck
    | _ => .stuck) := id rfl
@[simp] theorem fPop_ref (n : Nat) (μ : Mem) : fPop [.ref n] μ = (match μ[n]? with
    | some (.lst xs) => match xs[xs.length - 1]? with | some q => .ok q (μ.set n (.lst xs.dropLast)) | none => .stuck
    | _ => .stuck) := id rfl
@[simp] theorem get_set_same {μ : Mem} {k : Nat} {o o' : PO} (h : μ[k]? = some o) : (μ.set k o')[k]? = some o' := by
  rw [List.getElem?_set_self (List.getElem?_eq_some_iff.mp h).1]
@[simp] theorem flatP_str (x : Str) : flatP (.str x) = true := id rfl
@[simp] theorem flatP_int (x : Int) : flatP (.int x) = true := id rfl
@[simp] theorem flatP_bl (x : Bool) : flatP (.bl x) = true := id rfl
@[simp] theorem flatP_non : flatP .non = true := id rfl
@[simp] theorem eqF_str (x y : Str) : eqF (.str x) (.str y) = decide (x = y) := by
  show (x == y) = decide (x = y)
  by_cases h : x = y <;> simp [h]
@[simp] theorem eqF_int (x y : Int) : eqF (.int x) (.int y) = decide (x = y) := by
  show (x == y) = decide (x = y)
  by_cases h : x = y <;> simp [h]
@[simp] theorem eqF_int_str (x : Int) (y : Str) : eqF (.int x) (.str y) = false := id rfl
@[simp] theorem eqF_str_int (x : Int) (y : Str) : eqF (.str y) (.int x) = false := id rfl
@[simp] theorem strPair_tup (p : PV) (l : List PV) : strPair p (.tup l) = none := by cases p <;> rfl
@[simp] theorem strPair_ref (p : PV) (l : Nat) : strPair p (.ref l) = none := by cases p <;> rfl
theorem inR_tup {p : PV} {l : List PV} {μ : Mem} (h : flatP p = true) (hl : l.all flatP = true) : inR μ p (.tup l) = some (l.any fun z => eqF z p) := by
  simp only [inR, strPair_tup, inSeq, getL]
  rw [if_pos ⟨h, hl⟩]
theorem inR_lst {p : PV} {n : Nat} {l : List PV} {μ : Mem} (e : μ[n]? = some (.lst l)) (h : flatP p = true) (hl : l.all flatP = true) : inR μ p (.ref n) = some (l.any fun z => eqF z p) := by
  simp only [inR, strPair_ref, inSeq, getL, e]
  rw [if_pos ⟨h, hl⟩]
@[simp] theorem fIn_tup {p : PV} {l : List PV} {μ : Mem} (h : flatP p = true) (hl : l.all flatP = true) : fIn [p, .tup l] μ = .ok (.bl (l.any fun z => eqF z p)) μ := by simp only [fIn, inR_tup h hl]
@[simp] theorem fNotIn_tup {p : PV} {l : List PV} {μ : Mem} (h : flatP p = true) (hl : l.all flatP = true) : fNotIn [p, .tup l] μ = .ok (.bl (!l.any fun z => eqF z p)) μ := by simp only [fNotIn, inR_tup h hl]
theorem fIn_lst {p : PV} {n : Nat} {l : List PV} {μ : Mem} (e : μ[n]? = some (.lst l)) (h : flatP p = true) (hl : l.all flatP = true) : fIn [p, .ref n] μ = .ok (.bl (l.any fun z => eqF z p)) μ := by simp only [fIn, inR_lst e h hl]
theorem fNotIn_lst {p : PV} {n : Nat} {l : List PV} {μ : Mem} (e : μ[n]? = some (.lst l)) (h : flatP p = true) (hl : l.all flatP = true) : fNotIn [p, .ref n] μ = .ok (.bl (!l.any fun z => eqF z p)) μ := by simp only [fNotIn, inR_lst e h hl]
theorem seq_sat {a b : Sm} {env : Env} {μ : Mem} {W : Wp} (P : Env → Mem → Prop) (hA : (a env μ).sat { nx := P }) (hb : ∀ e m, P e m → (b e m).sat W) : (seq a b env μ).sat W := by
  rw [seq_ev]
  refine then_sat (sat_imp hA (fun e m h => hb e m h) (fun _ _ h => h.elim) (fun _ _ h => h.elim) (fun _ _ h => h.elim))
theorem then_sat' {o : Out} {b : Sm} {W : Wp} (P : Env → Mem → Prop) (hA : o.sat { nx := P }) (hb : ∀ e m, P e m → (b e m).sat W) : (o.then b).sat W :=
  then_sat (sat_imp hA (fun e m h => hb e m h) (fun _ _ h => h.elim) (fun _ _ h => h.elim) (fun _ _ h => h.elim))
@[simp] theorem fMul_ref (a : Nat) (k : Int) (μ : Mem) : fMul [.ref a, .int k] μ = (match μ[a]? with
    | some (.lst xs) => if -(2 ^ 63) ≤ k ∧ k < 2 ^ 63 ∧ xs.length * k.toNat ≤ SL then .ok (.ref μ.length) (μ ++ [.lst (List.replicate k.toNat xs).flatten]) else .stuck
    | _ => .stuck) := id rfl
theorem locked_ext {lk : List (Nat × List PV)} {μ m : Mem} (h : locked lk μ) (e : Ext μ m) : locked lk m := by
  obtain ⟨l, rfl⟩ := e
  exact locked_app h l
/-- what is walked, the same in all that follows -/
def Walked (p : PV) (l : List PV) (lk : List (Nat × List PV)) (μ : Mem) : Prop := locked lk μ ∧ ∀ m, Ext μ m → itsOf p m = .ok ⟨l, lk⟩ m
theorem walked_tup (l : List PV) (μ : Mem) : Walked (.tup l) l [] μ := ⟨locked_nil _, fun _ _ => rfl⟩
theorem walked_lst {n : Nat} {l : List PV} {μ : Mem} (h : μ[n]? = some (.lst l)) : Walked (.ref n) l [(n, l)] μ := ⟨locked_lst _ h, fun _ e => itsOf_lst _ (e.get h)⟩
/-- a for without break -/
theorem for_nb {α : Type} {lk : List (Nat × List PV)} {g : Tg} {b k : Sm} {W : Wp} {env : Env} {μ : Mem} (enc : α → PV) (xs : List α) (R : Nat → Env → Mem → Prop) (hl : ∀ i env μ, R i env μ → locked lk μ) (h : R 0 env μ)
    (st : ∀ i x env μ, xs[i]? = some x → R i env μ → (turn g b (enc x) env μ).sat { nx := R (i + 1), ct := R (i + 1), rt := W.rt })
    (hk : ∀ e m, R xs.length e m → (k e m).sat W) : ((forN lk g b (xs.map enc) env μ).then k).sat W :=
  for_sat enc xs R hl h (fun i x env μ hx hR => sat_imp (st i x env μ hx hR) (fun _ _ h => h) (fun _ _ h => h) (fun _ _ h => h.elim) (fun _ _ h => h)) hk
/-- a for that always goes through -/
theorem for_thru {α : Type} {lk : List (Nat × List PV)} {g : Tg} {b k : Sm} {W : Wp} {env : Env} {μ : Mem} (enc : α → PV) (xs : List α) (R : Nat → Env → Mem → Prop) (hl : ∀ i env μ, R i env μ → locked lk μ) (h : R 0 env μ)
    (st : ∀ i x env μ, xs[i]? = some x → R i env μ → (turn g b (enc x) env μ).sat { nx := R (i + 1), ct := R (i + 1) })
    (hk : ∀ e m, R xs.length e m → (k e m).sat W) : ((forN lk g b (xs.map enc) env μ).then k).sat W :=
  for_nb enc xs R hl h (fun i x env μ hx hR => sat_imp (st i x env μ hx hR) (fun _ _ h => h) (fun _ _ h => h.elim) (fun _ _ h => h.elim) (fun _ _ h => h)) hk
theorem lays_int (l : List Int) : PyData.canLayAll0 (PV.pds (l.map .int)) = true := by
  induction l with
  | nil => simp [PyData.canLayAll0]
  | cons x xs ih => simp [PyData.canLayAll0, PyData.canLay0, ih]
theorem dps_int (l : List Int) : PyData.depthAll (PV.pds (l.map .int)) = 0 := by
  induction l with
  | nil => simp
  | cons x xs ih => simp [ih]
theorem fNe_ints {μ : Mem} {a b : Nat} {l : List Int} (ha : μ[a]? = some (.lst (l.map .int))) (hb : μ[b]? = some (.lst [])) : fNe [.ref a, .ref b] μ = .ok (.bl (!l.isEmpty)) μ := by
  have h1 : SeqAt.shaped (.list (PV.pds (l.map .int))) = true := by
    unfold SeqAt.shaped
    simp [PyData.canLay0, lays_int, dps_int]
  simp only [fNe, eqR, scalP]
  rw [toD_lst ha (by simp), toD_lst hb (by simp)]
  simp only
  rw [if_pos ⟨h1, shaped_sm (by simp) (by simp)⟩]
  cases l <;> simp [PyData.eqv, PyData.eqvAll]
theorem divOk_small {j : Int} (h : 0 < j) (h2 : j < 2 ^ 200) : divOk j := by
  refine ⟨h, ?_⟩
  have : j.natAbs < 2 ^ 200 := by omega
  have := (Nat.log2_lt (by omega)).mpr this
  omega
/-- data of so many items, not too deep, that can be shown -/
structure Good (k : Nat) (p : PV) : Prop where
  data : p.data = true
  sm : p.pd.sm = true
  wt : p.pd.wt ≤ k
  dp : p.pd.depth ≤ 10
theorem Good.mono {k j : Nat} {p : PV} (h : Good k p) (l : k ≤ j) : Good j p := ⟨h.data, h.sm, Nat.le_trans h.wt l, h.dp⟩
theorem repr_good {p : PV} {μ : Mem} (h : Good 8000 p) : fRepr [p] μ = .ok (.str p.pd.shown) μ := repr_ok (toD_data h.data) h.sm h.wt (Nat.le_trans h.dp (by decide))
/-- lists of data -/
structure Goods (k : Nat) (l : List PV) : Prop where
  data : PV.datas l = true
  sm : PyData.sms (PV.pds l) = true
  wt : PyData.wts (PV.pds l) ≤ k
  dp : PyData.depthAll (PV.pds l) ≤ 10
theorem Goods.nil : Goods 0 [] := ⟨by simp, by simp, by simp, by simp⟩
theorem Goods.cons {k j : Nat} {p : PV} {l : List PV} (h : Good k p) (hl : Goods j l) : Goods (k + j) (p :: l) := ⟨by simp [h.data, hl.data], by simp [h.sm, hl.sm], by have := h.wt; have := hl.wt; simp; omega, by have := h.dp; have := hl.dp; simp; omega⟩
theorem Goods.mono {k j : Nat} {p : List PV} (h : Goods k p) (l : k ≤ j) : Goods j p := ⟨h.data, h.sm, Nat.le_trans h.wt l, h.dp⟩
theorem repr_goods {n : Nat} {l : List PV} {μ : Mem} (e : μ[n]? = some (.lst l)) (h : Goods 7000 l) : fRepr [.ref n] μ = .ok (.str (PyData.list (PV.pds l)).shown) μ := repr_ok (toD_lst e h.data) (by simp [h.sm]) (by have := h.wt; simp; omega) (by have := h.dp; simp; omega)
theorem Good.tup {k : Nat} {l : List PV} (h : Goods k l) (hd : PyData.depthAll (PV.pds l) ≤ 9) : Good (k + 1) (.tup l) := ⟨by simp [h.data], by simp [h.sm], by have := h.wt; simp; omega, by simp; omega⟩
theorem Goods.map {α : Type} {k : Nat} (f : α → PV) (l : List α) (h : ∀ x ∈ l, Good k (f x)) : Goods (k * l.length) (l.map f) := ⟨by rw [datas_iff]; intro p hp; obtain ⟨x, hx, rfl⟩ := List.mem_map.mp hp; exact (h x hx).data, sms_map f l fun x hx => (h x hx).sm, wts_map f l k fun x hx => (h x hx).wt, dps_map f l 10 fun x hx => (h x hx).dp⟩
theorem Good.int {i : Int} (h : sml i) : Good 1 (.int i) := ⟨by simp, by simp [log_sml h], by simp, by simp⟩
theorem Good.bl (b : Bool) : Good 1 (.bl b) := ⟨by simp, by simp, by simp, by simp⟩
theorem Good.str {x : Str} (h : (PyData.strOk x && decide ((reprText x).length ≤ 1990)) = true) : Good 1 (.str x) := ⟨by simp, by simpa using h, by simp, by simp⟩
@[simp] theorem fIsN_non (p : PV) (μ : Mem) : fIsN [p, .non] μ = .ok (.bl (isNon p)) μ := id rfl
@[simp] theorem fNotN_non (p : PV) (μ : Mem) : fNotN [p, .non] μ = .ok (.bl (!isNon p)) μ := id rfl
@[simp] theorem isNon_non : isNon .non = true := id rfl
@[simp] theorem isNon_int (i : Int) : isNon (.int i) = false := id rfl
@[simp] theorem isNon_bl (i : Bool) : isNon (.bl i) = false := id rfl
@[simp] theorem isNon_str (i : Str) : isNon (.str i) = false := id rfl
@[simp] theorem isNon_tup (i : List PV) : isNon (.tup i) = false := id rfl
@[simp] theorem isNon_ref (i : Nat) : isNon (.ref i) = false := id rfl
@[simp] theorem ixN_last (n : Nat) : ixN (n + 1) (-1) = some n := by
  unfold ixN
  rw [if_neg (by omega), if_pos (by omega)]
  congr 1
  omega
@[simp] theorem set_last {α : Type} (l : List α) (x p : α) : (l ++ [x]).set l.length p = l ++ [p] := by
  rw [List.set_append_right _ _ (Nat.le_refl _), Nat.sub_self]; rfl
theorem log_lt {z : Int} {n : Nat} (h : z.natAbs < 2 ^ n) (h0 : 0 < n) : z.natAbs.log2 < n := by
  by_cases e : z.natAbs = 0
  · rw [e]; exact h0
  · exact (Nat.log2_lt e).mpr h
/-- numbers that may be multiplied -/
theorem mul_big {i j : Int} (hi : i.natAbs < 10 ^ 150) (hj : j.natAbs < 10 ^ 150) : mulOk i j := by
  have e : (10 ^ 150 : Nat) < 2 ^ 500 := by decide +kernel
  have h1 := log_lt (n := 500) (Nat.lt_trans hi e) (by omega)
  have h2 := log_lt (n := 500) (Nat.lt_trans hj e) (by omega)
  exact .inr (.inr (by omega))
/-- one cell may be another one, the rest of the old memory stays -/
structure Upd (a : Nat) (μ m : Mem) (l : List PV) : Prop where
  at' : m[a]? = some (.lst l)
  len : μ.length ≤ m.length
  keep : ∀ i, i ≠ a → i < μ.length → m[i]? = μ[i]?
theorem Upd.take {a : Nat} {μ m : Mem} {l : List PV} (h : Upd a μ m l) (ha : a < μ.length) : Upd a μ (m.take μ.length) l := by
  refine ⟨?_, by have := h.len; simp; omega, fun i h1 h2 => ?_⟩
  · rw [List.getElem?_take_of_lt ha]; exact h.at'
  · rw [List.getElem?_take_of_lt h2]; exact h.keep i h1 h2
theorem Upd.refl {a : Nat} {μ : Mem} {l : List PV} (h : μ[a]? = some (.lst l)) : Upd a μ μ l := ⟨h, Nat.le_refl _, fun _ _ _ => rfl⟩
theorem Upd.app {a : Nat} {μ m : Mem} {l : List PV} (h : Upd a μ m l) (k : Mem) : Upd a μ (m ++ k) l :=
  ⟨get_some h.at', by have := h.len; simp; omega, fun i h1 h2 => by rw [List.getElem?_append_left (by have := h.len; omega)]; exact h.keep i h1 h2⟩
theorem Upd.set {a : Nat} {μ m : Mem} {l k : List PV} (h : Upd a μ m l) : Upd a μ (m.set a (.lst k)) k :=
  ⟨get_set_same h.at', by simpa using h.len, fun i h1 h2 => by rw [List.getElem?_set_ne (by omega)]; exact h.keep i h1 h2⟩
theorem Upd.trans {a : Nat} {x y z : Mem} {l k : List PV} (h : Upd a x y l) (g : Upd a y z k) : Upd a x z k :=
  ⟨g.at', Nat.le_trans h.len g.len, fun i h1 h2 => (g.keep i h1 (Nat.lt_of_lt_of_le h2 h.len)).trans (h.keep i h1 h2)⟩
theorem ext_iff {μ m : Mem} : Ext μ m ↔ μ.length ≤ m.length ∧ ∀ i, i < μ.length → m[i]? = μ[i]? := by
  constructor
  · rintro ⟨l, rfl⟩
    exact ⟨by simp, fun i h => List.getElem?_append_left h⟩
  · rintro ⟨h1, h2⟩
    refine ⟨m.drop μ.length, ?_⟩
    have e : m.take μ.length = μ := by
      apply List.ext_getElem?
      intro i
      by_cases h : i < μ.length
      · rw [List.getElem?_take_of_lt h, h2 i h]
      · rw [List.getElem?_eq_none (by simp; omega), List.getElem?_eq_none (by omega)]
    conv => lhs; rw [← List.take_append_drop μ.length m, e]
theorem Upd.ext {a : Nat} {μ x y : Mem} {l : List PV} (h : Upd a x y l) (e : Ext μ x) (ha : μ.length ≤ a) : Ext μ y := by
  rw [ext_iff] at *
  exact ⟨Nat.le_trans e.1 h.len, fun i hi => (h.keep i (by omega) (by omega)).trans (e.2 i hi)⟩
end PL
end
section
set_option autoImplicit false
/-! Lists of lists: repr. -/
namespace PL
open PySem
theorem toDn_lst {μ : Mem} {n k : Nat} {l : List PV} (h : μ[n]? = some (.lst l)) (hd : PV.datas l = true) : toDn μ (k + 1) (.ref n) = some (.list (PV.pds l)) := by
  unfold toDn PV.conv
  rw [h]
  simp only
  rw [convs_pd _ l hd]
  rfl
/-- cells that hold lists of data -/
def Cells (μ : Mem) : List Nat → List (List PV) → Prop
  | [], [] => True
  | k :: ks, l :: ls => μ[k]? = some (.lst l) ∧ Cells μ ks ls
  | _, _ => False
theorem convs_cells {μ : Mem} {m : Nat} : ∀ {ks : List Nat} {ls : List (List PV)}, Cells μ ks ls → (∀ l ∈ ls, PV.datas l = true) → PV.convs (fun j => toDn μ (m + 1) (.ref j)) (ks.map .ref) = some (ls.map fun l => .list (PV.pds l))
  | [], [], _, _ => rfl
  | k :: ks, l :: ls, h, hd => by
    have ih := convs_cells (m := m) h.2 fun z hz => hd z (by simp [hz])
    have e : PV.conv (fun j => toDn μ (m + 1) (.ref j)) (.ref k) = some (.list (PV.pds l)) := toDn_lst h.1 (hd l (by simp))
    show (PV.conv (fun j => toDn μ (m + 1) (.ref j)) (.ref k)).bind (fun d => (PV.convs (fun j => toDn μ (m + 1) (.ref j)) (ks.map .ref)).map fun ds => d :: ds) = _
    rw [e, ih]
    rfl
  | [], _ :: _, h, _ => h.elim
  | _ :: _, [], h, _ => h.elim
theorem toD_cells {μ : Mem} {n : Nat} {ks : List Nat} {ls : List (List PV)} (h : μ[n]? = some (.lst (ks.map .ref))) (hc : Cells μ ks ls) (hd : ∀ l ∈ ls, PV.datas l = true) : toD μ (.ref n) = some (.list (ls.map fun l => .list (PV.pds l))) := by
  rw [toD_ref, h]
  simp only
  rw [convs_cells (m := 3) hc hd]
  rfl
theorem repr_two {μ : Mem} {n a b : Nat} {la lb : List PV} (h : μ[n]? = some (.lst [.ref a, .ref b])) (ha : μ[a]? = some (.lst la)) (hb : μ[b]? = some (.lst lb)) (ga : Goods 3000 la) (gb : Goods 3000 lb) : fRepr [.ref n] μ = .ok (.str (PyData.list [.list (PV.pds la), .list (PV.pds lb)]).shown) μ := by
  refine repr_ok (toD_cells (ks := [a, b]) (ls := [la, lb]) h ⟨ha, hb, trivial⟩ (by simp [ga.data, gb.data])) (by simp [ga.sm, gb.sm]) (by have := ga.wt; have := gb.wt; simp; omega) (by have := ga.dp; have := gb.dp; simp; omega)
end PL
end
section
set_option autoImplicit false
/-! Bits of numbers that are not below nought. -/
namespace PL
open PySem
theorem bAnd_nat (x y : Nat) : Builtin.bitAnd (x : Int) (y : Int) = ((x &&& y : Nat) : Int) := by
  unfold Builtin.bitAnd
  have h1 : decide ((0 : Int) ≤ x) = true := by simp
  have h2 : decide ((0 : Int) ≤ y) = true := by simp
  rw [h1, h2]; rfl
theorem bOr_nat (x y : Nat) : Builtin.bitOr (x : Int) (y : Int) = ((x ||| y : Nat) : Int) := by
  have := L2.bitOr_nn (x := (x : Int)) (y := (y : Int)) (by omega) (by omega)
  simpa using this
theorem bXor_nat (x y : Nat) : Builtin.bitXor (x : Int) (y : Int) = ((x ^^^ y : Nat) : Int) := by
  have := Bits.bitXor_pp (x := (x : Int)) (y := (y : Int)) (by omega) (by omega)
  simpa using this
theorem fAnd_nat (x y : Nat) (μ : Mem) : fBAnd [.int x, .int y] μ = .ok (.int ((x &&& y : Nat) : Int)) μ := by simp only [fBAnd, bAnd_nat]
theorem fOr_nat (x y : Nat) (μ : Mem) : fBOr [.int x, .int y] μ = .ok (.int ((x ||| y : Nat) : Int)) μ := by simp only [fBOr, bOr_nat]
theorem fXor_nat (x y : Nat) (μ : Mem) : fBXor [.int x, .int y] μ = .ok (.int ((x ^^^ y : Nat) : Int)) μ := by simp only [fBXor, bXor_nat]
theorem shl_nat {x n k : Nat} (h : x < 2 ^ k) (hn : n + k ≤ 134217728) : shlOk x n := by
  unfold shlOk
  have := L2.shl_ok (i := (x : Int)) (j := n) (n := k) (by simpa using h) (by omega)
  exact this
theorem fShl_nat {x n k : Nat} (h : x < 2 ^ k) (hn : n + k ≤ 134217728) (μ : Mem) : fShl [.int x, .int n] μ = .ok (.int ((x <<< n : Nat) : Int)) μ := by
  have hs := shl_nat h hn
  rw [fShl_int, if_pos hs]
  congr 2
  rw [Nat.shiftLeft_eq]
  push_cast
  simp
theorem fShr_nat (x n : Nat) (μ : Mem) : fShr [.int x, .int n] μ = .ok (.int ((x >>> n : Nat) : Int)) μ := by
  have h : fShr [.int (x : Int), .int (n : Int)] μ = if (0 : Int) ≤ n then .ok (.int ((x : Int) / 2 ^ ((n : Int)).toNat)) μ else .stuck := rfl
  rw [h, if_pos (by omega)]
  congr 2
  rw [Nat.shiftRight_eq_div_pow]
  simp
end PL
namespace PL
theorem fExtend_ref {n k : Nat} {l r : List PV} {μ : Mem} (h1 : μ[n]? = some (.lst l)) (h2 : μ[k]? = some (.lst r)) (hne : n ≠ k) (hz : l.length + r.length ≤ SL) : fExtend [.ref n, .ref k] μ = .ok .non (μ.set n (.lst (l ++ r))) := by
  unfold fExtend
  simp [h1, h2, getL, hne, hz]
end PL
end
section
set_option autoImplicit false
namespace PL
open PySem
@[simp] theorem fIsB_ev (a b : Bool) (μ : Mem) : fIsB [.bl a, .bl b] μ = .ok (.bl (decide (a = b))) μ := id rfl
@[simp] theorem fNotB_ev (a b : Bool) (μ : Mem) : fNotB [.bl a, .bl b] μ = .ok (.bl (!decide (a = b))) μ := id rfl
end PL
end
section
set_option autoImplicit false
/-! Dicts by rewriting; what is drawn from, and what stays. -/
namespace PL
open PySem
@[simp] theorem keyOf_int (i : Int) : keyOf (.int i) = some (.inl i) := id rfl
@[simp] theorem keyOf_str (i : Str) : keyOf (.str i) = some (.inr i) := id rfl
@[simp] theorem valD_nil (k : DK) : valD [] k = none := id rfl
@[simp] theorem valD_cons (x : DK × PV) (r : KVs) (k : DK) : valD (x :: r) k = if x.1 = k then some x.2 else valD r k := by
  by_cases h : x.1 = k <;> simp [valD, h]
theorem valD_put (kvs : KVs) (k : DK) (p : PV) (j : DK) : valD (putD kvs k p) j = if k = j then some p else valD kvs j := by
  unfold putD
  split
  · rename_i h
    induction kvs with
    | nil => simp at h
    | cons x r ih =>
      by_cases e : x.1 = k
      · by_cases e2 : k = j
        · simp [e, e2]
        · simp only [List.map_cons, e, if_true, valD_cons, e2, if_false]
          clear ih h
          induction r with
          | nil => rfl
          | cons y r ih => by_cases e3 : y.1 = k
                           · simp [e3, e2, ih]
                           · simp [e3, ih]
      · simp only [List.any_cons, e, decide_false, Bool.false_or] at h
        simp only [List.map_cons, e, if_false, valD_cons, ih h]
        by_cases e2 : x.1 = j
        · have : k ≠ j := fun z => e (e2.trans z.symm)
          simp [e2, this]
        · simp [e2]
  · rename_i h
    induction kvs with
    | nil => simp
    | cons x r ih =>
      rw [List.any_cons, Bool.or_eq_true, not_or, decide_eq_true_eq] at h
      rw [List.cons_append, valD_cons, valD_cons, ih h.2]
      by_cases e2 : x.1 = j
      · have : k ≠ j := fun z => h.1 (e2.trans z.symm)
        simp [e2, this]
      · simp [e2]
@[simp] theorem dctAt_ref (μ : Mem) (n : Nat) : dctAt μ (.ref n) = (match μ[n]? with | some (.dct kvs) => some kvs | _ => none) := id rfl
theorem fDGet_ok {μ : Mem} {n : Nat} {kvs : KVs} {q : PV} {k : DK} {p : PV} (h : μ[n]? = some (.dct kvs)) (hk : keyOf q = some k) (hp : valD kvs k = some p) : fDGet [.ref n, q] μ = .ok p μ := by
  simp [fDGet, h, hk, hp]
theorem fDPut_ok {μ : Mem} {n : Nat} {kvs : KVs} {q : PV} {k : DK} {p : PV} (h : μ[n]? = some (.dct kvs)) (hk : keyOf q = some k) (hl : kvs.length < SL) : fDPut [.ref n, q, p] μ = .ok .non (μ.set n (.dct (putD kvs k p))) := by
  simp [fDPut, h, hk, hl]
@[simp] theorem dput_ev (o i e : Ex) (env : Env) (μ : Mem) : dput o i e env μ = .of (e env μ) fun p μ1 => .of (o env μ1) fun x μ2 => .of (i env μ2) fun y μ3 => .of (fDPut [x, y, p] μ3) fun _ μ4 => .nx env μ4 := id rfl
@[simp] theorem dn_ev (env : Env) (μ : Mem) : dn env μ = .ok [] μ := id rfl
@[simp] theorem dc_ev (k x : Ex) (r : Ap) (env : Env) (μ : Mem) : dc k x r env μ = (k env μ).bind fun p μ1 => (x env μ1).bind fun q μ2 => (r env μ2).bind fun ps μ3 => .ok ((p, q) :: ps) μ3 := id rfl
@[simp] theorem dsp_ev (r : Ap) (env : Env) (μ : Mem) : dsp r env μ = (r env (μ ++ [.dct []])).bind fun ps μ1 => dfin μ.length ps μ1 := id rfl
@[simp] theorem dnew_ev (env : Env) (μ : Mem) : dnew env μ = .ok (.ref μ.length) (μ ++ [.dct []]) := id rfl
@[simp] theorem keysOf_nil : keysOf [] = some [] := id rfl
@[simp] theorem keysOf_str (x : Str) (p : PV) (r : List (PV × PV)) : keysOf ((.str x, p) :: r) = (keysOf r).map fun ks => (.inr x, p) :: ks := by
  simp only [keysOf, keyOf]
  cases keysOf r <;> rfl
/-- what is drawn from: cells that draws change -/
structure Fam where
  cs : List Nat
  top : Nat
  inv : Mem → Prop
  le : ∀ i ∈ cs, i ≤ top
  loc : ∀ m m', inv m → (∀ i ∈ cs, m'[i]? = m[i]?) → inv m'
  lt : ∀ m, inv m → top < m.length
namespace Fam
variable {F : Fam}
/-- drawn from, all else as it was -/
def Go (F : Fam) (m m' : Mem) : Prop := F.inv m' ∧ m.length ≤ m'.length ∧ ∀ i, i ∉ F.cs → i < m.length → m'[i]? = m[i]?
theorem Go.i {m m' : Mem} (h : F.Go m m') : F.inv m' := h.1
theorem Go.len {m m' : Mem} (h : F.Go m m') : m.length ≤ m'.length := h.2.1
theorem Go.lt {m m' : Mem} (h : F.Go m m') : F.top < m'.length := F.lt _ h.1
theorem refl {m : Mem} (h : F.inv m) : F.Go m m := ⟨h, Nat.le_refl _, fun _ _ _ => rfl⟩
theorem Go.trans {x y z : Mem} (h : F.Go x y) (k : F.Go y z) : F.Go x z := ⟨k.1, Nat.le_trans h.2.1 k.2.1, fun i h1 h2 => (k.2.2 i h1 (Nat.lt_of_lt_of_le h2 h.2.1)).trans (h.2.2 i h1 h2)⟩
theorem ext {m m' : Mem} (h : F.inv m) (e : Ext m m') : F.Go m m' := by
  obtain ⟨l, rfl⟩ := e
  refine ⟨F.loc m _ h fun i hi => ?_, by simp, fun i _ hi => List.getElem?_append_left hi⟩
  have := F.le i hi
  have := F.lt m h
  exact List.getElem?_append_left (by omega)
theorem app {m : Mem} (h : F.inv m) (l : Mem) : F.inv (m ++ l) := (ext h (Ext.app m l)).1
theorem go_app {m : Mem} (h : F.inv m) (l : Mem) : F.Go m (m ++ l) := ext h (Ext.app m l)
theorem Go.ext {m m' m'' : Mem} (h : F.Go m m') (e : Ext m' m'') : F.Go m m'' := h.trans (Fam.ext h.1 e)
theorem Go.app {m m' : Mem} (h : F.Go m m') (l : Mem) : F.Go m (m' ++ l) := h.ext (Ext.app _ _)
theorem Go.get {m m' : Mem} (h : F.Go m m') {i : Nat} {o : PO} (e : m[i]? = some o) (hi : F.top < i) : m'[i]? = some o := by
  rw [h.2.2 i (fun hm => by have := F.le i hm; omega) (List.getElem?_eq_some_iff.mp e).1]; exact e
theorem Go.get' {m m' : Mem} (h : F.Go m m') {i : Nat} {o : PO} (e : m[i]? = some o) (hi : i ∉ F.cs) : m'[i]? = some o := by
  rw [h.2.2 i hi (List.getElem?_eq_some_iff.mp e).1]; exact e
/-- a new cell is written -/
theorem Go.set {m m' : Mem} (h : F.Go m m') (hm : F.top < m.length) {k : Nat} (hk : m.length ≤ k) (o : PO) : F.Go m (m'.set k o) := by
  refine ⟨F.loc m' _ h.1 fun i hi => ?_, by simpa using h.2.1, fun i h1 h2 => ?_⟩
  · have := F.le i hi
    exact List.getElem?_set_ne (by omega)
  · rw [List.getElem?_set_ne (by omega)]
    exact h.2.2 i h1 h2
/-- a cell that draws change is written -/
theorem Go.put {m m' : Mem} (h : F.Go m m') {k : Nat} (hk : k ∈ F.cs) {o : PO} (hi : F.inv (m'.set k o)) : F.Go m (m'.set k o) := by
  refine ⟨hi, by simpa using h.2.1, fun i h1 h2 => ?_⟩
  rw [List.getElem?_set_ne (fun e : k = i => h1 (e ▸ hk))]
  exact h.2.2 i h1 h2
theorem Go.take {m m' : Mem} (hp : F.inv m) (h : F.Go m m') : F.Go m (m'.take m.length) := by
  have hl := F.lt m hp
  refine ⟨F.loc m' _ h.1 fun i hi => ?_, by have := h.2.1; simp; omega, fun i h1 h2 => ?_⟩
  · have := F.le i hi
    exact List.getElem?_take_of_lt (by omega)
  · rw [List.getElem?_take_of_lt h2]
    exact h.2.2 i h1 h2
theorem fn_go {n : Nat} {b : Sm} {args : List PV} {μ : Mem} {P : PV → Prop} (hp : F.inv μ) (h : (run n b args μ).sat fun p m => P p ∧ F.Go μ m) : (fn n b args μ).sat fun p m => P p ∧ F.Go μ m := by
  obtain ⟨p, m, e, h1, h2⟩ := rsat_ex h
  rw [fn_ev, e]
  unfold gc
  simp only
  split
  · exact ⟨_, _, rfl, h1, h2.take hp⟩
  · exact ⟨_, _, rfl, h1, h2⟩
end Fam
/-- a dict that is drawn from, with a list of great numbers behind it -/
def jarF (j : Nat) : Fam where
  cs := [j, j + 1]
  top := j + 1
  inv m := ∃ (bs : List Int) (s t : Int), m[j]? = some (.dct [(.inr ("wide" : Str), .ref (j + 1)), (.inr ("stirred" : Str), .int s), (.inr ("times" : Str), .int t)]) ∧ m[j + 1]? = some (.lst (bs.map .int)) ∧ bs.length ≤ 100
  le i hi := by simp at hi; omega
  loc m m' h e := by
    obtain ⟨bs, s, t, h1, h2, h3⟩ := h
    exact ⟨bs, s, t, by rw [e j (by simp)]; exact h1, by rw [e (j + 1) (by simp)]; exact h2, h3⟩
  lt m h := by
    obtain ⟨bs, s, t, h1, h2, h3⟩ := h
    exact (List.getElem?_eq_some_iff.mp h2).1
end PL
end
section
/-! The pure bodies (printed by gen.py). -/
namespace Law
open PySem PL
abbrev K_DROP : PV := .str ("drop" : Str)
abbrev K_FILL : PV := .str ("fill" : Str)
abbrev K_TURN : PV := .str ("turn" : Str)
/- ticks_up: 0 part, 1 is_turned -/
noncomputable def b_ticks_up : Sm :=
  (seq (PL.cond (app2 fEq (app2 fIx (v 0) (c (.int 0))) (c (.str ("on" : Str))))
   (ret (PL.ite (v 1) (app1 fNeg (app2 fIx (v 0) (c (.int 1)))) (app2 fIx (v 0) (c (.int 1)))))
   skip)
  (seq (PL.cond (app2 fEq (app2 fIx (v 0) (c (.int 0))) (c (.str ("off" : Str))))
   (ret (PL.ite (v 1) (app2 fIx (v 0) (c (.int 1))) (app1 fNeg (app2 fIx (v 0) (c (.int 1))))))
   skip)
  (ret (c (.int 0)))))
noncomputable def m_ticks_up : Fn := fn 2 b_ticks_up
/- moves: 0 row, 1 part, 2 found, 3 is_turned -/
noncomputable def b_moves : Sm :=
  (seq (par 2 3 (app fLst an) (c (.bl false)))
  (seq (forS (iVal (v 0)) (tn 1)
   (seq (PL.cond (app2 fEq (app2 fIx (v 1) (c (.int 0))) (c K_TURN))
    (setv 3 (app1 fNot (v 3)))
    skip)
   (PL.exp (mth .list fAppend (v 2) (ac (app m_ticks_up (ac (v 1) (ac (v 3) an))) an)))))
  (ret (app fTup (ac (v 2) (ac (v 3) an))))))
noncomputable def m_moves : Fn := fn 4 b_moves
/- heights: 0 row, 1 move, 2 found, 3 height -/
noncomputable def b_heights : Sm :=
  (seq (par 2 3 (app fLst an) (c (.int 0)))
  (seq (forS (iVal (app2 fIx (app m_moves (ac (v 0) an)) (c (.int 0)))) (tn 1)
   (seq (setv 3 (app2 fAdd (v 3) (v 1)))
   (PL.exp (mth .list fAppend (v 2) (ac (v 3) an)))))
  (ret (app fTuple (ac (v 2) an)))))
noncomputable def m_heights : Fn := fn 4 b_heights
/- with_stage: 0 found, 1 word, 2 number -/
noncomputable def b_with_stage : Sm :=
  (seq (PL.cond (PL.and (app2 fNe (v 0) (app fLst an)) (app2 fEq (app2 fIx (app2 fIx (v 0) (app1 fNeg (c (.int 1)))) (c (.int 0))) (v 1)))
   (ret (app2 fAdd (sl (v 0) (c .non) (app1 fPart (app1 fNeg (c (.int 1))))) (app fLst (ac (app fTup (ac (v 1) (ac (v 2) an))) an))))
   skip)
  (ret (app2 fAdd (v 0) (app fLst (ac (app fTup (ac (v 1) (ac (v 2) an))) an)))))
noncomputable def m_with_stage : Fn := fn 3 b_with_stage
/- stages_beyond: 0 row, 1 high, 2 depth, 3 found, 4 height -/
noncomputable def b_stages_beyond : Sm :=
  (seq (setv 3 (app fLst an))
  (seq (forS (iVal (app m_heights (ac (v 0) an))) (tn 4)
   (PL.cond (app2 fGt (v 4) (v 1))
    (seq (setv 1 (v 4))
    (setv 3 (app m_with_stage (ac (v 3) (ac (c K_DROP) (ac (v 1) an))))))
    (PL.cond (app2 fGt (app1 fNeg (v 4)) (v 2))
     (seq (setv 2 (app1 fNeg (v 4)))
     (setv 3 (app m_with_stage (ac (v 3) (ac (c K_FILL) (ac (v 2) an))))))
     skip)))
  (ret (app fTuple (ac (v 3) an)))))
noncomputable def m_stages_beyond : Fn := fn 5 b_stages_beyond
/- form_beyond: 0 row, 1 high, 2 depth, 3 delays, 4 late_on, 5 late_off, 6 ways, 7 is_turned, 8 part, 9 way -/
noncomputable def b_form_beyond : Sm :=
  (seq (asg (tt 2 (tc (tn 6) (tc (tn 7) t0))) (app m_moves (ac (v 0) an)))
  (seq (setv 3 (app fSum (ac (lc (iVal (v 0)) (tn 8) (app2 fEq (app2 fIx (v 8) (c (.int 0))) (c (.str ("delay" : Str)))) (app2 fIx (v 8) (c (.int 1))) [8]) an)))
  (seq (setv 4 (app2 fAdd (v 3) (app fSum (ac (lc (iVal (v 6)) (tn 9) (app2 fGt (v 9) (c (.int 0))) (v 9) [9]) an))))
  (seq (setv 5 (app2 fSub (v 3) (app fSum (ac (lc (iVal (v 6)) (tn 9) (app2 fLt (v 9) (c (.int 0))) (v 9) [9]) an))))
  (ret (app fTup (ac (v 7) (ac (v 4) (ac (v 5) (ac (app m_stages_beyond (ac (v 0) (ac (v 1) (ac (v 2) an)))) an))))))))))
noncomputable def m_form_beyond : Fn := fn 10 b_form_beyond
/- form_for: 0 row, 1 ons, 2 offs -/
noncomputable def b_form_for : Sm :=
  (ret (app m_form_beyond (ac (v 0) (ac (app2 fSub (v 1) (c (.int 1))) (ac (app2 fSub (v 2) (c (.int 1))) an)))))
noncomputable def m_form_for : Fn := fn 3 b_form_for
/- alike_for: 0 one, 1 other, 2 ons, 3 offs -/
noncomputable def b_alike_for : Sm :=
  (ret (app2 fEq (app m_form_for (ac (v 0) (ac (v 2) (ac (v 3) an)))) (app m_form_for (ac (v 1) (ac (v 2) (ac (v 3) an))))))
noncomputable def m_alike_for : Fn := fn 4 b_alike_for
/- most_of: 0 steps, 1 word, 2 own, 3 number -/
noncomputable def b_most_of : Sm :=
  (ret (app fMax (ac (app fLst (ac (c (.int 0)) (acs (lc (iVal (v 0)) (tt 2 (tc (tn 2) (tc (tn 3) t0))) (app2 fEq (v 2) (v 1)) (v 3) [2, 3]) an))) an)))
noncomputable def m_most_of : Fn := fn 4 b_most_of
/- ahead_of: 0 steps, 1 word, 2 bound, 3 place, 4 own, 5 number -/
noncomputable def b_ahead_of : Sm :=
  (seq (forS (iEnum (v 0)) (tt 2 (tc (tn 3) (tc (tt 2 (tc (tn 4) (tc (tn 5) t0))) t0)))
   (PL.cond (PL.and (app2 fEq (v 4) (v 1)) (app2 fGt (v 5) (v 2)))
    (ret (sl (v 0) (c .non) (app1 fPart (v 3))))
    skip))
  (ret (v 0)))
noncomputable def m_ahead_of : Fn := fn 6 b_ahead_of
/- filled_ahead: 0 steps, 1 k -/
noncomputable def b_filled_ahead : Sm :=
  (ret (app m_most_of (ac (app m_ahead_of (ac (v 0) (ac (c K_DROP) (ac (v 1) an)))) (ac (c K_FILL) an))))
noncomputable def m_filled_ahead : Fn := fn 2 b_filled_ahead
/- dropped_ahead: 0 steps, 1 l -/
noncomputable def b_dropped_ahead : Sm :=
  (ret (app m_most_of (ac (app m_ahead_of (ac (v 0) (ac (c K_FILL) (ac (v 1) an)))) (ac (c K_DROP) an))))
noncomputable def m_dropped_ahead : Fn := fn 2 b_dropped_ahead
/- bounds_in: 0 one, 1 other, 2 word, 3 number -/
noncomputable def b_bounds_in : Sm :=
  (ret (app2 fAdd (app fLst (ac (c (.int 0)) an)) (lc (iVal (app2 fAdd (v 0) (v 1))) (tt 2 (tc (tn 2) (tc (tn 3) t0))) yes (v 3) [2, 3])))
noncomputable def m_bounds_in : Fn := fn 4 b_bounds_in
/- is_low: 0 one, 1 other, 2 bound -/
noncomputable def b_is_low : Sm :=
  (seq (forS (iVal (app m_bounds_in (ac (v 0) (ac (v 1) an)))) (tn 2)
   (seq (PL.cond (app2 fGt (app m_filled_ahead (ac (v 0) (ac (v 2) an))) (app m_filled_ahead (ac (v 1) (ac (v 2) an))))
    (ret (c (.bl false)))
    skip)
   (PL.cond (app2 fLt (app m_dropped_ahead (ac (v 0) (ac (v 2) an))) (app m_dropped_ahead (ac (v 1) (ac (v 2) an))))
    (ret (c (.bl false)))
    skip)))
  (ret (c (.bl true))))
noncomputable def m_is_low : Fn := fn 3 b_is_low
/- cores_within: 0 one, 1 other -/
noncomputable def b_cores_within : Sm :=
  (ret (PL.and (app2 fGe (app2 fIx (v 0) (c (.int 1))) (app2 fIx (v 1) (c (.int 1)))) (PL.and (app2 fLe (app2 fIx (v 0) (c (.int 2))) (app2 fIx (v 1) (c (.int 2)))) (app m_is_low (ac (app2 fIx (v 0) (c (.int 3))) (ac (app2 fIx (v 1) (c (.int 3))) an))))))
noncomputable def m_cores_within : Fn := fn 2 b_cores_within
/- forms_within: 0 one, 1 other -/
noncomputable def b_forms_within : Sm :=
  (seq (PL.cond (app2 fNe (app2 fIx (v 0) (c (.int 0))) (app2 fIx (v 1) (c (.int 0))))
   (ret (c (.bl false)))
   skip)
  (ret (PL.ite (app2 fIx (v 0) (c (.int 0))) (app m_cores_within (ac (v 1) (ac (v 0) an))) (app m_cores_within (ac (v 0) (ac (v 1) an))))))
noncomputable def m_forms_within : Fn := fn 2 b_forms_within
/- within_for: 0 one, 1 other, 2 ons, 3 offs -/
noncomputable def b_within_for : Sm :=
  (ret (app m_forms_within (ac (app m_form_for (ac (v 0) (ac (v 2) (ac (v 3) an)))) (ac (app m_form_for (ac (v 1) (ac (v 2) (ac (v 3) an)))) an))))
noncomputable def m_within_for : Fn := fn 4 b_within_for
/- _law_jar: 0 script, 1 cell, 2 cells, 3 stirred -/
noncomputable def b__law_jar : Sm :=
  (seq (par 2 3 (lc (iVal (sl (v 0) (c .non) (app1 fPart (c (.int 63))))) (tn 1) yes (app2 fAdd (app2 fMul (c (.int 3)) (app fAbs (ac (v 1) an))) (app fInt (ac (app2 fLt (v 1) (c (.int 0))) an))) [1]) (app2 fAdd (c (.int 6007)) (app2 fMul (c (.int 5)) (app fLen (ac (v 0) an)))))
  (seq (forS (iVal (v 2)) (tn 1)
   (setv 3 (app2 fMod (app fInt (ac (app2 fAdd (app2 fAdd (app2 fMul (v 3) (c (.int 48271))) (v 1)) (c (.int 3))) an)) (c (.int 4294967279)))))
  (ret (dsp (dc (c (.str ("wide" : Str))) (lc (iVal (v 2)) (tn 1) (app2 fGe (v 1) (app2 fPow (c (.int 10)) (c (.int 17)))) (v 1) [1]) (dc (c (.str ("stirred" : Str))) (v 3) (dc (c (.str ("times" : Str))) (c (.int 0)) dn)))))))
noncomputable def m__law_jar : Fn := fn 4 b__law_jar
/- _law_draw: 0 jar, 1 many, 2 wide, 3 one, 4 cell -/
noncomputable def b__law_draw : Sm :=
  (seq (setv 2 (app2 fDGet (v 0) (c (.str ("wide" : Str)))))
  (seq (PL.cond (app2 fLt (v 1) (c (.int 2)))
   (ret (c (.int 0)))
   skip)
  (seq (PL.cond (app2 fNe (v 2) (app fLst an))
   (seq (setv 4 (mth .list fPop (v 2) an))
   (seq (PL.cond (app2 fGe (v 4) (v 1))
    (PL.exp (mth .list fAppend (v 2) (ac (app2 fDiv (v 4) (v 1)) an)))
    skip)
   (ret (app2 fMod (app fInt (ac (v 4) an)) (v 1)))))
   skip)
  (seq (dput (v 0) (c (.str ("times" : Str))) (app2 fAdd (app2 fDGet (v 0) (c (.str ("times" : Str)))) (c (.int 1))))
  (seq (setv 3 (app2 fMod (app fInt (ac (app2 fAdd (app2 fDGet (v 0) (c (.str ("stirred" : Str)))) (app2 fMul (c (.int 2246822519)) (app2 fDGet (v 0) (c (.str ("times" : Str)))))) an)) (c (.int 4294967291))))
  (seq (setv 3 (app2 fMod (app fInt (ac (app2 fAdd (app2 fAdd (app2 fMul (v 3) (v 3)) (app2 fMul (c (.int 69621)) (app2 fDGet (v 0) (c (.str ("times" : Str)))))) (c (.int 29))) an)) (c (.int 4294967279))))
  (seq (setv 3 (app2 fMod (app fInt (ac (app2 fAdd (app2 fMul (v 3) (v 3)) (app2 fDGet (v 0) (c (.str ("stirred" : Str))))) an)) (c (.int 4294967231))))
  (ret (app2 fMod (app fInt (ac (app2 fDiv (v 3) (c (.int 64))) an)) (v 1))))))))))
noncomputable def m__law_draw : Fn := fn 5 b__law_draw
/- _law_turned: 0 runs, 1 found, 2 one, 3 other -/
noncomputable def b__law_turned : Sm :=
  (seq (PL.cond (app2 fEq (v 0) (app fLst an))
   (ret (app fLst (ac (app fTup (ac (c .non) (ac (c .non) an))) an)))
   skip)
  (seq (setv 1 (PL.ite (app2 fNotN (app2 fIx (app2 fIx (v 0) (c (.int 0))) (c (.int 0))) (c .non)) (app fLst (ac (app fTup (ac (c .non) (ac (app2 fIx (app2 fIx (v 0) (c (.int 0))) (c (.int 0))) an))) an)) (app fLst an)))
  (seq (setv 1 (app2 fAdd (v 1) (lc (iZip (v 0) (sl (v 0) (app1 fPart (c (.int 1))) (c .non))) (tt 2 (tc (tn 2) (tc (tn 3) t0))) yes (app fTup (ac (app2 fIx (v 2) (c (.int 1))) (ac (app2 fIx (v 3) (c (.int 0))) an))) [2, 3])))
  (ret (PL.ite (app2 fNotN (app2 fIx (app2 fIx (v 0) (app1 fNeg (c (.int 1)))) (c (.int 1))) (c .non)) (app2 fAdd (v 1) (app fLst (ac (app fTup (ac (app2 fIx (app2 fIx (v 0) (app1 fNeg (c (.int 1)))) (c (.int 1))) (ac (c .non) an))) an))) (v 1))))))
noncomputable def m__law_turned : Fn := fn 4 b__law_turned
/- _law_part: 0 part, 1 runs, 2 found, 3 low, 4 high -/
noncomputable def b__law_part : Sm :=
  (seq (PL.cond (app2 fEq (app2 fIx (v 0) (c (.int 0))) (c (.str ("turn" : Str))))
   (ret (app m__law_turned (ac (v 1) an)))
   skip)
  (seq (setv 2 (app fLst an))
  (seq (forS (iVal (v 1)) (tt 2 (tc (tn 3) (tc (tn 4) t0)))
   (seq (PL.cond (PL.and (app2 fNe (app2 fIx (v 0) (c (.int 0))) (c (.str ("off" : Str)))) (app2 fNotN (v 3) (c .non)))
    (setv 3 (app2 fAdd (v 3) (app2 fIx (v 0) (c (.int 1)))))
    skip)
   (seq (PL.cond (PL.and (app2 fNe (app2 fIx (v 0) (c (.int 0))) (c (.str ("on" : Str)))) (app2 fNotN (v 4) (c .non)))
    (setv 4 (app2 fAdd (v 4) (app2 fIx (v 0) (c (.int 1)))))
    skip)
   (PL.cond (PL.and (app2 fNotN (v 3) (c .non)) (PL.and (app2 fNe (v 2) (app fLst an)) (app2 fGe (app2 fIx (app2 fIx (v 2) (app1 fNeg (c (.int 1)))) (c (.int 1))) (v 3))))
    (asg (tsub fSet (v 2) (app1 fNeg (c (.int 1)))) (app fTup (ac (app2 fIx (app2 fIx (v 2) (app1 fNeg (c (.int 1)))) (c (.int 0))) (ac (v 4) an))))
    (PL.cond (PL.or (app2 fIsN (v 3) (c .non)) (PL.or (app2 fIsN (v 4) (c .non)) (app2 fLt (v 3) (v 4))))
     (PL.exp (mth .list fAppend (v 2) (ac (app fTup (ac (v 3) (ac (v 4) an))) an)))
     skip)))))
  (ret (v 2)))))
noncomputable def m__law_part : Fn := fn 5 b__law_part
/- _law_led: 0 row, 1 runs, 2 found, 3 part -/
noncomputable def b__law_led : Sm :=
  (seq (setv 2 (v 1))
  (seq (forS (iVal (v 0)) (tn 3)
   (setv 2 (app m__law_part (ac (v 3) (ac (v 2) an)))))
  (ret (v 2))))
noncomputable def m__law_led : Fn := fn 4 b__law_led
/- _law_signal: 0 jar, 1 ons, 2 offs, 3 most, 4 alike, 5 turn, 6 tick, 7 found, 8 on, 9 off -/
noncomputable def b__law_signal : Sm :=
  (seq (par 6 7 (app2 fSub (app m__law_draw (ac (v 0) (ac (c (.int 9)) an))) (c (.int 4))) (app fLst an))
  (seq (setv 4 (app2 fEq (app m__law_draw (ac (v 0) (ac (c (.int 3)) an))) (c (.int 0))))
  (seq (par 8 9 (app2 fAdd (v 1) (app m__law_draw (ac (v 0) (ac (v 3) an)))) (app2 fAdd (v 2) (app m__law_draw (ac (v 0) (ac (v 3) an)))))
  (seq (forS (iRng1 (app m__law_draw (ac (v 0) (ac (c (.int 6)) an)))) (tn 5)
   (seq (PL.cond (app1 fNot (v 4))
    (par 8 9 (app2 fAdd (v 1) (app m__law_draw (ac (v 0) (ac (v 3) an)))) (app2 fAdd (v 2) (app m__law_draw (ac (v 0) (ac (v 3) an)))))
    skip)
   (seq (PL.exp (mth .list fAppend (v 7) (ac (app fTup (ac (v 6) (ac (app2 fAdd (v 6) (v 8)) an))) an)))
   (setv 6 (app2 fAdd (app2 fAdd (v 6) (v 8)) (v 9))))))
  (seq (PL.cond (PL.and (app2 fNe (v 7) (app fLst an)) (app2 fEq (app m__law_draw (ac (v 0) (ac (c (.int 3)) an))) (c (.int 0))))
   (asg (tsub fSet (v 7) (c (.int 0))) (app fTup (ac (c .non) (ac (app2 fIx (app2 fIx (v 7) (c (.int 0))) (c (.int 1))) an))))
   skip)
  (seq (PL.cond (PL.and (app2 fNe (v 7) (app fLst an)) (app2 fEq (app m__law_draw (ac (v 0) (ac (c (.int 3)) an))) (c (.int 0))))
   (asg (tsub fSet (v 7) (app1 fNeg (c (.int 1)))) (app fTup (ac (app2 fIx (app2 fIx (v 7) (app1 fNeg (c (.int 1)))) (c (.int 0))) (ac (c .non) an))))
   skip)
  (ret (v 7))))))))
noncomputable def m__law_signal : Fn := fn 10 b__law_signal
/- _law_is_in: 0 runs, 1 others, 2 low, 3 high, 4 is_fit, 5 a, 6 b -/
noncomputable def b__law_is_in : Sm :=
  (seq (forS (iVal (v 0)) (tt 2 (tc (tn 2) (tc (tn 3) t0)))
   (seq (setv 4 (c (.bl false)))
   (seq (forS (iVal (v 1)) (tt 2 (tc (tn 5) (tc (tn 6) t0)))
    (PL.cond (PL.and (PL.or (app2 fIsN (v 5) (c .non)) (PL.and (app2 fNotN (v 2) (c .non)) (app2 fLe (v 5) (v 2)))) (PL.or (app2 fIsN (v 6) (c .non)) (PL.and (app2 fNotN (v 3) (c .non)) (app2 fLe (v 3) (v 6)))))
     (setv 4 (c (.bl true)))
     skip))
   (PL.cond (app1 fNot (v 4))
    (ret (c (.bl false)))
    skip))))
  (ret (c (.bl true))))
noncomputable def m__law_is_in : Fn := fn 7 b__law_is_in
/- _law_ticks: 0 row, 1 part -/
noncomputable def b__law_ticks : Sm :=
  (ret (app fSum (ac (lc (iVal (v 0)) (tn 1) (app2 fIn (app2 fIx (v 1) (c (.int 0))) (app fTup (ac (c (.str ("on" : Str))) (ac (c (.str ("off" : Str))) an)))) (app2 fIx (v 1) (c (.int 1))) [1]) an)))
noncomputable def m__law_ticks : Fn := fn 2 b__law_ticks
/- _law_trials: 0 ons, 1 offs, 2 most, 3 found, 4 off, 5 on, 6 train -/
noncomputable def b__law_trials : Sm :=
  (seq (setv 3 (app fLst (ac (app fLst an) (ac (app fLst (ac (app fTup (ac (c .non) (ac (c .non) an))) an)) (ac (app fLst (ac (app fTup (ac (c (.int 0)) (ac (c .non) an))) an)) (ac (app fLst (ac (app fTup (ac (c .non) (ac (c (.int 0)) an))) an)) an))))))
  (seq (forS (iRng2w (v 1) (app2 fAdd (v 2) (c (.int 2)))) (tn 4)
   (PL.exp (mth .list fAppend (v 3) (ac (app fLst (ac (app fTup (ac (c .non) (ac (c (.int 0)) an))) (ac (app fTup (ac (v 4) (ac (c .non) an))) an))) an))))
  (seq (forS (iRng2w (v 0) (app2 fAdd (v 2) (c (.int 2)))) (tn 5)
   (seq (PL.exp (mth .list fAppend (v 3) (ac (app fLst (ac (app fTup (ac (c (.int 0)) (ac (v 5) an))) an)) an)))
   (forS (iRng2w (v 1) (app2 fAdd (v 2) (c (.int 2)))) (tn 4)
    (seq (setv 6 (app fLst (ac (app fTup (ac (c (.int 0)) (ac (v 5) an))) (ac (app fTup (ac (app2 fAdd (v 5) (v 4)) (ac (app2 fAdd (app2 fMul (c (.int 2)) (v 5)) (v 4)) an))) an))))
    (seq (whileS (app2 fLe (app2 fIx (app2 fIx (v 6) (app1 fNeg (c (.int 1)))) (c (.int 1))) (v 2))
     (PL.exp (mth .list fAppend (v 6) (ac (app fTup (ac (app2 fAdd (app2 fIx (app2 fIx (v 6) (app1 fNeg (c (.int 1)))) (c (.int 1))) (v 4)) (ac (app2 fAdd (app2 fAdd (app2 fIx (app2 fIx (v 6) (app1 fNeg (c (.int 1)))) (c (.int 1))) (v 4)) (v 5)) an))) an))))
    (PL.exp (mth .list fAppend (v 3) (ac (v 6) an))))))))
  (ret (v 3)))))
noncomputable def m__law_trials : Fn := fn 7 b__law_trials
/- _law_is_within: 0 one, 1 other, 2 ons, 3 offs, 4 runs -/
noncomputable def b__law_is_within : Sm :=
  (seq (forS (iVal (app m__law_trials (ac (v 2) (ac (v 3) (ac (app fMax (ac (app m__law_ticks (ac (v 0) an)) (ac (app m__law_ticks (ac (v 1) an)) an))) an))))) (tn 4)
   (PL.cond (app1 fNot (app m__law_is_in (ac (app m__law_led (ac (v 0) (ac (v 4) an))) (ac (app m__law_led (ac (v 1) (ac (v 4) an))) an))))
    (ret (c (.bl false)))
    skip))
  (ret (c (.bl true))))
noncomputable def m__law_is_within : Fn := fn 5 b__law_is_within
/- _law_pick: 0 jar, 1 items -/
noncomputable def b__law_pick : Sm :=
  (ret (app2 fIx (v 1) (app m__law_draw (ac (v 0) (ac (app fLen (ac (v 1) an)) an)))))
noncomputable def m__law_pick : Fn := fn 2 b__law_pick
/- _law_row: 0 jar, 1 many, 2 most, 3 turns, 4 turn, 5 words, 6 found -/
noncomputable def b__law_row : Sm :=
  (seq (par 5 6 (app m__law_pick (ac (v 0) (ac (app fLst (ac (app fLst (ac (c (.str ("on" : Str))) (ac (c (.str ("off" : Str))) an))) (ac (app fLst (ac (c (.str ("on" : Str))) (ac (c (.str ("off" : Str))) an))) (ac (app fLst (ac (c (.str ("on" : Str))) (ac (c (.str ("off" : Str))) (ac (c (.str ("delay" : Str))) an)))) (ac (app fLst (ac (c (.str ("on" : Str))) an)) (ac (app fLst (ac (c (.str ("off" : Str))) an)) an)))))) an))) (app fLst an))
  (seq (forS (iRng1 (app m__law_draw (ac (v 0) (ac (app2 fAdd (v 1) (c (.int 1))) an)))) (tn 4)
   (PL.cond (PL.and (app2 fGt (v 3) (c (.int 0))) (app2 fEq (app m__law_draw (ac (v 0) (ac (v 3) an))) (c (.int 0))))
    (PL.exp (mth .list fAppend (v 6) (ac (app fTup (ac (c (.str ("turn" : Str))) an)) an)))
    (PL.exp (mth .list fAppend (v 6) (ac (app fTup (ac (app m__law_pick (ac (v 0) (ac (v 5) an))) (ac (app m__law_pick (ac (v 0) (ac (app fLst (ac (c (.int 0)) (ac (c (.int 1)) (ac (c (.int 1)) (ac (c (.int 2)) (ac (c (.int 2)) (ac (c (.int 3)) (ac (v 2) (ac (app m__law_draw (ac (v 0) (ac (app2 fAdd (v 2) (c (.int 1))) an))) an))))))))) an))) an))) an)))))
  (ret (app fTuple (ac (v 6) an)))))
noncomputable def m__law_row : Fn := fn 7 b__law_row
/- _law_near: 0 jar, 1 row, 2 most, 3 at, 4 way -/
noncomputable def b__law_near : Sm :=
  (seq (par 3 4 (app m__law_draw (ac (v 0) (ac (app2 fAdd (app fLen (ac (v 1) an)) (c (.int 1))) an))) (app m__law_draw (ac (v 0) (ac (c (.int 7)) an))))
  (seq (PL.cond (PL.or (app2 fEq (v 4) (c (.int 0))) (app2 fEq (v 1) (app fTup an)))
   (ret (app m__law_row (ac (v 0) (ac (c (.int 4)) (ac (v 2) (ac (c (.int 6)) an))))))
   skip)
  (seq (PL.cond (app2 fEq (v 4) (c (.int 1)))
   (ret (app2 fAdd (sl (v 1) (c .non) (app1 fPart (v 3))) (sl (v 1) (app1 fPart (app2 fAdd (v 3) (c (.int 1)))) (c .non))))
   skip)
  (seq (PL.cond (app2 fEq (v 4) (c (.int 2)))
   (ret (app2 fAdd (app2 fAdd (sl (v 1) (c .non) (app1 fPart (v 3))) (app fTup (ac (app fTup (ac (app m__law_pick (ac (v 0) (ac (app fLst (ac (c (.str ("on" : Str))) (ac (c (.str ("off" : Str))) (ac (c (.str ("delay" : Str))) an)))) an))) (ac (app m__law_draw (ac (v 0) (ac (c (.int 3)) an))) an))) an))) (sl (v 1) (app1 fPart (v 3)) (c .non))))
   skip)
  (seq (PL.cond (app2 fEq (v 4) (c (.int 3)))
   (ret (app2 fAdd (app2 fAdd (sl (v 1) (c .non) (app1 fPart (v 3))) (app1 fRevL (sl (v 1) (app1 fPart (v 3)) (app1 fPart (app2 fAdd (v 3) (c (.int 2))))))) (sl (v 1) (app1 fPart (app2 fAdd (v 3) (c (.int 2)))) (c .non))))
   skip)
  (seq (setv 3 (app fMin (ac (v 3) (ac (app2 fSub (app fLen (ac (v 1) an)) (c (.int 1))) an))))
  (seq (PL.cond (PL.and (app2 fEq (v 4) (c (.int 4))) (app2 fNe (app2 fIx (app2 fIx (v 1) (v 3)) (c (.int 0))) (c (.str ("turn" : Str)))))
   (ret (app2 fAdd (app2 fAdd (sl (v 1) (c .non) (app1 fPart (v 3))) (app fTup (ac (app fTup (ac (app2 fIx (app2 fIx (v 1) (v 3)) (c (.int 0))) (ac (app fMax (ac (c (.int 0)) (ac (app2 fSub (app2 fAdd (app2 fIx (app2 fIx (v 1) (v 3)) (c (.int 1))) (app m__law_draw (ac (v 0) (ac (c (.int 3)) an)))) (c (.int 1))) an))) an))) an))) (sl (v 1) (app1 fPart (app2 fAdd (v 3) (c (.int 1)))) (c .non))))
   skip)
  (seq (PL.cond (PL.and (app2 fEq (v 4) (c (.int 5))) (app2 fNe (app2 fIx (app2 fIx (v 1) (v 3)) (c (.int 0))) (c (.str ("turn" : Str)))))
   (ret (app2 fAdd (app2 fAdd (sl (v 1) (c .non) (app1 fPart (v 3))) (app fTup (ac (app fTup (ac (app2 fIx (app2 fIx (v 1) (v 3)) (c (.int 0))) (ac (app2 fDiv (app2 fIx (app2 fIx (v 1) (v 3)) (c (.int 1))) (c (.int 2))) an))) (ac (app fTup (ac (app2 fIx (app2 fIx (v 1) (v 3)) (c (.int 0))) (ac (app2 fSub (app2 fIx (app2 fIx (v 1) (v 3)) (c (.int 1))) (app2 fDiv (app2 fIx (app2 fIx (v 1) (v 3)) (c (.int 1))) (c (.int 2)))) an))) an)))) (sl (v 1) (app1 fPart (app2 fAdd (v 3) (c (.int 1)))) (c .non))))
   skip)
  (ret (app2 fAdd (v 1) (sl (app fTup (ac (app fTup (ac (c (.str ("on" : Str))) (ac (c (.int 1)) an))) (ac (app fTup (ac (c (.str ("off" : Str))) (ac (c (.int 1)) an))) an))) (c .non) (app1 fPart (app m__law_draw (ac (v 0) (ac (c (.int 3)) an)))))))))))))))
noncomputable def m__law_near : Fn := fn 5 b__law_near
/- _law_pair: 0 jar, 1 one, 2 other -/
noncomputable def b__law_pair : Sm :=
  (seq (setv 1 (app m__law_row (ac (v 0) (ac (c (.int 4)) (ac (c (.int 3)) (ac (app m__law_pick (ac (v 0) (ac (app fLst (ac (c (.int 0)) (ac (c (.int 0)) (ac (c (.int 3)) an)))) an))) an))))))
  (seq (whileS (app2 fGt (app m__law_ticks (ac (v 1) an)) (c (.int 7)))
   (setv 1 (sl (v 1) (app1 fPart (c (.int 1))) (c .non))))
  (seq (setv 2 (app m__law_near (ac (v 0) (ac (v 1) (ac (c (.int 2)) an)))))
  (seq (whileS (app2 fGt (app m__law_ticks (ac (v 2) an)) (c (.int 8)))
   (setv 2 (sl (v 2) (app1 fPart (c (.int 1))) (c .non))))
  (ret (PL.ite (app2 fEq (app m__law_draw (ac (v 0) (ac (c (.int 2)) an))) (c (.int 0))) (app fTup (ac (v 1) (ac (v 2) an))) (app fTup (ac (v 2) (ac (v 1) an)))))))))
noncomputable def m__law_pair : Fn := fn 3 b__law_pair
/- _law_swapped: 0 jar, 1 one, 2 drop, 3 fill -/
noncomputable def b__law_swapped : Sm :=
  (seq (par 2 3 (app2 fAdd (c (.int 1)) (app m__law_draw (ac (v 0) (ac (c (.int 2)) an)))) (app2 fAdd (c (.int 1)) (app m__law_draw (ac (v 0) (ac (c (.int 2)) an)))))
  (seq (setv 1 (app fTup (ac (app fTup (ac (c (.str ("on" : Str))) (ac (v 2) an))) (ac (app fTup (ac (c (.str ("off" : Str))) (ac (app2 fAdd (v 2) (v 3)) an))) (ac (app fTup (ac (c (.str ("on" : Str))) (ac (v 3) an))) an)))))
  (ret (app fTup (ac (v 1) (ac (app fTup (ac (app fTup (ac (c (.str ("off" : Str))) (ac (v 3) an))) (ac (app fTup (ac (c (.str ("on" : Str))) (ac (app2 fAdd (v 2) (v 3)) an))) (ac (app fTup (ac (c (.str ("off" : Str))) (ac (v 2) an))) an)))) an))))))
noncomputable def m__law_swapped : Fn := fn 4 b__law_swapped
/- law: 0 script, 1 jar, 2 turn, 3 seen, 4 back, 5 again, 6 one, 7 other, 8 ons, 9 offs, 10 due, 11 kept, 12 runs -/
noncomputable def b_law : Sm :=
  (seq (setv 1 (app m__law_jar (ac (v 0) an)))
  (seq (forS (iRng1 (c (.int 3))) (tn 2)
   (seq (asg (tt 2 (tc (tn 6) (tc (tn 7) t0))) (app m__law_pair (ac (v 1) an)))
   (seq (PL.cond (app2 fEq (app m__law_draw (ac (v 1) (ac (c (.int 4)) an))) (c (.int 0)))
    (asg (tt 2 (tc (tn 6) (tc (tn 7) t0))) (app m__law_swapped (ac (v 1) an)))
    skip)
   (seq (par 8 9 (app2 fAdd (c (.int 1)) (app m__law_draw (ac (v 1) (ac (c (.int 4)) an)))) (app2 fAdd (c (.int 1)) (app m__law_draw (ac (v 1) (ac (c (.int 4)) an)))))
   (seq (par 10 11 (app m__law_is_within (ac (v 6) (ac (v 7) (ac (v 8) (ac (v 9) an))))) (app fRepr (ac (app fLst (ac (v 6) (ac (v 7) an))) an)))
   (seq (setv 3 (PL.ite (app2 fEq (v 2) (c (.int 1))) (callK m_within_for [3, 2, 1, 0] an (ac (v 9) (ac (v 8) (ac (v 7) (ac (v 6) an))))) (app m_within_for (ac (v 6) (ac (v 7) (ac (v 8) (ac (v 9) an)))))))
   (seq (PL.cond (PL.or (app2 fNe (app fRepr (ac (v 3) an)) (app fRepr (ac (v 10) an))) (app2 fNe (app fRepr (ac (app fLst (ac (v 6) (ac (v 7) an))) an)) (v 11)))
    (ret (c (.bl false)))
    skip)
   (seq (setv 4 (app m_within_for (ac (v 7) (ac (v 6) (ac (v 8) (ac (v 9) an))))))
   (seq (PL.cond (app2 fNe (app fRepr (ac (v 4) an)) (app fRepr (ac (app m__law_is_within (ac (v 7) (ac (v 6) (ac (v 8) (ac (v 9) an))))) an)))
    (ret (c (.bl false)))
    skip)
   (seq (PL.cond (app2 fNe (app fRepr (ac (app m_alike_for (ac (v 6) (ac (v 7) (ac (v 8) (ac (v 9) an))))) an)) (app fRepr (ac (PL.and (v 10) (v 4)) an)))
    (ret (c (.bl false)))
    skip)
   (seq (forS (iRng1 (PL.ite (v 10) (c (.int 5)) (c (.int 0)))) (tn 5)
    (seq (setv 12 (app m__law_signal (ac (v 1) (ac (v 8) (ac (v 9) (ac (c (.int 5)) an))))))
    (PL.cond (app1 fNot (app m__law_is_in (ac (app m__law_led (ac (v 6) (ac (v 12) an))) (ac (app m__law_led (ac (v 7) (ac (v 12) an))) an))))
     (ret (c (.bl false)))
     skip)))
   (PL.cond (PL.and (v 10) (app2 fNotB (app m_within_for (ac (v 6) (ac (v 7) (ac (app2 fAdd (v 8) (app m__law_draw (ac (v 1) (ac (c (.int 3)) an)))) (ac (app2 fAdd (v 9) (app m__law_draw (ac (v 1) (ac (c (.int 3)) an)))) an))))) (c (.bl true))))
    (ret (c (.bl false)))
    skip))))))))))))
  (ret (c (.bl true)))))
noncomputable def m_law : Fn := fn 13 b_law
end Law
end
section
set_option Elab.async false
set_option linter.all false
set_option maxRecDepth 100000
set_option maxHeartbeats 4000000
/-! The walk (printed by gen.py). -/
namespace Law
open PySem PySem.Spec PyProof.Rows L2 PL
def top (i : Nat) : Stmt := PySem.Challenge.pw_latewires_k34_whole_within_for_promised.main.body.getD i (.Pass ⟨0, 0, 0, 0⟩)
abbrev s_ticks_up : Stmt := top 4
abbrev N_ticks_up : List Str := ["part", "is_turned"]
theorem sc_ticks_up : FnScope N_ticks_up ["part", "is_turned"] (defScope s_ticks_up) := ⟨rfl, rfl, rfl, by decide +kernel, rfl, by decide +kernel, by decide +kernel⟩
theorem bd_ticks_up : Bd "ticks_up" s_ticks_up ["part", "is_turned"] := fun _ _ _ _ _ _ _ us hl => match us, hl with | [_, _], _ => rfl
abbrev s_moves : Stmt := top 5
abbrev N_moves : List Str := ["row", "part", "found", "is_turned"]
theorem sc_moves : FnScope N_moves ["row"] (defScope s_moves) := ⟨rfl, rfl, rfl, by decide +kernel, rfl, by decide +kernel, by decide +kernel⟩
theorem bd_moves : Bd "moves" s_moves ["row"] := fun _ _ _ _ _ _ _ us hl => match us, hl with | [_], _ => rfl
abbrev s_heights : Stmt := top 6
abbrev N_heights : List Str := ["row", "move", "found", "height"]
theorem sc_heights : FnScope N_heights ["row"] (defScope s_heights) := ⟨rfl, rfl, rfl, by decide +kernel, rfl, by decide +kernel, by decide +kernel⟩
theorem bd_heights : Bd "heights" s_heights ["row"] := fun _ _ _ _ _ _ _ us hl => match us, hl with | [_], _ => rfl
abbrev s_with_stage : Stmt := top 7
abbrev N_with_stage : List Str := ["found", "word", "number"]
theorem sc_with_stage : FnScope N_with_stage ["found", "word", "number"] (defScope s_with_stage) := ⟨rfl, rfl, rfl, by decide +kernel, rfl, by decide +kernel, by decide +kernel⟩
theorem bd_with_stage : Bd "with_stage" s_with_stage ["found", "word", "number"] := fun _ _ _ _ _ _ _ us hl => match us, hl with | [_, _, _], _ => rfl
abbrev s_stages_beyond : Stmt := top 8
abbrev N_stages_beyond : List Str := ["row", "high", "depth", "found", "height"]
theorem sc_stages_beyond : FnScope N_stages_beyond ["row", "high", "depth"] (defScope s_stages_beyond) := ⟨rfl, rfl, rfl, by decide +kernel, rfl, by decide +kernel, by decide +kernel⟩
theorem bd_stages_beyond : Bd "stages_beyond" s_stages_beyond ["row", "high", "depth"] := fun _ _ _ _ _ _ _ us hl => match us, hl with | [_, _, _], _ => rfl
abbrev s_form_beyond : Stmt := top 9
abbrev N_form_beyond : List Str := ["row", "high", "depth", "delays", "late_on", "late_off", "ways", "is_turned", "part", "way"]
theorem sc_form_beyond : FnScope N_form_beyond ["row", "high", "depth"] (defScope s_form_beyond) := ⟨rfl, rfl, rfl, by decide +kernel, rfl, by decide +kernel, by decide +kernel⟩
theorem bd_form_beyond : Bd "form_beyond" s_form_beyond ["row", "high", "depth"] := fun _ _ _ _ _ _ _ us hl => match us, hl with | [_, _, _], _ => rfl
abbrev s_form_for : Stmt := top 20
abbrev N_form_for : List Str := ["row", "ons", "offs"]
theorem sc_form_for : FnScope N_form_for ["row", "ons", "offs"] (defScope s_form_for) := ⟨rfl, rfl, rfl, by decide +kernel, rfl, by decide +kernel, by decide +kernel⟩
theorem bd_form_for : Bd "form_for" s_form_for ["row", "ons", "offs"] := fun _ _ _ _ _ _ _ us hl => match us, hl with | [_, _, _], _ => rfl
abbrev s_alike_for : Stmt := top 21
abbrev N_alike_for : List Str := ["one", "other", "ons", "offs"]
theorem sc_alike_for : FnScope N_alike_for ["one", "other", "ons", "offs"] (defScope s_alike_for) := ⟨rfl, rfl, rfl, by decide +kernel, rfl, by decide +kernel, by decide +kernel⟩
theorem bd_alike_for : Bd "alike_for" s_alike_for ["one", "other", "ons", "offs"] := fun _ _ _ _ _ _ _ us hl => match us, hl with | [_, _, _, _], _ => rfl
abbrev s_most_of : Stmt := top 10
abbrev N_most_of : List Str := ["steps", "word", "own", "number"]
theorem sc_most_of : FnScope N_most_of ["steps", "word"] (defScope s_most_of) := ⟨rfl, rfl, rfl, by decide +kernel, rfl, by decide +kernel, by decide +kernel⟩
theorem bd_most_of : Bd "most_of" s_most_of ["steps", "word"] := fun _ _ _ _ _ _ _ us hl => match us, hl with | [_, _], _ => rfl
abbrev s_ahead_of : Stmt := top 12
abbrev N_ahead_of : List Str := ["steps", "word", "bound", "place", "own", "number"]
theorem sc_ahead_of : FnScope N_ahead_of ["steps", "word", "bound"] (defScope s_ahead_of) := ⟨rfl, rfl, rfl, by decide +kernel, rfl, by decide +kernel, by decide +kernel⟩
theorem bd_ahead_of : Bd "ahead_of" s_ahead_of ["steps", "word", "bound"] := fun _ _ _ _ _ _ _ us hl => match us, hl with | [_, _, _], _ => rfl
abbrev s_filled_ahead : Stmt := top 13
abbrev N_filled_ahead : List Str := ["steps", "k"]
theorem sc_filled_ahead : FnScope N_filled_ahead ["steps", "k"] (defScope s_filled_ahead) := ⟨rfl, rfl, rfl, by decide +kernel, rfl, by decide +kernel, by decide +kernel⟩
theorem bd_filled_ahead : Bd "filled_ahead" s_filled_ahead ["steps", "k"] := fun _ _ _ _ _ _ _ us hl => match us, hl with | [_, _], _ => rfl
abbrev s_dropped_ahead : Stmt := top 14
abbrev N_dropped_ahead : List Str := ["steps", "l"]
theorem sc_dropped_ahead : FnScope N_dropped_ahead ["steps", "l"] (defScope s_dropped_ahead) := ⟨rfl, rfl, rfl, by decide +kernel, rfl, by decide +kernel, by decide +kernel⟩
theorem bd_dropped_ahead : Bd "dropped_ahead" s_dropped_ahead ["steps", "l"] := fun _ _ _ _ _ _ _ us hl => match us, hl with | [_, _], _ => rfl
abbrev s_bounds_in : Stmt := top 15
abbrev N_bounds_in : List Str := ["one", "other", "word", "number"]
theorem sc_bounds_in : FnScope N_bounds_in ["one", "other"] (defScope s_bounds_in) := ⟨rfl, rfl, rfl, by decide +kernel, rfl, by decide +kernel, by decide +kernel⟩
theorem bd_bounds_in : Bd "bounds_in" s_bounds_in ["one", "other"] := fun _ _ _ _ _ _ _ us hl => match us, hl with | [_, _], _ => rfl
abbrev s_is_low : Stmt := top 16
abbrev N_is_low : List Str := ["one", "other", "bound"]
theorem sc_is_low : FnScope N_is_low ["one", "other"] (defScope s_is_low) := ⟨rfl, rfl, rfl, by decide +kernel, rfl, by decide +kernel, by decide +kernel⟩
theorem bd_is_low : Bd "is_low" s_is_low ["one", "other"] := fun _ _ _ _ _ _ _ us hl => match us, hl with | [_, _], _ => rfl
abbrev s_cores_within : Stmt := top 17
abbrev N_cores_within : List Str := ["one", "other"]
theorem sc_cores_within : FnScope N_cores_within ["one", "other"] (defScope s_cores_within) := ⟨rfl, rfl, rfl, by decide +kernel, rfl, by decide +kernel, by decide +kernel⟩
theorem bd_cores_within : Bd "cores_within" s_cores_within ["one", "other"] := fun _ _ _ _ _ _ _ us hl => match us, hl with | [_, _], _ => rfl
abbrev s_forms_within : Stmt := top 18
abbrev N_forms_within : List Str := ["one", "other"]
theorem sc_forms_within : FnScope N_forms_within ["one", "other"] (defScope s_forms_within) := ⟨rfl, rfl, rfl, by decide +kernel, rfl, by decide +kernel, by decide +kernel⟩
theorem bd_forms_within : Bd "forms_within" s_forms_within ["one", "other"] := fun _ _ _ _ _ _ _ us hl => match us, hl with | [_, _], _ => rfl
abbrev s_within_for : Stmt := top 22
abbrev N_within_for : List Str := ["one", "other", "ons", "offs"]
theorem sc_within_for : FnScope N_within_for ["one", "other", "ons", "offs"] (defScope s_within_for) := ⟨rfl, rfl, rfl, by decide +kernel, rfl, by decide +kernel, by decide +kernel⟩
theorem bd_within_for : Bd "within_for" s_within_for ["one", "other", "ons", "offs"] := fun _ _ _ _ _ _ _ us hl => match us, hl with | [_, _, _, _], _ => rfl
abbrev s__law_jar : Stmt := top 24
abbrev N__law_jar : List Str := ["script", "cell", "cells", "stirred"]
theorem sc__law_jar : FnScope N__law_jar ["script"] (defScope s__law_jar) := ⟨rfl, rfl, rfl, by decide +kernel, rfl, by decide +kernel, by decide +kernel⟩
theorem bd__law_jar : Bd "_law_jar" s__law_jar ["script"] := fun _ _ _ _ _ _ _ us hl => match us, hl with | [_], _ => rfl
abbrev s__law_draw : Stmt := top 25
abbrev N__law_draw : List Str := ["jar", "many", "wide", "one", "cell"]
theorem sc__law_draw : FnScope N__law_draw ["jar", "many"] (defScope s__law_draw) := ⟨rfl, rfl, rfl, by decide +kernel, rfl, by decide +kernel, by decide +kernel⟩
theorem bd__law_draw : Bd "_law_draw" s__law_draw ["jar", "many"] := fun _ _ _ _ _ _ _ us hl => match us, hl with | [_, _], _ => rfl
abbrev s__law_turned : Stmt := top 29
abbrev N__law_turned : List Str := ["runs", "found", "one", "other"]
theorem sc__law_turned : FnScope N__law_turned ["runs"] (defScope s__law_turned) := ⟨rfl, rfl, rfl, by decide +kernel, rfl, by decide +kernel, by decide +kernel⟩
theorem bd__law_turned : Bd "_law_turned" s__law_turned ["runs"] := fun _ _ _ _ _ _ _ us hl => match us, hl with | [_], _ => rfl
abbrev s__law_part : Stmt := top 30
abbrev N__law_part : List Str := ["part", "runs", "found", "low", "high"]
theorem sc__law_part : FnScope N__law_part ["part", "runs"] (defScope s__law_part) := ⟨rfl, rfl, rfl, by decide +kernel, rfl, by decide +kernel, by decide +kernel⟩
theorem bd__law_part : Bd "_law_part" s__law_part ["part", "runs"] := fun _ _ _ _ _ _ _ us hl => match us, hl with | [_, _], _ => rfl
abbrev s__law_led : Stmt := top 31
abbrev N__law_led : List Str := ["row", "runs", "found", "part"]
theorem sc__law_led : FnScope N__law_led ["row", "runs"] (defScope s__law_led) := ⟨rfl, rfl, rfl, by decide +kernel, rfl, by decide +kernel, by decide +kernel⟩
theorem bd__law_led : Bd "_law_led" s__law_led ["row", "runs"] := fun _ _ _ _ _ _ _ us hl => match us, hl with | [_, _], _ => rfl
abbrev s__law_signal : Stmt := top 34
abbrev N__law_signal : List Str := ["jar", "ons", "offs", "most", "alike", "turn", "tick", "found", "on", "off"]
theorem sc__law_signal : FnScope N__law_signal ["jar", "ons", "offs", "most"] (defScope s__law_signal) := ⟨rfl, rfl, rfl, by decide +kernel, rfl, by decide +kernel, by decide +kernel⟩
theorem bd__law_signal : Bd "_law_signal" s__law_signal ["jar", "ons", "offs", "most"] := fun _ _ _ _ _ _ _ us hl => match us, hl with | [_, _, _, _], _ => rfl
abbrev s__law_is_in : Stmt := top 37
abbrev N__law_is_in : List Str := ["runs", "others", "low", "high", "is_fit", "a", "b"]
theorem sc__law_is_in : FnScope N__law_is_in ["runs", "others"] (defScope s__law_is_in) := ⟨rfl, rfl, rfl, by decide +kernel, rfl, by decide +kernel, by decide +kernel⟩
theorem bd__law_is_in : Bd "_law_is_in" s__law_is_in ["runs", "others"] := fun _ _ _ _ _ _ _ us hl => match us, hl with | [_, _], _ => rfl
abbrev s__law_ticks : Stmt := top 35
abbrev N__law_ticks : List Str := ["row", "part"]
theorem sc__law_ticks : FnScope N__law_ticks ["row"] (defScope s__law_ticks) := ⟨rfl, rfl, rfl, by decide +kernel, rfl, by decide +kernel, by decide +kernel⟩
theorem bd__law_ticks : Bd "_law_ticks" s__law_ticks ["row"] := fun _ _ _ _ _ _ _ us hl => match us, hl with | [_], _ => rfl
abbrev s__law_trials : Stmt := top 36
abbrev N__law_trials : List Str := ["ons", "offs", "most", "found", "off", "on", "train"]
theorem sc__law_trials : FnScope N__law_trials ["ons", "offs", "most"] (defScope s__law_trials) := ⟨rfl, rfl, rfl, by decide +kernel, rfl, by decide +kernel, by decide +kernel⟩
theorem bd__law_trials : Bd "_law_trials" s__law_trials ["ons", "offs", "most"] := fun _ _ _ _ _ _ _ us hl => match us, hl with | [_, _, _], _ => rfl
abbrev s__law_is_within : Stmt := top 38
abbrev N__law_is_within : List Str := ["one", "other", "ons", "offs", "runs"]
theorem sc__law_is_within : FnScope N__law_is_within ["one", "other", "ons", "offs"] (defScope s__law_is_within) := ⟨rfl, rfl, rfl, by decide +kernel, rfl, by decide +kernel, by decide +kernel⟩
theorem bd__law_is_within : Bd "_law_is_within" s__law_is_within ["one", "other", "ons", "offs"] := fun _ _ _ _ _ _ _ us hl => match us, hl with | [_, _, _, _], _ => rfl
abbrev s__law_pick : Stmt := top 26
abbrev N__law_pick : List Str := ["jar", "items"]
theorem sc__law_pick : FnScope N__law_pick ["jar", "items"] (defScope s__law_pick) := ⟨rfl, rfl, rfl, by decide +kernel, rfl, by decide +kernel, by decide +kernel⟩
theorem bd__law_pick : Bd "_law_pick" s__law_pick ["jar", "items"] := fun _ _ _ _ _ _ _ us hl => match us, hl with | [_, _], _ => rfl
abbrev s__law_row : Stmt := top 28
abbrev N__law_row : List Str := ["jar", "many", "most", "turns", "turn", "words", "found"]
theorem sc__law_row : FnScope N__law_row ["jar", "many", "most", "turns"] (defScope s__law_row) := ⟨rfl, rfl, rfl, by decide +kernel, rfl, by decide +kernel, by decide +kernel⟩
theorem bd__law_row : Bd "_law_row" s__law_row ["jar", "many", "most", "turns"] := fun _ _ _ _ _ _ _ us hl => match us, hl with | [_, _, _, _], _ => rfl
abbrev s__law_near : Stmt := top 39
abbrev N__law_near : List Str := ["jar", "row", "most", "at", "way"]
theorem sc__law_near : FnScope N__law_near ["jar", "row", "most"] (defScope s__law_near) := ⟨rfl, rfl, rfl, by decide +kernel, rfl, by decide +kernel, by decide +kernel⟩
theorem bd__law_near : Bd "_law_near" s__law_near ["jar", "row", "most"] := fun _ _ _ _ _ _ _ us hl => match us, hl with | [_, _, _], _ => rfl
abbrev s__law_pair : Stmt := top 40
abbrev N__law_pair : List Str := ["jar", "one", "other"]
theorem sc__law_pair : FnScope N__law_pair ["jar"] (defScope s__law_pair) := ⟨rfl, rfl, rfl, by decide +kernel, rfl, by decide +kernel, by decide +kernel⟩
theorem bd__law_pair : Bd "_law_pair" s__law_pair ["jar"] := fun _ _ _ _ _ _ _ us hl => match us, hl with | [_], _ => rfl
abbrev s__law_swapped : Stmt := top 41
abbrev N__law_swapped : List Str := ["jar", "one", "drop", "fill"]
theorem sc__law_swapped : FnScope N__law_swapped ["jar"] (defScope s__law_swapped) := ⟨rfl, rfl, rfl, by decide +kernel, rfl, by decide +kernel, by decide +kernel⟩
theorem bd__law_swapped : Bd "_law_swapped" s__law_swapped ["jar"] := fun _ _ _ _ _ _ _ us hl => match us, hl with | [_], _ => rfl
abbrev s_law : Stmt := top 42
abbrev N_law : List Str := ["script", "jar", "turn", "seen", "back", "again", "one", "other", "ons", "offs", "due", "kept", "runs"]
theorem sc_law : FnScope N_law ["script"] (defScope s_law) := ⟨rfl, rfl, rfl, by decide +kernel, rfl, by decide +kernel, by decide +kernel⟩
theorem bd_law : Bd "law" s_law ["script"] := fun _ _ _ _ _ _ _ us hl => match us, hl with | [_], _ => rfl
theorem bk_within_for_0_offs_ons_other_one : BdK "within_for" s_within_for ["one", "other", "ons", "offs"] ["offs", "ons", "other", "one"] 0 [3, 2, 1, 0] := fun _ _ _ _ _ _ _ us ws h1 h2 => match us, ws, h1, h2 with | [], [_, _, _, _], _, _ => rfl
/-- what is known of the top -/
structure Top (mg : Str → Option Value) (K : PySem.W.Frag) : Prop where
  b_abs : mg "abs" = none
  b_enumerate : mg "enumerate" = none
  b_int : mg "int" = none
  b_len : mg "len" = none
  b_max : mg "max" = none
  b_min : mg "min" = none
  b_range : mg "range" = none
  b_repr : mg "repr" = none
  b_sum : mg "sum" = none
  b_tuple : mg "tuple" = none
  b_zip : mg "zip" = none
  k_DROP : ∃ t, mg "DROP" = some (.str "drop" t)
  k_FILL : ∃ t, mg "FILL" = some (.str "fill" t)
  k_TURN : ∃ t, mg "TURN" = some (.str "turn" t)
/-- .. and of the defs -/
structure Cx0 (P : Program) (w : World) (K : PySem.W.Frag) (mg : Str → Option Value) (base : Heap) extends Top mg K where
  f_ticks_up : FnM P w K mg base CX0 1 "ticks_up" s_ticks_up ["part", "is_turned"] m_ticks_up
  f_moves : FnM P w K mg base CX0 2 "moves" s_moves ["row"] m_moves
  f_heights : FnM P w K mg base CX0 3 "heights" s_heights ["row"] m_heights
  f_with_stage : FnM P w K mg base CX0 1 "with_stage" s_with_stage ["found", "word", "number"] m_with_stage
  f_stages_beyond : FnM P w K mg base CX0 4 "stages_beyond" s_stages_beyond ["row", "high", "depth"] m_stages_beyond
  f_form_beyond : FnM P w K mg base CX0 5 "form_beyond" s_form_beyond ["row", "high", "depth"] m_form_beyond
  f_form_for : FnM P w K mg base CX0 6 "form_for" s_form_for ["row", "ons", "offs"] m_form_for
  f_alike_for : FnM P w K mg base CX0 7 "alike_for" s_alike_for ["one", "other", "ons", "offs"] m_alike_for
  f_most_of : FnM P w K mg base CX0 1 "most_of" s_most_of ["steps", "word"] m_most_of
  f_ahead_of : FnM P w K mg base CX0 1 "ahead_of" s_ahead_of ["steps", "word", "bound"] m_ahead_of
  f_filled_ahead : FnM P w K mg base CX0 2 "filled_ahead" s_filled_ahead ["steps", "k"] m_filled_ahead
  f_dropped_ahead : FnM P w K mg base CX0 2 "dropped_ahead" s_dropped_ahead ["steps", "l"] m_dropped_ahead
  f_bounds_in : FnM P w K mg base CX0 1 "bounds_in" s_bounds_in ["one", "other"] m_bounds_in
  f_is_low : FnM P w K mg base CX0 3 "is_low" s_is_low ["one", "other"] m_is_low
  f_cores_within : FnM P w K mg base CX0 4 "cores_within" s_cores_within ["one", "other"] m_cores_within
  f_forms_within : FnM P w K mg base CX0 5 "forms_within" s_forms_within ["one", "other"] m_forms_within
  f_within_for : FnM P w K mg base CX0 7 "within_for" s_within_for ["one", "other", "ons", "offs"] m_within_for
  f__law_jar : FnM P w K mg base CX0 1 "_law_jar" s__law_jar ["script"] m__law_jar
  f__law_draw : FnM P w K mg base CX0 1 "_law_draw" s__law_draw ["jar", "many"] m__law_draw
  f__law_turned : FnM P w K mg base CX0 1 "_law_turned" s__law_turned ["runs"] m__law_turned
  f__law_part : FnM P w K mg base CX0 2 "_law_part" s__law_part ["part", "runs"] m__law_part
  f__law_led : FnM P w K mg base CX0 3 "_law_led" s__law_led ["row", "runs"] m__law_led
  f__law_signal : FnM P w K mg base CX0 2 "_law_signal" s__law_signal ["jar", "ons", "offs", "most"] m__law_signal
  f__law_is_in : FnM P w K mg base CX0 1 "_law_is_in" s__law_is_in ["runs", "others"] m__law_is_in
  f__law_ticks : FnM P w K mg base CX0 1 "_law_ticks" s__law_ticks ["row"] m__law_ticks
  f__law_trials : FnM P w K mg base CX0 1 "_law_trials" s__law_trials ["ons", "offs", "most"] m__law_trials
  f__law_is_within : FnM P w K mg base CX0 4 "_law_is_within" s__law_is_within ["one", "other", "ons", "offs"] m__law_is_within
  f__law_pick : FnM P w K mg base CX0 2 "_law_pick" s__law_pick ["jar", "items"] m__law_pick
  f__law_row : FnM P w K mg base CX0 3 "_law_row" s__law_row ["jar", "many", "most", "turns"] m__law_row
  f__law_near : FnM P w K mg base CX0 4 "_law_near" s__law_near ["jar", "row", "most"] m__law_near
  f__law_pair : FnM P w K mg base CX0 5 "_law_pair" s__law_pair ["jar"] m__law_pair
  f__law_swapped : FnM P w K mg base CX0 2 "_law_swapped" s__law_swapped ["jar"] m__law_swapped
  f_law : FnM P w K mg base CX0 8 "law" s_law ["script"] m_law
theorem k_DROP {X : Cx} {E : XK} {pos : Pos} (T : Top X.mg X.K) (hg : Gl X "DROP" := by rfl) : PP X E (.Name "DROP" pos) (c K_DROP) := let ⟨_, h⟩ := T.k_DROP; pp_glob (w := .str "drop") h ⟨_, rfl⟩ (fun _ _ => rstr) hg
theorem k_FILL {X : Cx} {E : XK} {pos : Pos} (T : Top X.mg X.K) (hg : Gl X "FILL" := by rfl) : PP X E (.Name "FILL" pos) (c K_FILL) := let ⟨_, h⟩ := T.k_FILL; pp_glob (w := .str "fill") h ⟨_, rfl⟩ (fun _ _ => rstr) hg
theorem k_TURN {X : Cx} {E : XK} {pos : Pos} (T : Top X.mg X.K) (hg : Gl X "TURN" := by rfl) : PP X E (.Name "TURN" pos) (c K_TURN) := let ⟨_, h⟩ := T.k_TURN; pp_glob (w := .str "turn") h ⟨_, rfl⟩ (fun _ _ => rstr) hg
section
variable {P : Program} {w : World} {K : PySem.W.Frag} {mg : Str → Option Value} {base : Heap}
theorem ok_ticks_up {f : Addr} {fd : FuncData} {ql : Str} (T : Top mg K)  (Fu : L2.Fun K "ticks_up" ql s_ticks_up f fd) (hm : mg "ticks_up" = some (.ref f)) :
    FnM P w K mg base CX0 1 "ticks_up" s_ticks_up ["part", "is_turned"] m_ticks_up :=
  fn_pure Fu hm sc_ticks_up rfl fun cdv A outer s H E hr hg =>
  (ppb_cons (pps_if (ppt_cmp (cmpP_eq (hu64 hr)) (pp_ix (pp_v 0) pp_int) pp_str)
   (ppb_one (pps_ret (pp_ite (PP.t (pp_v 1)) (pp_un unP_neg (pp_ix (pp_v 0) pp_int)) (pp_ix (pp_v 0) pp_int))))
   ppb_nil)
  (ppb_cons (pps_if (ppt_cmp (cmpP_eq (hu64 hr)) (pp_ix (pp_v 0) pp_int) pp_str)
   (ppb_one (pps_ret (pp_ite (PP.t (pp_v 1)) (pp_ix (pp_v 0) pp_int) (pp_un unP_neg (pp_ix (pp_v 0) pp_int)))))
   ppb_nil)
  (ppb_one (pps_ret pp_int))))
theorem ok_moves {f : Addr} {fd : FuncData} {ql : Str} (T : Top mg K) (f_ticks_up : FnM P w K mg base CX0 1 "ticks_up" s_ticks_up ["part", "is_turned"] m_ticks_up) (Fu : L2.Fun K "moves" ql s_moves f fd) (hm : mg "moves" = some (.ref f)) :
    FnM P w K mg base CX0 2 "moves" s_moves ["row"] m_moves :=
  fn_pure Fu hm sc_moves rfl fun cdv A outer s H E hr hg =>
  (ppb_cons (pps_par 2 3 rfl sc_moves.nd (by decide) (pp_lst ppa_nil) pp_bl)
  (ppb_cons (pps_for PassesOwn.never rfl (ppi_val (pp_v 0)) (ppg_n 1 sc_moves.nd)
   (ppb_cons (pps_if (ppt_cmp (cmpP_eq (hu64 hr)) (pp_ix (pp_v 1) pp_int) (k_TURN T))
    (ppb_one (pps_set 3 sc_moves.nd (pp_not (pp_v 3))))
    ppb_nil)
   (ppb_one (pps_exp (pp_append (pp_v 2) (ppa_cons (pp_call f_ticks_up bd_ticks_up hr (by decide) hg pass0 (ppa_cons (pp_v 1) (ppa_cons (pp_v 3) ppa_nil))) ppa_nil))))))
  (ppb_one (pps_ret (pp_tup (ppa_cons (pp_v 2) (ppa_cons (pp_v 3) ppa_nil)))))))
theorem ok_heights {f : Addr} {fd : FuncData} {ql : Str} (T : Top mg K) (f_moves : FnM P w K mg base CX0 2 "moves" s_moves ["row"] m_moves) (Fu : L2.Fun K "heights" ql s_heights f fd) (hm : mg "heights" = some (.ref f)) :
    FnM P w K mg base CX0 3 "heights" s_heights ["row"] m_heights :=
  fn_pure Fu hm sc_heights rfl fun cdv A outer s H E hr hg =>
  (ppb_cons (pps_par 2 3 rfl sc_heights.nd (by decide) (pp_lst ppa_nil) pp_int)
  (ppb_cons (pps_for PassesOwn.never rfl (ppi_val (pp_ix (pp_call f_moves bd_moves hr (by decide) hg pass0 (ppa_cons (pp_v 0) ppa_nil)) pp_int)) (ppg_n 1 sc_heights.nd)
   (ppb_cons (pps_set 3 sc_heights.nd (pp_op opP_add (pp_v 3) (pp_v 1)))
   (ppb_one (pps_exp (pp_append (pp_v 2) (ppa_cons (pp_v 3) ppa_nil))))))
  (ppb_one (pps_ret (pp_callTy crP_tuple T.b_tuple boot_tuple (ppa_cons (pp_v 2) ppa_nil))))))
theorem ok_with_stage {f : Addr} {fd : FuncData} {ql : Str} (T : Top mg K)  (Fu : L2.Fun K "with_stage" ql s_with_stage f fd) (hm : mg "with_stage" = some (.ref f)) :
    FnM P w K mg base CX0 1 "with_stage" s_with_stage ["found", "word", "number"] m_with_stage :=
  fn_pure Fu hm sc_with_stage rfl fun cdv A outer s H E hr hg =>
  (ppb_cons (pps_if (PPW.t (ppw_and (ppt_cmp (cmpP_ne (hu64 hr)) (pp_v 0) (pp_lst ppa_nil)) (ppw_and1 (ppt_cmp (cmpP_eq (hu64 hr)) (pp_ix (pp_ix (pp_v 0) (pp_un unP_neg pp_int)) pp_int) (pp_v 1)))))
   (ppb_one (pps_ret (pp_op opP_add (pp_sl (pp_v 0) ppo_none (ppo_some (pp_un unP_neg pp_int))) (pp_lst (ppa_cons (pp_tup (ppa_cons (pp_v 1) (ppa_cons (pp_v 2) ppa_nil))) ppa_nil)))))
   ppb_nil)
  (ppb_one (pps_ret (pp_op opP_add (pp_v 0) (pp_lst (ppa_cons (pp_tup (ppa_cons (pp_v 1) (ppa_cons (pp_v 2) ppa_nil))) ppa_nil))))))
theorem ok_stages_beyond {f : Addr} {fd : FuncData} {ql : Str} (T : Top mg K) (f_heights : FnM P w K mg base CX0 3 "heights" s_heights ["row"] m_heights) (f_with_stage : FnM P w K mg base CX0 1 "with_stage" s_with_stage ["found", "word", "number"] m_with_stage) (Fu : L2.Fun K "stages_beyond" ql s_stages_beyond f fd) (hm : mg "stages_beyond" = some (.ref f)) :
    FnM P w K mg base CX0 4 "stages_beyond" s_stages_beyond ["row", "high", "depth"] m_stages_beyond :=
  fn_pure Fu hm sc_stages_beyond rfl fun cdv A outer s H E hr hg =>
  (ppb_cons (pps_set 3 sc_stages_beyond.nd (pp_lst ppa_nil))
  (ppb_cons (pps_for PassesOwn.never rfl (ppi_val (pp_call f_heights bd_heights hr (by decide) hg pass0 (ppa_cons (pp_v 0) ppa_nil))) (ppg_n 4 sc_stages_beyond.nd)
   (ppb_one (pps_if (ppt_cmp cmpP_gt (pp_v 4) (pp_v 1))
    (ppb_cons (pps_set 1 sc_stages_beyond.nd (pp_v 4))
    (ppb_one (pps_set 3 sc_stages_beyond.nd (pp_call f_with_stage bd_with_stage hr (by decide) hg pass0 (ppa_cons (pp_v 3) (ppa_cons (k_DROP T) (ppa_cons (pp_v 1) ppa_nil)))))))
    (ppb_one (pps_if (ppt_cmp cmpP_gt (pp_un unP_neg (pp_v 4)) (pp_v 2))
     (ppb_cons (pps_set 2 sc_stages_beyond.nd (pp_un unP_neg (pp_v 4)))
     (ppb_one (pps_set 3 sc_stages_beyond.nd (pp_call f_with_stage bd_with_stage hr (by decide) hg pass0 (ppa_cons (pp_v 3) (ppa_cons (k_FILL T) (ppa_cons (pp_v 2) ppa_nil)))))))
     ppb_nil)))))
  (ppb_one (pps_ret (pp_callTy crP_tuple T.b_tuple boot_tuple (ppa_cons (pp_v 3) ppa_nil))))))
theorem ok_form_beyond {f : Addr} {fd : FuncData} {ql : Str} (T : Top mg K) (f_moves : FnM P w K mg base CX0 2 "moves" s_moves ["row"] m_moves) (f_stages_beyond : FnM P w K mg base CX0 4 "stages_beyond" s_stages_beyond ["row", "high", "depth"] m_stages_beyond) (Fu : L2.Fun K "form_beyond" ql s_form_beyond f fd) (hm : mg "form_beyond" = some (.ref f)) :
    FnM P w K mg base CX0 5 "form_beyond" s_form_beyond ["row", "high", "depth"] m_form_beyond :=
  fn_pure Fu hm sc_form_beyond rfl fun cdv A outer s H E hr hg =>
  (ppb_cons (pps_asg (pp_call f_moves bd_moves hr (by decide) hg pass0 (ppa_cons (pp_v 0) ppa_nil)) (ppg_tup (n := 2) rfl (ppgs_cons (ppg_n 6 sc_form_beyond.nd) (ppgs_cons (ppg_n 7 sc_form_beyond.nd) ppgs_nil))))
  (ppb_cons (pps_set 3 sc_form_beyond.nd (pp_callB (crP_sum rfl) T.b_sum boot_sum (ppa_cons (pp_lc (own := [("part", 8)]) rfl sc_form_beyond.nd (ppi_val (pp_v 0)) (blkOk_by (N := N_form_beyond) (sc := defScope s_form_beyond) (by decide +kernel)) (fun _ _ _ _ _ => (ppg_n 8 sc_form_beyond.nd)) (fun _ _ _ _ _ => (ppts_one (ppt_cmp (cmpP_eq (hu64 hr)) (pp_ix (pp_v 8) pp_int) pp_str))) (fun _ _ _ _ _ => (pp_ix (pp_v 8) pp_int))) ppa_nil)))
  (ppb_cons (pps_set 4 sc_form_beyond.nd (pp_op opP_add (pp_v 3) (pp_callB (crP_sum rfl) T.b_sum boot_sum (ppa_cons (pp_lc (own := [("way", 9)]) rfl sc_form_beyond.nd (ppi_val (pp_v 6)) (blkOk_by (N := N_form_beyond) (sc := defScope s_form_beyond) (by decide +kernel)) (fun _ _ _ _ _ => (ppg_n 9 sc_form_beyond.nd)) (fun _ _ _ _ _ => (ppts_one (ppt_cmp cmpP_gt (pp_v 9) pp_int))) (fun _ _ _ _ _ => (pp_v 9))) ppa_nil))))
  (ppb_cons (pps_set 5 sc_form_beyond.nd (pp_op opP_sub (pp_v 3) (pp_callB (crP_sum rfl) T.b_sum boot_sum (ppa_cons (pp_lc (own := [("way", 9)]) rfl sc_form_beyond.nd (ppi_val (pp_v 6)) (blkOk_by (N := N_form_beyond) (sc := defScope s_form_beyond) (by decide +kernel)) (fun _ _ _ _ _ => (ppg_n 9 sc_form_beyond.nd)) (fun _ _ _ _ _ => (ppts_one (ppt_cmp cmpP_lt (pp_v 9) pp_int))) (fun _ _ _ _ _ => (pp_v 9))) ppa_nil))))
  (ppb_one (pps_ret (pp_tup (ppa_cons (pp_v 7) (ppa_cons (pp_v 4) (ppa_cons (pp_v 5) (ppa_cons (pp_call f_stages_beyond bd_stages_beyond hr (by decide) hg pass0 (ppa_cons (pp_v 0) (ppa_cons (pp_v 1) (ppa_cons (pp_v 2) ppa_nil)))) ppa_nil)))))))))))
theorem ok_form_for {f : Addr} {fd : FuncData} {ql : Str} (T : Top mg K) (f_form_beyond : FnM P w K mg base CX0 5 "form_beyond" s_form_beyond ["row", "high", "depth"] m_form_beyond) (Fu : L2.Fun K "form_for" ql s_form_for f fd) (hm : mg "form_for" = some (.ref f)) :
    FnM P w K mg base CX0 6 "form_for" s_form_for ["row", "ons", "offs"] m_form_for :=
  fn_pure Fu hm sc_form_for rfl fun cdv A outer s H E hr hg =>
  (ppb_one (pps_ret (pp_call f_form_beyond bd_form_beyond hr (by decide) hg pass0 (ppa_cons (pp_v 0) (ppa_cons (pp_op opP_sub (pp_v 1) pp_int) (ppa_cons (pp_op opP_sub (pp_v 2) pp_int) ppa_nil))))))
theorem ok_alike_for {f : Addr} {fd : FuncData} {ql : Str} (T : Top mg K) (f_form_for : FnM P w K mg base CX0 6 "form_for" s_form_for ["row", "ons", "offs"] m_form_for) (Fu : L2.Fun K "alike_for" ql s_alike_for f fd) (hm : mg "alike_for" = some (.ref f)) :
    FnM P w K mg base CX0 7 "alike_for" s_alike_for ["one", "other", "ons", "offs"] m_alike_for :=
  fn_pure Fu hm sc_alike_for rfl fun cdv A outer s H E hr hg =>
  (ppb_one (pps_ret (pp_cmp (cmpP_eq (hu64 hr)) (pp_call f_form_for bd_form_for hr (by decide) hg pass0 (ppa_cons (pp_v 0) (ppa_cons (pp_v 2) (ppa_cons (pp_v 3) ppa_nil)))) (pp_call f_form_for bd_form_for hr (by decide) hg pass0 (ppa_cons (pp_v 1) (ppa_cons (pp_v 2) (ppa_cons (pp_v 3) ppa_nil)))))))
theorem ok_most_of {f : Addr} {fd : FuncData} {ql : Str} (T : Top mg K)  (Fu : L2.Fun K "most_of" ql s_most_of f fd) (hm : mg "most_of" = some (.ref f)) :
    FnM P w K mg base CX0 1 "most_of" s_most_of ["steps", "word"] m_most_of :=
  fn_pure Fu hm sc_most_of rfl fun cdv A outer s H E hr hg =>
  (ppb_one (pps_ret (pp_callB (crP_max rfl) T.b_max boot_max (ppa_cons (pp_lstS (ppas_cons pp_int (ppas_star (pp_lc (own := [("own", 2), ("number", 3)]) rfl sc_most_of.nd (ppi_val (pp_v 0)) (blkOk_by (N := N_most_of) (sc := defScope s_most_of) (by decide +kernel)) (fun _ _ _ _ _ => (ppg_tup (n := 2) rfl (ppgs_cons (ppg_n 2 sc_most_of.nd) (ppgs_cons (ppg_n 3 sc_most_of.nd) ppgs_nil)))) (fun _ _ _ _ _ => (ppts_one (ppt_cmp (cmpP_eq (hu64 hr)) (pp_v 2) (pp_v 1)))) (fun _ _ _ _ _ => (pp_v 3))) ppas_nil))) ppa_nil))))
theorem ok_ahead_of {f : Addr} {fd : FuncData} {ql : Str} (T : Top mg K)  (Fu : L2.Fun K "ahead_of" ql s_ahead_of f fd) (hm : mg "ahead_of" = some (.ref f)) :
    FnM P w K mg base CX0 1 "ahead_of" s_ahead_of ["steps", "word", "bound"] m_ahead_of :=
  fn_pure Fu hm sc_ahead_of rfl fun cdv A outer s H E hr hg =>
  (ppb_cons (pps_for PassesOwn.never rfl (ppi_enum T.b_enumerate (pp_v 0)) (ppg_tup (n := 2) rfl (ppgs_cons (ppg_n 3 sc_ahead_of.nd) (ppgs_cons (ppg_tup (n := 2) rfl (ppgs_cons (ppg_n 4 sc_ahead_of.nd) (ppgs_cons (ppg_n 5 sc_ahead_of.nd) ppgs_nil))) ppgs_nil)))
   (ppb_one (pps_if (PPW.t (ppw_and (ppt_cmp (cmpP_eq (hu64 hr)) (pp_v 4) (pp_v 1)) (ppw_and1 (ppt_cmp cmpP_gt (pp_v 5) (pp_v 2)))))
    (ppb_one (pps_ret (pp_sl (pp_v 0) ppo_none (ppo_some (pp_v 3)))))
    ppb_nil)))
  (ppb_one (pps_ret (pp_v 0))))
theorem ok_filled_ahead {f : Addr} {fd : FuncData} {ql : Str} (T : Top mg K) (f_most_of : FnM P w K mg base CX0 1 "most_of" s_most_of ["steps", "word"] m_most_of) (f_ahead_of : FnM P w K mg base CX0 1 "ahead_of" s_ahead_of ["steps", "word", "bound"] m_ahead_of) (Fu : L2.Fun K "filled_ahead" ql s_filled_ahead f fd) (hm : mg "filled_ahead" = some (.ref f)) :
    FnM P w K mg base CX0 2 "filled_ahead" s_filled_ahead ["steps", "k"] m_filled_ahead :=
  fn_pure Fu hm sc_filled_ahead rfl fun cdv A outer s H E hr hg =>
  (ppb_one (pps_ret (pp_call f_most_of bd_most_of hr (by decide) hg pass0 (ppa_cons (pp_call f_ahead_of bd_ahead_of hr (by decide) hg pass0 (ppa_cons (pp_v 0) (ppa_cons (k_DROP T) (ppa_cons (pp_v 1) ppa_nil)))) (ppa_cons (k_FILL T) ppa_nil)))))
theorem ok_dropped_ahead {f : Addr} {fd : FuncData} {ql : Str} (T : Top mg K) (f_most_of : FnM P w K mg base CX0 1 "most_of" s_most_of ["steps", "word"] m_most_of) (f_ahead_of : FnM P w K mg base CX0 1 "ahead_of" s_ahead_of ["steps", "word", "bound"] m_ahead_of) (Fu : L2.Fun K "dropped_ahead" ql s_dropped_ahead f fd) (hm : mg "dropped_ahead" = some (.ref f)) :
    FnM P w K mg base CX0 2 "dropped_ahead" s_dropped_ahead ["steps", "l"] m_dropped_ahead :=
  fn_pure Fu hm sc_dropped_ahead rfl fun cdv A outer s H E hr hg =>
  (ppb_one (pps_ret (pp_call f_most_of bd_most_of hr (by decide) hg pass0 (ppa_cons (pp_call f_ahead_of bd_ahead_of hr (by decide) hg pass0 (ppa_cons (pp_v 0) (ppa_cons (k_FILL T) (ppa_cons (pp_v 1) ppa_nil)))) (ppa_cons (k_DROP T) ppa_nil)))))
theorem ok_bounds_in {f : Addr} {fd : FuncData} {ql : Str} (T : Top mg K)  (Fu : L2.Fun K "bounds_in" ql s_bounds_in f fd) (hm : mg "bounds_in" = some (.ref f)) :
    FnM P w K mg base CX0 1 "bounds_in" s_bounds_in ["one", "other"] m_bounds_in :=
  fn_pure Fu hm sc_bounds_in rfl fun cdv A outer s H E hr hg =>
  (ppb_one (pps_ret (pp_op opP_add (pp_lst (ppa_cons pp_int ppa_nil)) (pp_lc (own := [("word", 2), ("number", 3)]) rfl sc_bounds_in.nd (ppi_val (pp_op opP_add (pp_v 0) (pp_v 1))) (blkOk_by (N := N_bounds_in) (sc := defScope s_bounds_in) (by decide +kernel)) (fun _ _ _ _ _ => (ppg_tup (n := 2) rfl (ppgs_cons (ppg_n 2 sc_bounds_in.nd) (ppgs_cons (ppg_n 3 sc_bounds_in.nd) ppgs_nil)))) (fun _ _ _ _ _ => ppts_nil) (fun _ _ _ _ _ => (pp_v 3))))))
theorem ok_is_low {f : Addr} {fd : FuncData} {ql : Str} (T : Top mg K) (f_bounds_in : FnM P w K mg base CX0 1 "bounds_in" s_bounds_in ["one", "other"] m_bounds_in) (f_filled_ahead : FnM P w K mg base CX0 2 "filled_ahead" s_filled_ahead ["steps", "k"] m_filled_ahead) (f_dropped_ahead : FnM P w K mg base CX0 2 "dropped_ahead" s_dropped_ahead ["steps", "l"] m_dropped_ahead) (Fu : L2.Fun K "is_low" ql s_is_low f fd) (hm : mg "is_low" = some (.ref f)) :
    FnM P w K mg base CX0 3 "is_low" s_is_low ["one", "other"] m_is_low :=
  fn_pure Fu hm sc_is_low rfl fun cdv A outer s H E hr hg =>
  (ppb_cons (pps_for PassesOwn.never rfl (ppi_val (pp_call f_bounds_in bd_bounds_in hr (by decide) hg pass0 (ppa_cons (pp_v 0) (ppa_cons (pp_v 1) ppa_nil)))) (ppg_n 2 sc_is_low.nd)
   (ppb_cons (pps_if (ppt_cmp cmpP_gt (pp_call f_filled_ahead bd_filled_ahead hr (by decide) hg pass0 (ppa_cons (pp_v 0) (ppa_cons (pp_v 2) ppa_nil))) (pp_call f_filled_ahead bd_filled_ahead hr (by decide) hg pass0 (ppa_cons (pp_v 1) (ppa_cons (pp_v 2) ppa_nil))))
    (ppb_one (pps_ret pp_bl))
    ppb_nil)
   (ppb_one (pps_if (ppt_cmp cmpP_lt (pp_call f_dropped_ahead bd_dropped_ahead hr (by decide) hg pass0 (ppa_cons (pp_v 0) (ppa_cons (pp_v 2) ppa_nil))) (pp_call f_dropped_ahead bd_dropped_ahead hr (by decide) hg pass0 (ppa_cons (pp_v 1) (ppa_cons (pp_v 2) ppa_nil))))
    (ppb_one (pps_ret pp_bl))
    ppb_nil))))
  (ppb_one (pps_ret pp_bl)))
theorem ok_cores_within {f : Addr} {fd : FuncData} {ql : Str} (T : Top mg K) (f_is_low : FnM P w K mg base CX0 3 "is_low" s_is_low ["one", "other"] m_is_low) (Fu : L2.Fun K "cores_within" ql s_cores_within f fd) (hm : mg "cores_within" = some (.ref f)) :
    FnM P w K mg base CX0 4 "cores_within" s_cores_within ["one", "other"] m_cores_within :=
  fn_pure Fu hm sc_cores_within rfl fun cdv A outer s H E hr hg =>
  (ppb_one (pps_ret (pp_and (pp_cmp cmpP_ge (pp_ix (pp_v 0) pp_int) (pp_ix (pp_v 1) pp_int)) (pp_and (pp_cmp cmpP_le (pp_ix (pp_v 0) pp_int) (pp_ix (pp_v 1) pp_int)) (pp_one (pp_call f_is_low bd_is_low hr (by decide) hg pass0 (ppa_cons (pp_ix (pp_v 0) pp_int) (ppa_cons (pp_ix (pp_v 1) pp_int) ppa_nil))))))))
theorem ok_forms_within {f : Addr} {fd : FuncData} {ql : Str} (T : Top mg K) (f_cores_within : FnM P w K mg base CX0 4 "cores_within" s_cores_within ["one", "other"] m_cores_within) (Fu : L2.Fun K "forms_within" ql s_forms_within f fd) (hm : mg "forms_within" = some (.ref f)) :
    FnM P w K mg base CX0 5 "forms_within" s_forms_within ["one", "other"] m_forms_within :=
  fn_pure Fu hm sc_forms_within rfl fun cdv A outer s H E hr hg =>
  (ppb_cons (pps_if (ppt_cmp (cmpP_ne (hu64 hr)) (pp_ix (pp_v 0) pp_int) (pp_ix (pp_v 1) pp_int))
   (ppb_one (pps_ret pp_bl))
   ppb_nil)
  (ppb_one (pps_ret (pp_ite (PP.t (pp_ix (pp_v 0) pp_int)) (pp_call f_cores_within bd_cores_within hr (by decide) hg pass0 (ppa_cons (pp_v 1) (ppa_cons (pp_v 0) ppa_nil))) (pp_call f_cores_within bd_cores_within hr (by decide) hg pass0 (ppa_cons (pp_v 0) (ppa_cons (pp_v 1) ppa_nil)))))))
theorem ok_within_for {f : Addr} {fd : FuncData} {ql : Str} (T : Top mg K) (f_forms_within : FnM P w K mg base CX0 5 "forms_within" s_forms_within ["one", "other"] m_forms_within) (f_form_for : FnM P w K mg base CX0 6 "form_for" s_form_for ["row", "ons", "offs"] m_form_for) (Fu : L2.Fun K "within_for" ql s_within_for f fd) (hm : mg "within_for" = some (.ref f)) :
    FnM P w K mg base CX0 7 "within_for" s_within_for ["one", "other", "ons", "offs"] m_within_for :=
  fn_pure Fu hm sc_within_for rfl fun cdv A outer s H E hr hg =>
  (ppb_one (pps_ret (pp_call f_forms_within bd_forms_within hr (by decide) hg pass0 (ppa_cons (pp_call f_form_for bd_form_for hr (by decide) hg pass0 (ppa_cons (pp_v 0) (ppa_cons (pp_v 2) (ppa_cons (pp_v 3) ppa_nil)))) (ppa_cons (pp_call f_form_for bd_form_for hr (by decide) hg pass0 (ppa_cons (pp_v 1) (ppa_cons (pp_v 2) (ppa_cons (pp_v 3) ppa_nil)))) ppa_nil)))))
theorem ok__law_jar {f : Addr} {fd : FuncData} {ql : Str} (T : Top mg K)  (Fu : L2.Fun K "_law_jar" ql s__law_jar f fd) (hm : mg "_law_jar" = some (.ref f)) :
    FnM P w K mg base CX0 1 "_law_jar" s__law_jar ["script"] m__law_jar :=
  fn_pure Fu hm sc__law_jar rfl fun cdv A outer s H E hr hg =>
  (ppb_cons (pps_par 2 3 rfl sc__law_jar.nd (by decide) (pp_lc (own := [("cell", 1)]) rfl sc__law_jar.nd (ppi_val (pp_sl (pp_v 0) ppo_none (ppo_some pp_int))) (blkOk_by (N := N__law_jar) (sc := defScope s__law_jar) (by decide +kernel)) (fun _ _ _ _ _ => (ppg_n 1 sc__law_jar.nd)) (fun _ _ _ _ _ => ppts_nil) (fun _ _ _ _ _ => (pp_op opP_add (pp_op opP_mul pp_int (pp_callB crP_abs T.b_abs boot_abs (ppa_cons (pp_v 1) ppa_nil))) (pp_callTy crP_int T.b_int boot_int (ppa_cons (pp_cmp cmpP_lt (pp_v 1) pp_int) ppa_nil))))) (pp_op opP_add pp_int (pp_op opP_mul pp_int (pp_callB crP_len T.b_len boot_len (ppa_cons (pp_v 0) ppa_nil)))))
  (ppb_cons (pps_for PassesOwn.never rfl (ppi_val (pp_v 2)) (ppg_n 1 sc__law_jar.nd)
   (ppb_one (pps_set 3 sc__law_jar.nd (pp_op opP_mod (pp_callTy crP_int T.b_int boot_int (ppa_cons (pp_op opP_add (pp_op opP_add (pp_op opP_mul (pp_v 3) pp_int) (pp_v 1)) pp_int) ppa_nil)) pp_int))))
  (ppb_one (pps_ret (pp_disp (ppp_cons pp_str (pp_lc (own := [("cell", 1)]) rfl sc__law_jar.nd (ppi_val (pp_v 2)) (blkOk_by (N := N__law_jar) (sc := defScope s__law_jar) (by decide +kernel)) (fun _ _ _ _ _ => (ppg_n 1 sc__law_jar.nd)) (fun _ _ _ _ _ => (ppts_one (ppt_cmp cmpP_ge (pp_v 1) (pp_op opP_pow pp_int pp_int)))) (fun _ _ _ _ _ => (pp_v 1))) (ppp_cons pp_str (pp_v 3) (ppp_cons pp_str pp_int ppp_nil))))))))
theorem ok__law_draw {f : Addr} {fd : FuncData} {ql : Str} (T : Top mg K)  (Fu : L2.Fun K "_law_draw" ql s__law_draw f fd) (hm : mg "_law_draw" = some (.ref f)) :
    FnM P w K mg base CX0 1 "_law_draw" s__law_draw ["jar", "many"] m__law_draw :=
  fn_pure Fu hm sc__law_draw rfl fun cdv A outer s H E hr hg =>
  (ppb_cons (pps_set 2 sc__law_draw.nd (pp_dget (hu1 (hu64 hr)) (pp_v 0) pp_str))
  (ppb_cons (pps_if (ppt_cmp cmpP_lt (pp_v 1) pp_int)
   (ppb_one (pps_ret pp_int))
   ppb_nil)
  (ppb_cons (pps_if (ppt_cmp (cmpP_ne (hu64 hr)) (pp_v 2) (pp_lst ppa_nil))
   (ppb_cons (pps_set 4 sc__law_draw.nd (pp_pop (pp_v 2)))
   (ppb_cons (pps_if (ppt_cmp cmpP_ge (pp_v 4) (pp_v 1))
    (ppb_one (pps_exp (pp_append (pp_v 2) (ppa_cons (pp_op opP_div (pp_v 4) (pp_v 1)) ppa_nil))))
    ppb_nil)
   (ppb_one (pps_ret (pp_op opP_mod (pp_callTy crP_int T.b_int boot_int (ppa_cons (pp_v 4) ppa_nil)) (pp_v 1))))))
   ppb_nil)
  (ppb_cons (pps_dput (hu1 (hu64 hr)) (pp_v 0) pp_str (pp_op opP_add (pp_dget (hu1 (hu64 hr)) (pp_v 0) pp_str) pp_int))
  (ppb_cons (pps_set 3 sc__law_draw.nd (pp_op opP_mod (pp_callTy crP_int T.b_int boot_int (ppa_cons (pp_op opP_add (pp_dget (hu1 (hu64 hr)) (pp_v 0) pp_str) (pp_op opP_mul pp_int (pp_dget (hu1 (hu64 hr)) (pp_v 0) pp_str))) ppa_nil)) pp_int))
  (ppb_cons (pps_set 3 sc__law_draw.nd (pp_op opP_mod (pp_callTy crP_int T.b_int boot_int (ppa_cons (pp_op opP_add (pp_op opP_add (pp_op opP_mul (pp_v 3) (pp_v 3)) (pp_op opP_mul pp_int (pp_dget (hu1 (hu64 hr)) (pp_v 0) pp_str))) pp_int) ppa_nil)) pp_int))
  (ppb_cons (pps_set 3 sc__law_draw.nd (pp_op opP_mod (pp_callTy crP_int T.b_int boot_int (ppa_cons (pp_op opP_add (pp_op opP_mul (pp_v 3) (pp_v 3)) (pp_dget (hu1 (hu64 hr)) (pp_v 0) pp_str)) ppa_nil)) pp_int))
  (ppb_one (pps_ret (pp_op opP_mod (pp_callTy crP_int T.b_int boot_int (ppa_cons (pp_op opP_div (pp_v 3) pp_int) ppa_nil)) (pp_v 1)))))))))))
theorem ok__law_turned {f : Addr} {fd : FuncData} {ql : Str} (T : Top mg K)  (Fu : L2.Fun K "_law_turned" ql s__law_turned f fd) (hm : mg "_law_turned" = some (.ref f)) :
    FnM P w K mg base CX0 1 "_law_turned" s__law_turned ["runs"] m__law_turned :=
  fn_pure Fu hm sc__law_turned rfl fun cdv A outer s H E hr hg =>
  (ppb_cons (pps_if (ppt_cmp (cmpP_eq (hu64 hr)) (pp_v 0) (pp_lst ppa_nil))
   (ppb_one (pps_ret (pp_lst (ppa_cons (pp_tup (ppa_cons pp_non (ppa_cons pp_non ppa_nil))) ppa_nil))))
   ppb_nil)
  (ppb_cons (pps_set 1 sc__law_turned.nd (pp_ite (ppt_cmp cmpP_notN (pp_ix (pp_ix (pp_v 0) pp_int) pp_int) pp_non) (pp_lst (ppa_cons (pp_tup (ppa_cons pp_non (ppa_cons (pp_ix (pp_ix (pp_v 0) pp_int) pp_int) ppa_nil))) ppa_nil)) (pp_lst ppa_nil)))
  (ppb_cons (pps_set 1 sc__law_turned.nd (pp_op opP_add (pp_v 1) (pp_lc (own := [("one", 2), ("other", 3)]) rfl sc__law_turned.nd (ppi_zip T.b_zip (pp_v 0) (pp_sl (pp_v 0) (ppo_some pp_int) ppo_none)) (blkOk_by (N := N__law_turned) (sc := defScope s__law_turned) (by decide +kernel)) (fun _ _ _ _ _ => (ppg_tup (n := 2) rfl (ppgs_cons (ppg_n 2 sc__law_turned.nd) (ppgs_cons (ppg_n 3 sc__law_turned.nd) ppgs_nil)))) (fun _ _ _ _ _ => ppts_nil) (fun _ _ _ _ _ => (pp_tup (ppa_cons (pp_ix (pp_v 2) pp_int) (ppa_cons (pp_ix (pp_v 3) pp_int) ppa_nil)))))))
  (ppb_one (pps_ret (pp_ite (ppt_cmp cmpP_notN (pp_ix (pp_ix (pp_v 0) (pp_un unP_neg pp_int)) pp_int) pp_non) (pp_op opP_add (pp_v 1) (pp_lst (ppa_cons (pp_tup (ppa_cons (pp_ix (pp_ix (pp_v 0) (pp_un unP_neg pp_int)) pp_int) (ppa_cons pp_non ppa_nil))) ppa_nil))) (pp_v 1)))))))
theorem ok__law_part {f : Addr} {fd : FuncData} {ql : Str} (T : Top mg K) (f__law_turned : FnM P w K mg base CX0 1 "_law_turned" s__law_turned ["runs"] m__law_turned) (Fu : L2.Fun K "_law_part" ql s__law_part f fd) (hm : mg "_law_part" = some (.ref f)) :
    FnM P w K mg base CX0 2 "_law_part" s__law_part ["part", "runs"] m__law_part :=
  fn_pure Fu hm sc__law_part rfl fun cdv A outer s H E hr hg =>
  (ppb_cons (pps_if (ppt_cmp (cmpP_eq (hu64 hr)) (pp_ix (pp_v 0) pp_int) pp_str)
   (ppb_one (pps_ret (pp_call f__law_turned bd__law_turned hr (by decide) hg pass0 (ppa_cons (pp_v 1) ppa_nil))))
   ppb_nil)
  (ppb_cons (pps_set 2 sc__law_part.nd (pp_lst ppa_nil))
  (ppb_cons (pps_for PassesOwn.never rfl (ppi_val (pp_v 1)) (ppg_tup (n := 2) rfl (ppgs_cons (ppg_n 3 sc__law_part.nd) (ppgs_cons (ppg_n 4 sc__law_part.nd) ppgs_nil)))
   (ppb_cons (pps_if (PPW.t (ppw_and (ppt_cmp (cmpP_ne (hu64 hr)) (pp_ix (pp_v 0) pp_int) pp_str) (ppw_and1 (ppt_cmp cmpP_notN (pp_v 3) pp_non))))
    (ppb_one (pps_set 3 sc__law_part.nd (pp_op opP_add (pp_v 3) (pp_ix (pp_v 0) pp_int))))
    ppb_nil)
   (ppb_cons (pps_if (PPW.t (ppw_and (ppt_cmp (cmpP_ne (hu64 hr)) (pp_ix (pp_v 0) pp_int) pp_str) (ppw_and1 (ppt_cmp cmpP_notN (pp_v 4) pp_non))))
    (ppb_one (pps_set 4 sc__law_part.nd (pp_op opP_add (pp_v 4) (pp_ix (pp_v 0) pp_int))))
    ppb_nil)
   (ppb_one (pps_if (PPW.t (ppw_and (ppt_cmp cmpP_notN (pp_v 3) pp_non) (ppw_and (ppt_cmp (cmpP_ne (hu64 hr)) (pp_v 2) (pp_lst ppa_nil)) (ppw_and1 (ppt_cmp cmpP_ge (pp_ix (pp_ix (pp_v 2) (pp_un unP_neg pp_int)) pp_int) (pp_v 3))))))
    (ppb_one (pps_asg (pp_tup (ppa_cons (pp_ix (pp_ix (pp_v 2) (pp_un unP_neg pp_int)) pp_int) (ppa_cons (pp_v 4) ppa_nil))) (ppg_sub (pp_v 2) (pp_un unP_neg pp_int))))
    (ppb_one (pps_if (PPW.t (ppw_or (ppt_cmp cmpP_isN (pp_v 3) pp_non) (ppw_or (ppt_cmp cmpP_isN (pp_v 4) pp_non) (ppw_or1 (ppt_cmp cmpP_lt (pp_v 3) (pp_v 4))))))
     (ppb_one (pps_exp (pp_append (pp_v 2) (ppa_cons (pp_tup (ppa_cons (pp_v 3) (ppa_cons (pp_v 4) ppa_nil))) ppa_nil))))
     ppb_nil)))))))
  (ppb_one (pps_ret (pp_v 2))))))
theorem ok__law_led {f : Addr} {fd : FuncData} {ql : Str} (T : Top mg K) (f__law_part : FnM P w K mg base CX0 2 "_law_part" s__law_part ["part", "runs"] m__law_part) (Fu : L2.Fun K "_law_led" ql s__law_led f fd) (hm : mg "_law_led" = some (.ref f)) :
    FnM P w K mg base CX0 3 "_law_led" s__law_led ["row", "runs"] m__law_led :=
  fn_pure Fu hm sc__law_led rfl fun cdv A outer s H E hr hg =>
  (ppb_cons (pps_set 2 sc__law_led.nd (pp_v 1))
  (ppb_cons (pps_for PassesOwn.never rfl (ppi_val (pp_v 0)) (ppg_n 3 sc__law_led.nd)
   (ppb_one (pps_set 2 sc__law_led.nd (pp_call f__law_part bd__law_part hr (by decide) hg pass0 (ppa_cons (pp_v 3) (ppa_cons (pp_v 2) ppa_nil))))))
  (ppb_one (pps_ret (pp_v 2)))))
theorem ok__law_signal {f : Addr} {fd : FuncData} {ql : Str} (T : Top mg K) (f__law_draw : FnM P w K mg base CX0 1 "_law_draw" s__law_draw ["jar", "many"] m__law_draw) (Fu : L2.Fun K "_law_signal" ql s__law_signal f fd) (hm : mg "_law_signal" = some (.ref f)) :
    FnM P w K mg base CX0 2 "_law_signal" s__law_signal ["jar", "ons", "offs", "most"] m__law_signal :=
  fn_pure Fu hm sc__law_signal rfl fun cdv A outer s H E hr hg =>
  (ppb_cons (pps_par 6 7 rfl sc__law_signal.nd (by decide) (pp_op opP_sub (pp_call f__law_draw bd__law_draw hr (by decide) hg pass0 (ppa_cons (pp_v 0) (ppa_cons pp_int ppa_nil))) pp_int) (pp_lst ppa_nil))
  (ppb_cons (pps_set 4 sc__law_signal.nd (pp_cmp (cmpP_eq (hu64 hr)) (pp_call f__law_draw bd__law_draw hr (by decide) hg pass0 (ppa_cons (pp_v 0) (ppa_cons pp_int ppa_nil))) pp_int))
  (ppb_cons (pps_par 8 9 rfl sc__law_signal.nd (by decide) (pp_op opP_add (pp_v 1) (pp_call f__law_draw bd__law_draw hr (by decide) hg pass0 (ppa_cons (pp_v 0) (ppa_cons (pp_v 3) ppa_nil)))) (pp_op opP_add (pp_v 2) (pp_call f__law_draw bd__law_draw hr (by decide) hg pass0 (ppa_cons (pp_v 0) (ppa_cons (pp_v 3) ppa_nil)))))
  (ppb_cons (pps_for PassesOwn.never rfl (ppi_rng1 T.b_range (pp_call f__law_draw bd__law_draw hr (by decide) hg pass0 (ppa_cons (pp_v 0) (ppa_cons pp_int ppa_nil)))) (ppg_n 5 sc__law_signal.nd)
   (ppb_cons (pps_if (ppt_not (PP.t (pp_v 4)))
    (ppb_one (pps_par 8 9 rfl sc__law_signal.nd (by decide) (pp_op opP_add (pp_v 1) (pp_call f__law_draw bd__law_draw hr (by decide) hg pass0 (ppa_cons (pp_v 0) (ppa_cons (pp_v 3) ppa_nil)))) (pp_op opP_add (pp_v 2) (pp_call f__law_draw bd__law_draw hr (by decide) hg pass0 (ppa_cons (pp_v 0) (ppa_cons (pp_v 3) ppa_nil))))))
    ppb_nil)
   (ppb_cons (pps_exp (pp_append (pp_v 7) (ppa_cons (pp_tup (ppa_cons (pp_v 6) (ppa_cons (pp_op opP_add (pp_v 6) (pp_v 8)) ppa_nil))) ppa_nil)))
   (ppb_one (pps_set 6 sc__law_signal.nd (pp_op opP_add (pp_op opP_add (pp_v 6) (pp_v 8)) (pp_v 9)))))))
  (ppb_cons (pps_if (PPW.t (ppw_and (ppt_cmp (cmpP_ne (hu64 hr)) (pp_v 7) (pp_lst ppa_nil)) (ppw_and1 (ppt_cmp (cmpP_eq (hu64 hr)) (pp_call f__law_draw bd__law_draw hr (by decide) hg pass0 (ppa_cons (pp_v 0) (ppa_cons pp_int ppa_nil))) pp_int))))
   (ppb_one (pps_asg (pp_tup (ppa_cons pp_non (ppa_cons (pp_ix (pp_ix (pp_v 7) pp_int) pp_int) ppa_nil))) (ppg_sub (pp_v 7) pp_int)))
   ppb_nil)
  (ppb_cons (pps_if (PPW.t (ppw_and (ppt_cmp (cmpP_ne (hu64 hr)) (pp_v 7) (pp_lst ppa_nil)) (ppw_and1 (ppt_cmp (cmpP_eq (hu64 hr)) (pp_call f__law_draw bd__law_draw hr (by decide) hg pass0 (ppa_cons (pp_v 0) (ppa_cons pp_int ppa_nil))) pp_int))))
   (ppb_one (pps_asg (pp_tup (ppa_cons (pp_ix (pp_ix (pp_v 7) (pp_un unP_neg pp_int)) pp_int) (ppa_cons pp_non ppa_nil))) (ppg_sub (pp_v 7) (pp_un unP_neg pp_int))))
   ppb_nil)
  (ppb_one (pps_ret (pp_v 7)))))))))
theorem ok__law_is_in {f : Addr} {fd : FuncData} {ql : Str} (T : Top mg K)  (Fu : L2.Fun K "_law_is_in" ql s__law_is_in f fd) (hm : mg "_law_is_in" = some (.ref f)) :
    FnM P w K mg base CX0 1 "_law_is_in" s__law_is_in ["runs", "others"] m__law_is_in :=
  fn_pure Fu hm sc__law_is_in rfl fun cdv A outer s H E hr hg =>
  (ppb_cons (pps_for PassesOwn.never rfl (ppi_val (pp_v 0)) (ppg_tup (n := 2) rfl (ppgs_cons (ppg_n 2 sc__law_is_in.nd) (ppgs_cons (ppg_n 3 sc__law_is_in.nd) ppgs_nil)))
   (ppb_cons (pps_set 4 sc__law_is_in.nd pp_bl)
   (ppb_cons (pps_for PassesOwn.never rfl (ppi_val (pp_v 1)) (ppg_tup (n := 2) rfl (ppgs_cons (ppg_n 5 sc__law_is_in.nd) (ppgs_cons (ppg_n 6 sc__law_is_in.nd) ppgs_nil)))
    (ppb_one (pps_if (PPW.t (ppw_and (PPW.t (ppw_or (ppt_cmp cmpP_isN (pp_v 5) pp_non) (ppw_or1 (PPW.t (ppw_and (ppt_cmp cmpP_notN (pp_v 2) pp_non) (ppw_and1 (ppt_cmp cmpP_le (pp_v 5) (pp_v 2)))))))) (ppw_and1 (PPW.t (ppw_or (ppt_cmp cmpP_isN (pp_v 6) pp_non) (ppw_or1 (PPW.t (ppw_and (ppt_cmp cmpP_notN (pp_v 3) pp_non) (ppw_and1 (ppt_cmp cmpP_le (pp_v 3) (pp_v 6)))))))))))
     (ppb_one (pps_set 4 sc__law_is_in.nd pp_bl))
     ppb_nil)))
   (ppb_one (pps_if (ppt_not (PP.t (pp_v 4)))
    (ppb_one (pps_ret pp_bl))
    ppb_nil)))))
  (ppb_one (pps_ret pp_bl)))
theorem ok__law_ticks {f : Addr} {fd : FuncData} {ql : Str} (T : Top mg K)  (Fu : L2.Fun K "_law_ticks" ql s__law_ticks f fd) (hm : mg "_law_ticks" = some (.ref f)) :
    FnM P w K mg base CX0 1 "_law_ticks" s__law_ticks ["row"] m__law_ticks :=
  fn_pure Fu hm sc__law_ticks rfl fun cdv A outer s H E hr hg =>
  (ppb_one (pps_ret (pp_callB (crP_sum rfl) T.b_sum boot_sum (ppa_cons (pp_lc (own := [("part", 1)]) rfl sc__law_ticks.nd (ppi_val (pp_v 0)) (blkOk_by (N := N__law_ticks) (sc := defScope s__law_ticks) (by decide +kernel)) (fun _ _ _ _ _ => (ppg_n 1 sc__law_ticks.nd)) (fun _ _ _ _ _ => (ppts_one (ppt_cmp (cmpP_in (hu65 hr)) (pp_ix (pp_v 1) pp_int) (pp_tup (ppa_cons pp_str (ppa_cons pp_str ppa_nil)))))) (fun _ _ _ _ _ => (pp_ix (pp_v 1) pp_int))) ppa_nil))))
theorem ok__law_trials {f : Addr} {fd : FuncData} {ql : Str} (T : Top mg K)  (Fu : L2.Fun K "_law_trials" ql s__law_trials f fd) (hm : mg "_law_trials" = some (.ref f)) :
    FnM P w K mg base CX0 1 "_law_trials" s__law_trials ["ons", "offs", "most"] m__law_trials :=
  fn_pure Fu hm sc__law_trials rfl fun cdv A outer s H E hr hg =>
  (ppb_cons (pps_set 3 sc__law_trials.nd (pp_lst (ppa_cons (pp_lst ppa_nil) (ppa_cons (pp_lst (ppa_cons (pp_tup (ppa_cons pp_non (ppa_cons pp_non ppa_nil))) ppa_nil)) (ppa_cons (pp_lst (ppa_cons (pp_tup (ppa_cons pp_int (ppa_cons pp_non ppa_nil))) ppa_nil)) (ppa_cons (pp_lst (ppa_cons (pp_tup (ppa_cons pp_non (ppa_cons pp_int ppa_nil))) ppa_nil)) ppa_nil))))))
  (ppb_cons (pps_for PassesOwn.never rfl (ppi_rng2w T.b_range (pp_v 1) (pp_op opP_add (pp_v 2) pp_int)) (ppg_n 4 sc__law_trials.nd)
   (ppb_one (pps_exp (pp_append (pp_v 3) (ppa_cons (pp_lst (ppa_cons (pp_tup (ppa_cons pp_non (ppa_cons pp_int ppa_nil))) (ppa_cons (pp_tup (ppa_cons (pp_v 4) (ppa_cons pp_non ppa_nil))) ppa_nil))) ppa_nil)))))
  (ppb_cons (pps_for PassesOwn.never rfl (ppi_rng2w T.b_range (pp_v 0) (pp_op opP_add (pp_v 2) pp_int)) (ppg_n 5 sc__law_trials.nd)
   (ppb_cons (pps_exp (pp_append (pp_v 3) (ppa_cons (pp_lst (ppa_cons (pp_tup (ppa_cons pp_int (ppa_cons (pp_v 5) ppa_nil))) ppa_nil)) ppa_nil)))
   (ppb_one (pps_for PassesOwn.never rfl (ppi_rng2w T.b_range (pp_v 1) (pp_op opP_add (pp_v 2) pp_int)) (ppg_n 4 sc__law_trials.nd)
    (ppb_cons (pps_set 6 sc__law_trials.nd (pp_lst (ppa_cons (pp_tup (ppa_cons pp_int (ppa_cons (pp_v 5) ppa_nil))) (ppa_cons (pp_tup (ppa_cons (pp_op opP_add (pp_v 5) (pp_v 4)) (ppa_cons (pp_op opP_add (pp_op opP_mul pp_int (pp_v 5)) (pp_v 4)) ppa_nil))) ppa_nil))))
    (ppb_cons (pps_while PassesOwn.never (ppt_cmp cmpP_le (pp_ix (pp_ix (pp_v 6) (pp_un unP_neg pp_int)) pp_int) (pp_v 2))
     (ppb_one (pps_exp (pp_append (pp_v 6) (ppa_cons (pp_tup (ppa_cons (pp_op opP_add (pp_ix (pp_ix (pp_v 6) (pp_un unP_neg pp_int)) pp_int) (pp_v 4)) (ppa_cons (pp_op opP_add (pp_op opP_add (pp_ix (pp_ix (pp_v 6) (pp_un unP_neg pp_int)) pp_int) (pp_v 4)) (pp_v 5)) ppa_nil))) ppa_nil)))))
    (ppb_one (pps_exp (pp_append (pp_v 3) (ppa_cons (pp_v 6) ppa_nil))))))))))
  (ppb_one (pps_ret (pp_v 3))))))
theorem ok__law_is_within {f : Addr} {fd : FuncData} {ql : Str} (T : Top mg K) (f__law_trials : FnM P w K mg base CX0 1 "_law_trials" s__law_trials ["ons", "offs", "most"] m__law_trials) (f__law_ticks : FnM P w K mg base CX0 1 "_law_ticks" s__law_ticks ["row"] m__law_ticks) (f__law_is_in : FnM P w K mg base CX0 1 "_law_is_in" s__law_is_in ["runs", "others"] m__law_is_in) (f__law_led : FnM P w K mg base CX0 3 "_law_led" s__law_led ["row", "runs"] m__law_led) (Fu : L2.Fun K "_law_is_within" ql s__law_is_within f fd) (hm : mg "_law_is_within" = some (.ref f)) :
    FnM P w K mg base CX0 4 "_law_is_within" s__law_is_within ["one", "other", "ons", "offs"] m__law_is_within :=
  fn_pure Fu hm sc__law_is_within rfl fun cdv A outer s H E hr hg =>
  (ppb_cons (pps_for PassesOwn.never rfl (ppi_val (pp_call f__law_trials bd__law_trials hr (by decide) hg pass0 (ppa_cons (pp_v 2) (ppa_cons (pp_v 3) (ppa_cons (pp_callB (crP_max rfl) T.b_max boot_max (ppa_cons (pp_call f__law_ticks bd__law_ticks hr (by decide) hg pass0 (ppa_cons (pp_v 0) ppa_nil)) (ppa_cons (pp_call f__law_ticks bd__law_ticks hr (by decide) hg pass0 (ppa_cons (pp_v 1) ppa_nil)) ppa_nil))) ppa_nil))))) (ppg_n 4 sc__law_is_within.nd)
   (ppb_one (pps_if (ppt_not (PP.t (pp_call f__law_is_in bd__law_is_in hr (by decide) hg pass0 (ppa_cons (pp_call f__law_led bd__law_led hr (by decide) hg pass0 (ppa_cons (pp_v 0) (ppa_cons (pp_v 4) ppa_nil))) (ppa_cons (pp_call f__law_led bd__law_led hr (by decide) hg pass0 (ppa_cons (pp_v 1) (ppa_cons (pp_v 4) ppa_nil))) ppa_nil)))))
    (ppb_one (pps_ret pp_bl))
    ppb_nil)))
  (ppb_one (pps_ret pp_bl)))
theorem ok__law_pick {f : Addr} {fd : FuncData} {ql : Str} (T : Top mg K) (f__law_draw : FnM P w K mg base CX0 1 "_law_draw" s__law_draw ["jar", "many"] m__law_draw) (Fu : L2.Fun K "_law_pick" ql s__law_pick f fd) (hm : mg "_law_pick" = some (.ref f)) :
    FnM P w K mg base CX0 2 "_law_pick" s__law_pick ["jar", "items"] m__law_pick :=
  fn_pure Fu hm sc__law_pick rfl fun cdv A outer s H E hr hg =>
  (ppb_one (pps_ret (pp_ix (pp_v 1) (pp_call f__law_draw bd__law_draw hr (by decide) hg pass0 (ppa_cons (pp_v 0) (ppa_cons (pp_callB crP_len T.b_len boot_len (ppa_cons (pp_v 1) ppa_nil)) ppa_nil))))))
theorem ok__law_row {f : Addr} {fd : FuncData} {ql : Str} (T : Top mg K) (f__law_pick : FnM P w K mg base CX0 2 "_law_pick" s__law_pick ["jar", "items"] m__law_pick) (f__law_draw : FnM P w K mg base CX0 1 "_law_draw" s__law_draw ["jar", "many"] m__law_draw) (Fu : L2.Fun K "_law_row" ql s__law_row f fd) (hm : mg "_law_row" = some (.ref f)) :
    FnM P w K mg base CX0 3 "_law_row" s__law_row ["jar", "many", "most", "turns"] m__law_row :=
  fn_pure Fu hm sc__law_row rfl fun cdv A outer s H E hr hg =>
  (ppb_cons (pps_par 5 6 rfl sc__law_row.nd (by decide) (pp_call f__law_pick bd__law_pick hr (by decide) hg pass0 (ppa_cons (pp_v 0) (ppa_cons (pp_lst (ppa_cons (pp_lst (ppa_cons pp_str (ppa_cons pp_str ppa_nil))) (ppa_cons (pp_lst (ppa_cons pp_str (ppa_cons pp_str ppa_nil))) (ppa_cons (pp_lst (ppa_cons pp_str (ppa_cons pp_str (ppa_cons pp_str ppa_nil)))) (ppa_cons (pp_lst (ppa_cons pp_str ppa_nil)) (ppa_cons (pp_lst (ppa_cons pp_str ppa_nil)) ppa_nil)))))) ppa_nil))) (pp_lst ppa_nil))
  (ppb_cons (pps_for PassesOwn.never rfl (ppi_rng1 T.b_range (pp_call f__law_draw bd__law_draw hr (by decide) hg pass0 (ppa_cons (pp_v 0) (ppa_cons (pp_op opP_add (pp_v 1) pp_int) ppa_nil)))) (ppg_n 4 sc__law_row.nd)
   (ppb_one (pps_if (PPW.t (ppw_and (ppt_cmp cmpP_gt (pp_v 3) pp_int) (ppw_and1 (ppt_cmp (cmpP_eq (hu64 hr)) (pp_call f__law_draw bd__law_draw hr (by decide) hg pass0 (ppa_cons (pp_v 0) (ppa_cons (pp_v 3) ppa_nil))) pp_int))))
    (ppb_one (pps_exp (pp_append (pp_v 6) (ppa_cons (pp_tup (ppa_cons pp_str ppa_nil)) ppa_nil))))
    (ppb_one (pps_exp (pp_append (pp_v 6) (ppa_cons (pp_tup (ppa_cons (pp_call f__law_pick bd__law_pick hr (by decide) hg pass0 (ppa_cons (pp_v 0) (ppa_cons (pp_v 5) ppa_nil))) (ppa_cons (pp_call f__law_pick bd__law_pick hr (by decide) hg pass0 (ppa_cons (pp_v 0) (ppa_cons (pp_lst (ppa_cons pp_int (ppa_cons pp_int (ppa_cons pp_int (ppa_cons pp_int (ppa_cons pp_int (ppa_cons pp_int (ppa_cons (pp_v 2) (ppa_cons (pp_call f__law_draw bd__law_draw hr (by decide) hg pass0 (ppa_cons (pp_v 0) (ppa_cons (pp_op opP_add (pp_v 2) pp_int) ppa_nil))) ppa_nil))))))))) ppa_nil))) ppa_nil))) ppa_nil)))))))
  (ppb_one (pps_ret (pp_callTy crP_tuple T.b_tuple boot_tuple (ppa_cons (pp_v 6) ppa_nil))))))
theorem ok__law_near {f : Addr} {fd : FuncData} {ql : Str} (T : Top mg K) (f__law_draw : FnM P w K mg base CX0 1 "_law_draw" s__law_draw ["jar", "many"] m__law_draw) (f__law_row : FnM P w K mg base CX0 3 "_law_row" s__law_row ["jar", "many", "most", "turns"] m__law_row) (f__law_pick : FnM P w K mg base CX0 2 "_law_pick" s__law_pick ["jar", "items"] m__law_pick) (Fu : L2.Fun K "_law_near" ql s__law_near f fd) (hm : mg "_law_near" = some (.ref f)) :
    FnM P w K mg base CX0 4 "_law_near" s__law_near ["jar", "row", "most"] m__law_near :=
  fn_pure Fu hm sc__law_near rfl fun cdv A outer s H E hr hg =>
  (ppb_cons (pps_par 3 4 rfl sc__law_near.nd (by decide) (pp_call f__law_draw bd__law_draw hr (by decide) hg pass0 (ppa_cons (pp_v 0) (ppa_cons (pp_op opP_add (pp_callB crP_len T.b_len boot_len (ppa_cons (pp_v 1) ppa_nil)) pp_int) ppa_nil))) (pp_call f__law_draw bd__law_draw hr (by decide) hg pass0 (ppa_cons (pp_v 0) (ppa_cons pp_int ppa_nil))))
  (ppb_cons (pps_if (PPW.t (ppw_or (ppt_cmp (cmpP_eq (hu64 hr)) (pp_v 4) pp_int) (ppw_or1 (ppt_cmp (cmpP_eq (hu64 hr)) (pp_v 1) (pp_tup ppa_nil)))))
   (ppb_one (pps_ret (pp_call f__law_row bd__law_row hr (by decide) hg pass0 (ppa_cons (pp_v 0) (ppa_cons pp_int (ppa_cons (pp_v 2) (ppa_cons pp_int ppa_nil)))))))
   ppb_nil)
  (ppb_cons (pps_if (ppt_cmp (cmpP_eq (hu64 hr)) (pp_v 4) pp_int)
   (ppb_one (pps_ret (pp_op opP_add (pp_sl (pp_v 1) ppo_none (ppo_some (pp_v 3))) (pp_sl (pp_v 1) (ppo_some (pp_op opP_add (pp_v 3) pp_int)) ppo_none))))
   ppb_nil)
  (ppb_cons (pps_if (ppt_cmp (cmpP_eq (hu64 hr)) (pp_v 4) pp_int)
   (ppb_one (pps_ret (pp_op opP_add (pp_op opP_add (pp_sl (pp_v 1) ppo_none (ppo_some (pp_v 3))) (pp_tup (ppa_cons (pp_tup (ppa_cons (pp_call f__law_pick bd__law_pick hr (by decide) hg pass0 (ppa_cons (pp_v 0) (ppa_cons (pp_lst (ppa_cons pp_str (ppa_cons pp_str (ppa_cons pp_str ppa_nil)))) ppa_nil))) (ppa_cons (pp_call f__law_draw bd__law_draw hr (by decide) hg pass0 (ppa_cons (pp_v 0) (ppa_cons pp_int ppa_nil))) ppa_nil))) ppa_nil))) (pp_sl (pp_v 1) (ppo_some (pp_v 3)) ppo_none))))
   ppb_nil)
  (ppb_cons (pps_if (ppt_cmp (cmpP_eq (hu64 hr)) (pp_v 4) pp_int)
   (ppb_one (pps_ret (pp_op opP_add (pp_op opP_add (pp_sl (pp_v 1) ppo_none (ppo_some (pp_v 3))) (pp_revL (pp_sl (pp_v 1) (ppo_some (pp_v 3)) (ppo_some (pp_op opP_add (pp_v 3) pp_int))))) (pp_sl (pp_v 1) (ppo_some (pp_op opP_add (pp_v 3) pp_int)) ppo_none))))
   ppb_nil)
  (ppb_cons (pps_set 3 sc__law_near.nd (pp_callB (crP_min rfl) T.b_min boot_min (ppa_cons (pp_v 3) (ppa_cons (pp_op opP_sub (pp_callB crP_len T.b_len boot_len (ppa_cons (pp_v 1) ppa_nil)) pp_int) ppa_nil))))
  (ppb_cons (pps_if (PPW.t (ppw_and (ppt_cmp (cmpP_eq (hu64 hr)) (pp_v 4) pp_int) (ppw_and1 (ppt_cmp (cmpP_ne (hu64 hr)) (pp_ix (pp_ix (pp_v 1) (pp_v 3)) pp_int) pp_str))))
   (ppb_one (pps_ret (pp_op opP_add (pp_op opP_add (pp_sl (pp_v 1) ppo_none (ppo_some (pp_v 3))) (pp_tup (ppa_cons (pp_tup (ppa_cons (pp_ix (pp_ix (pp_v 1) (pp_v 3)) pp_int) (ppa_cons (pp_callB (crP_max rfl) T.b_max boot_max (ppa_cons pp_int (ppa_cons (pp_op opP_sub (pp_op opP_add (pp_ix (pp_ix (pp_v 1) (pp_v 3)) pp_int) (pp_call f__law_draw bd__law_draw hr (by decide) hg pass0 (ppa_cons (pp_v 0) (ppa_cons pp_int ppa_nil)))) pp_int) ppa_nil))) ppa_nil))) ppa_nil))) (pp_sl (pp_v 1) (ppo_some (pp_op opP_add (pp_v 3) pp_int)) ppo_none))))
   ppb_nil)
  (ppb_cons (pps_if (PPW.t (ppw_and (ppt_cmp (cmpP_eq (hu64 hr)) (pp_v 4) pp_int) (ppw_and1 (ppt_cmp (cmpP_ne (hu64 hr)) (pp_ix (pp_ix (pp_v 1) (pp_v 3)) pp_int) pp_str))))
   (ppb_one (pps_ret (pp_op opP_add (pp_op opP_add (pp_sl (pp_v 1) ppo_none (ppo_some (pp_v 3))) (pp_tup (ppa_cons (pp_tup (ppa_cons (pp_ix (pp_ix (pp_v 1) (pp_v 3)) pp_int) (ppa_cons (pp_op opP_div (pp_ix (pp_ix (pp_v 1) (pp_v 3)) pp_int) pp_int) ppa_nil))) (ppa_cons (pp_tup (ppa_cons (pp_ix (pp_ix (pp_v 1) (pp_v 3)) pp_int) (ppa_cons (pp_op opP_sub (pp_ix (pp_ix (pp_v 1) (pp_v 3)) pp_int) (pp_op opP_div (pp_ix (pp_ix (pp_v 1) (pp_v 3)) pp_int) pp_int)) ppa_nil))) ppa_nil)))) (pp_sl (pp_v 1) (ppo_some (pp_op opP_add (pp_v 3) pp_int)) ppo_none))))
   ppb_nil)
  (ppb_one (pps_ret (pp_op opP_add (pp_v 1) (pp_sl (pp_tup (ppa_cons (pp_tup (ppa_cons pp_str (ppa_cons pp_int ppa_nil))) (ppa_cons (pp_tup (ppa_cons pp_str (ppa_cons pp_int ppa_nil))) ppa_nil))) ppo_none (ppo_some (pp_call f__law_draw bd__law_draw hr (by decide) hg pass0 (ppa_cons (pp_v 0) (ppa_cons pp_int ppa_nil))))))))))))))))
theorem ok__law_pair {f : Addr} {fd : FuncData} {ql : Str} (T : Top mg K) (f__law_row : FnM P w K mg base CX0 3 "_law_row" s__law_row ["jar", "many", "most", "turns"] m__law_row) (f__law_pick : FnM P w K mg base CX0 2 "_law_pick" s__law_pick ["jar", "items"] m__law_pick) (f__law_ticks : FnM P w K mg base CX0 1 "_law_ticks" s__law_ticks ["row"] m__law_ticks) (f__law_near : FnM P w K mg base CX0 4 "_law_near" s__law_near ["jar", "row", "most"] m__law_near) (f__law_draw : FnM P w K mg base CX0 1 "_law_draw" s__law_draw ["jar", "many"] m__law_draw) (Fu : L2.Fun K "_law_pair" ql s__law_pair f fd) (hm : mg "_law_pair" = some (.ref f)) :
    FnM P w K mg base CX0 5 "_law_pair" s__law_pair ["jar"] m__law_pair :=
  fn_pure Fu hm sc__law_pair rfl fun cdv A outer s H E hr hg =>
  (ppb_cons (pps_set 1 sc__law_pair.nd (pp_call f__law_row bd__law_row hr (by decide) hg pass0 (ppa_cons (pp_v 0) (ppa_cons pp_int (ppa_cons pp_int (ppa_cons (pp_call f__law_pick bd__law_pick hr (by decide) hg pass0 (ppa_cons (pp_v 0) (ppa_cons (pp_lst (ppa_cons pp_int (ppa_cons pp_int (ppa_cons pp_int ppa_nil)))) ppa_nil))) ppa_nil))))))
  (ppb_cons (pps_while PassesOwn.never (ppt_cmp cmpP_gt (pp_call f__law_ticks bd__law_ticks hr (by decide) hg pass0 (ppa_cons (pp_v 1) ppa_nil)) pp_int)
   (ppb_one (pps_set 1 sc__law_pair.nd (pp_sl (pp_v 1) (ppo_some pp_int) ppo_none))))
  (ppb_cons (pps_set 2 sc__law_pair.nd (pp_call f__law_near bd__law_near hr (by decide) hg pass0 (ppa_cons (pp_v 0) (ppa_cons (pp_v 1) (ppa_cons pp_int ppa_nil)))))
  (ppb_cons (pps_while PassesOwn.never (ppt_cmp cmpP_gt (pp_call f__law_ticks bd__law_ticks hr (by decide) hg pass0 (ppa_cons (pp_v 2) ppa_nil)) pp_int)
   (ppb_one (pps_set 2 sc__law_pair.nd (pp_sl (pp_v 2) (ppo_some pp_int) ppo_none))))
  (ppb_one (pps_ret (pp_ite (ppt_cmp (cmpP_eq (hu64 hr)) (pp_call f__law_draw bd__law_draw hr (by decide) hg pass0 (ppa_cons (pp_v 0) (ppa_cons pp_int ppa_nil))) pp_int) (pp_tup (ppa_cons (pp_v 1) (ppa_cons (pp_v 2) ppa_nil))) (pp_tup (ppa_cons (pp_v 2) (ppa_cons (pp_v 1) ppa_nil))))))))))
theorem ok__law_swapped {f : Addr} {fd : FuncData} {ql : Str} (T : Top mg K) (f__law_draw : FnM P w K mg base CX0 1 "_law_draw" s__law_draw ["jar", "many"] m__law_draw) (Fu : L2.Fun K "_law_swapped" ql s__law_swapped f fd) (hm : mg "_law_swapped" = some (.ref f)) :
    FnM P w K mg base CX0 2 "_law_swapped" s__law_swapped ["jar"] m__law_swapped :=
  fn_pure Fu hm sc__law_swapped rfl fun cdv A outer s H E hr hg =>
  (ppb_cons (pps_par 2 3 rfl sc__law_swapped.nd (by decide) (pp_op opP_add pp_int (pp_call f__law_draw bd__law_draw hr (by decide) hg pass0 (ppa_cons (pp_v 0) (ppa_cons pp_int ppa_nil)))) (pp_op opP_add pp_int (pp_call f__law_draw bd__law_draw hr (by decide) hg pass0 (ppa_cons (pp_v 0) (ppa_cons pp_int ppa_nil)))))
  (ppb_cons (pps_set 1 sc__law_swapped.nd (pp_tup (ppa_cons (pp_tup (ppa_cons pp_str (ppa_cons (pp_v 2) ppa_nil))) (ppa_cons (pp_tup (ppa_cons pp_str (ppa_cons (pp_op opP_add (pp_v 2) (pp_v 3)) ppa_nil))) (ppa_cons (pp_tup (ppa_cons pp_str (ppa_cons (pp_v 3) ppa_nil))) ppa_nil)))))
  (ppb_one (pps_ret (pp_tup (ppa_cons (pp_v 1) (ppa_cons (pp_tup (ppa_cons (pp_tup (ppa_cons pp_str (ppa_cons (pp_v 3) ppa_nil))) (ppa_cons (pp_tup (ppa_cons pp_str (ppa_cons (pp_op opP_add (pp_v 2) (pp_v 3)) ppa_nil))) (ppa_cons (pp_tup (ppa_cons pp_str (ppa_cons (pp_v 2) ppa_nil))) ppa_nil)))) ppa_nil)))))))
theorem ok_law {f : Addr} {fd : FuncData} {ql : Str} (T : Top mg K) (f__law_jar : FnM P w K mg base CX0 1 "_law_jar" s__law_jar ["script"] m__law_jar) (f__law_pair : FnM P w K mg base CX0 5 "_law_pair" s__law_pair ["jar"] m__law_pair) (f__law_draw : FnM P w K mg base CX0 1 "_law_draw" s__law_draw ["jar", "many"] m__law_draw) (f__law_swapped : FnM P w K mg base CX0 2 "_law_swapped" s__law_swapped ["jar"] m__law_swapped) (f__law_is_within : FnM P w K mg base CX0 4 "_law_is_within" s__law_is_within ["one", "other", "ons", "offs"] m__law_is_within) (f_within_for : FnM P w K mg base CX0 7 "within_for" s_within_for ["one", "other", "ons", "offs"] m_within_for) (f_alike_for : FnM P w K mg base CX0 7 "alike_for" s_alike_for ["one", "other", "ons", "offs"] m_alike_for) (f__law_signal : FnM P w K mg base CX0 2 "_law_signal" s__law_signal ["jar", "ons", "offs", "most"] m__law_signal) (f__law_is_in : FnM P w K mg base CX0 1 "_law_is_in" s__law_is_in ["runs", "others"] m__law_is_in) (f__law_led : FnM P w K mg base CX0 3 "_law_led" s__law_led ["row", "runs"] m__law_led) (Fu : L2.Fun K "law" ql s_law f fd) (hm : mg "law" = some (.ref f)) :
    FnM P w K mg base CX0 8 "law" s_law ["script"] m_law :=
  fn_pure Fu hm sc_law rfl fun cdv A outer s H E hr hg =>
  (ppb_cons (pps_set 1 sc_law.nd (pp_call f__law_jar bd__law_jar hr (by decide) hg pass0 (ppa_cons (pp_v 0) ppa_nil)))
  (ppb_cons (pps_for PassesOwn.never rfl (ppi_rng1 T.b_range pp_int) (ppg_n 2 sc_law.nd)
   (ppb_cons (pps_asg (pp_call f__law_pair bd__law_pair hr (by decide) hg pass0 (ppa_cons (pp_v 1) ppa_nil)) (ppg_tup (n := 2) rfl (ppgs_cons (ppg_n 6 sc_law.nd) (ppgs_cons (ppg_n 7 sc_law.nd) ppgs_nil))))
   (ppb_cons (pps_if (ppt_cmp (cmpP_eq (hu64 hr)) (pp_call f__law_draw bd__law_draw hr (by decide) hg pass0 (ppa_cons (pp_v 1) (ppa_cons pp_int ppa_nil))) pp_int)
    (ppb_one (pps_asg (pp_call f__law_swapped bd__law_swapped hr (by decide) hg pass0 (ppa_cons (pp_v 1) ppa_nil)) (ppg_tup (n := 2) rfl (ppgs_cons (ppg_n 6 sc_law.nd) (ppgs_cons (ppg_n 7 sc_law.nd) ppgs_nil)))))
    ppb_nil)
   (ppb_cons (pps_par 8 9 rfl sc_law.nd (by decide) (pp_op opP_add pp_int (pp_call f__law_draw bd__law_draw hr (by decide) hg pass0 (ppa_cons (pp_v 1) (ppa_cons pp_int ppa_nil)))) (pp_op opP_add pp_int (pp_call f__law_draw bd__law_draw hr (by decide) hg pass0 (ppa_cons (pp_v 1) (ppa_cons pp_int ppa_nil)))))
   (ppb_cons (pps_par 10 11 rfl sc_law.nd (by decide) (pp_call f__law_is_within bd__law_is_within hr (by decide) hg pass0 (ppa_cons (pp_v 6) (ppa_cons (pp_v 7) (ppa_cons (pp_v 8) (ppa_cons (pp_v 9) ppa_nil))))) (pp_callB (crP_repr hg (hu65 hr)) T.b_repr boot_repr (ppa_cons (pp_lst (ppa_cons (pp_v 6) (ppa_cons (pp_v 7) ppa_nil))) ppa_nil)))
   (ppb_cons (pps_set 3 sc_law.nd (pp_ite (ppt_cmp (cmpP_eq (hu64 hr)) (pp_v 2) pp_int) (pp_callK0 f_within_for bk_within_for_0_offs_ons_other_one hr (by decide) hg pass0 (ppk_cons (pp_v 9) (ppk_cons (pp_v 8) (ppk_cons (pp_v 7) (ppk_cons (pp_v 6) ppk_nil)))) (fun l hl => match l, hl with | [_, _, _, _], _ => rfl)) (pp_call f_within_for bd_within_for hr (by decide) hg pass0 (ppa_cons (pp_v 6) (ppa_cons (pp_v 7) (ppa_cons (pp_v 8) (ppa_cons (pp_v 9) ppa_nil)))))))
   (ppb_cons (pps_if (PPW.t (ppw_or (ppt_cmp (cmpP_ne (hu64 hr)) (pp_callB (crP_repr hg (hu65 hr)) T.b_repr boot_repr (ppa_cons (pp_v 3) ppa_nil)) (pp_callB (crP_repr hg (hu65 hr)) T.b_repr boot_repr (ppa_cons (pp_v 10) ppa_nil))) (ppw_or1 (ppt_cmp (cmpP_ne (hu64 hr)) (pp_callB (crP_repr hg (hu65 hr)) T.b_repr boot_repr (ppa_cons (pp_lst (ppa_cons (pp_v 6) (ppa_cons (pp_v 7) ppa_nil))) ppa_nil)) (pp_v 11)))))
    (ppb_one (pps_ret pp_bl))
    ppb_nil)
   (ppb_cons (pps_set 4 sc_law.nd (pp_call f_within_for bd_within_for hr (by decide) hg pass0 (ppa_cons (pp_v 7) (ppa_cons (pp_v 6) (ppa_cons (pp_v 8) (ppa_cons (pp_v 9) ppa_nil))))))
   (ppb_cons (pps_if (ppt_cmp (cmpP_ne (hu64 hr)) (pp_callB (crP_repr hg (hu65 hr)) T.b_repr boot_repr (ppa_cons (pp_v 4) ppa_nil)) (pp_callB (crP_repr hg (hu65 hr)) T.b_repr boot_repr (ppa_cons (pp_call f__law_is_within bd__law_is_within hr (by decide) hg pass0 (ppa_cons (pp_v 7) (ppa_cons (pp_v 6) (ppa_cons (pp_v 8) (ppa_cons (pp_v 9) ppa_nil))))) ppa_nil)))
    (ppb_one (pps_ret pp_bl))
    ppb_nil)
   (ppb_cons (pps_if (ppt_cmp (cmpP_ne (hu64 hr)) (pp_callB (crP_repr hg (hu65 hr)) T.b_repr boot_repr (ppa_cons (pp_call f_alike_for bd_alike_for hr (by decide) hg pass0 (ppa_cons (pp_v 6) (ppa_cons (pp_v 7) (ppa_cons (pp_v 8) (ppa_cons (pp_v 9) ppa_nil))))) ppa_nil)) (pp_callB (crP_repr hg (hu65 hr)) T.b_repr boot_repr (ppa_cons (pp_and (pp_v 10) (pp_one (pp_v 4))) ppa_nil)))
    (ppb_one (pps_ret pp_bl))
    ppb_nil)
   (ppb_cons (pps_for PassesOwn.never rfl (ppi_rng1 T.b_range (pp_ite (PP.t (pp_v 10)) pp_int pp_int)) (ppg_n 5 sc_law.nd)
    (ppb_cons (pps_set 12 sc_law.nd (pp_call f__law_signal bd__law_signal hr (by decide) hg pass0 (ppa_cons (pp_v 1) (ppa_cons (pp_v 8) (ppa_cons (pp_v 9) (ppa_cons pp_int ppa_nil))))))
    (ppb_one (pps_if (ppt_not (PP.t (pp_call f__law_is_in bd__law_is_in hr (by decide) hg pass0 (ppa_cons (pp_call f__law_led bd__law_led hr (by decide) hg pass0 (ppa_cons (pp_v 6) (ppa_cons (pp_v 12) ppa_nil))) (ppa_cons (pp_call f__law_led bd__law_led hr (by decide) hg pass0 (ppa_cons (pp_v 7) (ppa_cons (pp_v 12) ppa_nil))) ppa_nil)))))
     (ppb_one (pps_ret pp_bl))
     ppb_nil))))
   (ppb_one (pps_if (PPW.t (ppw_and (PP.t (pp_v 10)) (ppw_and1 (ppt_cmp cmpP_notB (pp_call f_within_for bd_within_for hr (by decide) hg pass0 (ppa_cons (pp_v 6) (ppa_cons (pp_v 7) (ppa_cons (pp_op opP_add (pp_v 8) (pp_call f__law_draw bd__law_draw hr (by decide) hg pass0 (ppa_cons (pp_v 1) (ppa_cons pp_int ppa_nil)))) (ppa_cons (pp_op opP_add (pp_v 9) (pp_call f__law_draw bd__law_draw hr (by decide) hg pass0 (ppa_cons (pp_v 1) (ppa_cons pp_int ppa_nil)))) ppa_nil))))) pp_bl))))
    (ppb_one (pps_ret pp_bl))
    ppb_nil)))))))))))))
  (ppb_one (pps_ret pp_bl))))
end
theorem all_mk {P : Program} {w : World} {K : PySem.W.Frag} {mg : Str → Option Value} {h base : Heap} (X : K.In h) (G : h.Ns mainGlobals mg)
    (z_abs : PySem.W.nsIn K mainGlobals "abs" = some none)
    (z_enumerate : PySem.W.nsIn K mainGlobals "enumerate" = some none)
    (z_int : PySem.W.nsIn K mainGlobals "int" = some none)
    (z_len : PySem.W.nsIn K mainGlobals "len" = some none)
    (z_max : PySem.W.nsIn K mainGlobals "max" = some none)
    (z_min : PySem.W.nsIn K mainGlobals "min" = some none)
    (z_range : PySem.W.nsIn K mainGlobals "range" = some none)
    (z_repr : PySem.W.nsIn K mainGlobals "repr" = some none)
    (z_sum : PySem.W.nsIn K mainGlobals "sum" = some none)
    (z_tuple : PySem.W.nsIn K mainGlobals "tuple" = some none)
    (z_zip : PySem.W.nsIn K mainGlobals "zip" = some none)
    {t_DROP : Tok} (y_DROP : PySem.W.nsIn K mainGlobals "DROP" = some (some (.str "drop" t_DROP)))
    {t_FILL : Tok} (y_FILL : PySem.W.nsIn K mainGlobals "FILL" = some (some (.str "fill" t_FILL)))
    {t_TURN : Tok} (y_TURN : PySem.W.nsIn K mainGlobals "TURN" = some (some (.str "turn" t_TURN)))
    {f_ticks_up : Addr} {oc_ticks_up kV_ticks_up dc_ticks_up pm_ticks_up cd_ticks_up ct_ticks_up : Value} {od_ticks_up an_ticks_up : Option Addr} {sl_ticks_up : Array (Option Value)}
    (a_ticks_up : PySem.W.nsIn K mainGlobals "ticks_up" = some (some (.ref f_ticks_up)))
    (l_ticks_up : K.lookup f_ticks_up = some ⟨oc_ticks_up, od_ticks_up, .func (PySem.W.fnOf "ticks_up" "ticks_up" (defArgs s_ticks_up) (defBody s_ticks_up) (defScope s_ticks_up) .none kV_ticks_up dc_ticks_up pm_ticks_up an_ticks_up cd_ticks_up ct_ticks_up), sl_ticks_up⟩)
    (c_ticks_up : PySem.W.codeIn K cd_ticks_up "ticks_up" = true) (k_ticks_up : PySem.W.keepIn K (.ref f_ticks_up) = true)
    {f_moves : Addr} {oc_moves kV_moves dc_moves pm_moves cd_moves ct_moves : Value} {od_moves an_moves : Option Addr} {sl_moves : Array (Option Value)}
    (a_moves : PySem.W.nsIn K mainGlobals "moves" = some (some (.ref f_moves)))
    (l_moves : K.lookup f_moves = some ⟨oc_moves, od_moves, .func (PySem.W.fnOf "moves" "moves" (defArgs s_moves) (defBody s_moves) (defScope s_moves) .none kV_moves dc_moves pm_moves an_moves cd_moves ct_moves), sl_moves⟩)
    (c_moves : PySem.W.codeIn K cd_moves "moves" = true) (k_moves : PySem.W.keepIn K (.ref f_moves) = true)
    {f_heights : Addr} {oc_heights kV_heights dc_heights pm_heights cd_heights ct_heights : Value} {od_heights an_heights : Option Addr} {sl_heights : Array (Option Value)}
    (a_heights : PySem.W.nsIn K mainGlobals "heights" = some (some (.ref f_heights)))
    (l_heights : K.lookup f_heights = some ⟨oc_heights, od_heights, .func (PySem.W.fnOf "heights" "heights" (defArgs s_heights) (defBody s_heights) (defScope s_heights) .none kV_heights dc_heights pm_heights an_heights cd_heights ct_heights), sl_heights⟩)
    (c_heights : PySem.W.codeIn K cd_heights "heights" = true) (k_heights : PySem.W.keepIn K (.ref f_heights) = true)
    {f_with_stage : Addr} {oc_with_stage kV_with_stage dc_with_stage pm_with_stage cd_with_stage ct_with_stage : Value} {od_with_stage an_with_stage : Option Addr} {sl_with_stage : Array (Option Value)}
    (a_with_stage : PySem.W.nsIn K mainGlobals "with_stage" = some (some (.ref f_with_stage)))
    (l_with_stage : K.lookup f_with_stage = some ⟨oc_with_stage, od_with_stage, .func (PySem.W.fnOf "with_stage" "with_stage" (defArgs s_with_stage) (defBody s_with_stage) (defScope s_with_stage) .none kV_with_stage dc_with_stage pm_with_stage an_with_stage cd_with_stage ct_with_stage), sl_with_stage⟩)
    (c_with_stage : PySem.W.codeIn K cd_with_stage "with_stage" = true) (k_with_stage : PySem.W.keepIn K (.ref f_with_stage) = true)
    {f_stages_beyond : Addr} {oc_stages_beyond kV_stages_beyond dc_stages_beyond pm_stages_beyond cd_stages_beyond ct_stages_beyond : Value} {od_stages_beyond an_stages_beyond : Option Addr} {sl_stages_beyond : Array (Option Value)}
    (a_stages_beyond : PySem.W.nsIn K mainGlobals "stages_beyond" = some (some (.ref f_stages_beyond)))
    (l_stages_beyond : K.lookup f_stages_beyond = some ⟨oc_stages_beyond, od_stages_beyond, .func (PySem.W.fnOf "stages_beyond" "stages_beyond" (defArgs s_stages_beyond) (defBody s_stages_beyond) (defScope s_stages_beyond) .none kV_stages_beyond dc_stages_beyond pm_stages_beyond an_stages_beyond cd_stages_beyond ct_stages_beyond), sl_stages_beyond⟩)
    (c_stages_beyond : PySem.W.codeIn K cd_stages_beyond "stages_beyond" = true) (k_stages_beyond : PySem.W.keepIn K (.ref f_stages_beyond) = true)
    {f_form_beyond : Addr} {oc_form_beyond kV_form_beyond dc_form_beyond pm_form_beyond cd_form_beyond ct_form_beyond : Value} {od_form_beyond an_form_beyond : Option Addr} {sl_form_beyond : Array (Option Value)}
    (a_form_beyond : PySem.W.nsIn K mainGlobals "form_beyond" = some (some (.ref f_form_beyond)))
    (l_form_beyond : K.lookup f_form_beyond = some ⟨oc_form_beyond, od_form_beyond, .func (PySem.W.fnOf "form_beyond" "form_beyond" (defArgs s_form_beyond) (defBody s_form_beyond) (defScope s_form_beyond) .none kV_form_beyond dc_form_beyond pm_form_beyond an_form_beyond cd_form_beyond ct_form_beyond), sl_form_beyond⟩)
    (c_form_beyond : PySem.W.codeIn K cd_form_beyond "form_beyond" = true) (k_form_beyond : PySem.W.keepIn K (.ref f_form_beyond) = true)
    {f_form_for : Addr} {oc_form_for kV_form_for dc_form_for pm_form_for cd_form_for ct_form_for : Value} {od_form_for an_form_for : Option Addr} {sl_form_for : Array (Option Value)}
    (a_form_for : PySem.W.nsIn K mainGlobals "form_for" = some (some (.ref f_form_for)))
    (l_form_for : K.lookup f_form_for = some ⟨oc_form_for, od_form_for, .func (PySem.W.fnOf "form_for" "form_for" (defArgs s_form_for) (defBody s_form_for) (defScope s_form_for) .none kV_form_for dc_form_for pm_form_for an_form_for cd_form_for ct_form_for), sl_form_for⟩)
    (c_form_for : PySem.W.codeIn K cd_form_for "form_for" = true) (k_form_for : PySem.W.keepIn K (.ref f_form_for) = true)
    {f_alike_for : Addr} {oc_alike_for kV_alike_for dc_alike_for pm_alike_for cd_alike_for ct_alike_for : Value} {od_alike_for an_alike_for : Option Addr} {sl_alike_for : Array (Option Value)}
    (a_alike_for : PySem.W.nsIn K mainGlobals "alike_for" = some (some (.ref f_alike_for)))
    (l_alike_for : K.lookup f_alike_for = some ⟨oc_alike_for, od_alike_for, .func (PySem.W.fnOf "alike_for" "alike_for" (defArgs s_alike_for) (defBody s_alike_for) (defScope s_alike_for) .none kV_alike_for dc_alike_for pm_alike_for an_alike_for cd_alike_for ct_alike_for), sl_alike_for⟩)
    (c_alike_for : PySem.W.codeIn K cd_alike_for "alike_for" = true) (k_alike_for : PySem.W.keepIn K (.ref f_alike_for) = true)
    {f_most_of : Addr} {oc_most_of kV_most_of dc_most_of pm_most_of cd_most_of ct_most_of : Value} {od_most_of an_most_of : Option Addr} {sl_most_of : Array (Option Value)}
    (a_most_of : PySem.W.nsIn K mainGlobals "most_of" = some (some (.ref f_most_of)))
    (l_most_of : K.lookup f_most_of = some ⟨oc_most_of, od_most_of, .func (PySem.W.fnOf "most_of" "most_of" (defArgs s_most_of) (defBody s_most_of) (defScope s_most_of) .none kV_most_of dc_most_of pm_most_of an_most_of cd_most_of ct_most_of), sl_most_of⟩)
    (c_most_of : PySem.W.codeIn K cd_most_of "most_of" = true) (k_most_of : PySem.W.keepIn K (.ref f_most_of) = true)
    {f_ahead_of : Addr} {oc_ahead_of kV_ahead_of dc_ahead_of pm_ahead_of cd_ahead_of ct_ahead_of : Value} {od_ahead_of an_ahead_of : Option Addr} {sl_ahead_of : Array (Option Value)}
    (a_ahead_of : PySem.W.nsIn K mainGlobals "ahead_of" = some (some (.ref f_ahead_of)))
    (l_ahead_of : K.lookup f_ahead_of = some ⟨oc_ahead_of, od_ahead_of, .func (PySem.W.fnOf "ahead_of" "ahead_of" (defArgs s_ahead_of) (defBody s_ahead_of) (defScope s_ahead_of) .none kV_ahead_of dc_ahead_of pm_ahead_of an_ahead_of cd_ahead_of ct_ahead_of), sl_ahead_of⟩)
    (c_ahead_of : PySem.W.codeIn K cd_ahead_of "ahead_of" = true) (k_ahead_of : PySem.W.keepIn K (.ref f_ahead_of) = true)
    {f_filled_ahead : Addr} {oc_filled_ahead kV_filled_ahead dc_filled_ahead pm_filled_ahead cd_filled_ahead ct_filled_ahead : Value} {od_filled_ahead an_filled_ahead : Option Addr} {sl_filled_ahead : Array (Option Value)}
    (a_filled_ahead : PySem.W.nsIn K mainGlobals "filled_ahead" = some (some (.ref f_filled_ahead)))
    (l_filled_ahead : K.lookup f_filled_ahead = some ⟨oc_filled_ahead, od_filled_ahead, .func (PySem.W.fnOf "filled_ahead" "filled_ahead" (defArgs s_filled_ahead) (defBody s_filled_ahead) (defScope s_filled_ahead) .none kV_filled_ahead dc_filled_ahead pm_filled_ahead an_filled_ahead cd_filled_ahead ct_filled_ahead), sl_filled_ahead⟩)
    (c_filled_ahead : PySem.W.codeIn K cd_filled_ahead "filled_ahead" = true) (k_filled_ahead : PySem.W.keepIn K (.ref f_filled_ahead) = true)
    {f_dropped_ahead : Addr} {oc_dropped_ahead kV_dropped_ahead dc_dropped_ahead pm_dropped_ahead cd_dropped_ahead ct_dropped_ahead : Value} {od_dropped_ahead an_dropped_ahead : Option Addr} {sl_dropped_ahead : Array (Option Value)}
    (a_dropped_ahead : PySem.W.nsIn K mainGlobals "dropped_ahead" = some (some (.ref f_dropped_ahead)))
    (l_dropped_ahead : K.lookup f_dropped_ahead = some ⟨oc_dropped_ahead, od_dropped_ahead, .func (PySem.W.fnOf "dropped_ahead" "dropped_ahead" (defArgs s_dropped_ahead) (defBody s_dropped_ahead) (defScope s_dropped_ahead) .none kV_dropped_ahead dc_dropped_ahead pm_dropped_ahead an_dropped_ahead cd_dropped_ahead ct_dropped_ahead), sl_dropped_ahead⟩)
    (c_dropped_ahead : PySem.W.codeIn K cd_dropped_ahead "dropped_ahead" = true) (k_dropped_ahead : PySem.W.keepIn K (.ref f_dropped_ahead) = true)
    {f_bounds_in : Addr} {oc_bounds_in kV_bounds_in dc_bounds_in pm_bounds_in cd_bounds_in ct_bounds_in : Value} {od_bounds_in an_bounds_in : Option Addr} {sl_bounds_in : Array (Option Value)}
    (a_bounds_in : PySem.W.nsIn K mainGlobals "bounds_in" = some (some (.ref f_bounds_in)))
    (l_bounds_in : K.lookup f_bounds_in = some ⟨oc_bounds_in, od_bounds_in, .func (PySem.W.fnOf "bounds_in" "bounds_in" (defArgs s_bounds_in) (defBody s_bounds_in) (defScope s_bounds_in) .none kV_bounds_in dc_bounds_in pm_bounds_in an_bounds_in cd_bounds_in ct_bounds_in), sl_bounds_in⟩)
    (c_bounds_in : PySem.W.codeIn K cd_bounds_in "bounds_in" = true) (k_bounds_in : PySem.W.keepIn K (.ref f_bounds_in) = true)
    {f_is_low : Addr} {oc_is_low kV_is_low dc_is_low pm_is_low cd_is_low ct_is_low : Value} {od_is_low an_is_low : Option Addr} {sl_is_low : Array (Option Value)}
    (a_is_low : PySem.W.nsIn K mainGlobals "is_low" = some (some (.ref f_is_low)))
    (l_is_low : K.lookup f_is_low = some ⟨oc_is_low, od_is_low, .func (PySem.W.fnOf "is_low" "is_low" (defArgs s_is_low) (defBody s_is_low) (defScope s_is_low) .none kV_is_low dc_is_low pm_is_low an_is_low cd_is_low ct_is_low), sl_is_low⟩)
    (c_is_low : PySem.W.codeIn K cd_is_low "is_low" = true) (k_is_low : PySem.W.keepIn K (.ref f_is_low) = true)
    {f_cores_within : Addr} {oc_cores_within kV_cores_within dc_cores_within pm_cores_within cd_cores_within ct_cores_within : Value} {od_cores_within an_cores_within : Option Addr} {sl_cores_within : Array (Option Value)}
    (a_cores_within : PySem.W.nsIn K mainGlobals "cores_within" = some (some (.ref f_cores_within)))
    (l_cores_within : K.lookup f_cores_within = some ⟨oc_cores_within, od_cores_within, .func (PySem.W.fnOf "cores_within" "cores_within" (defArgs s_cores_within) (defBody s_cores_within) (defScope s_cores_within) .none kV_cores_within dc_cores_within pm_cores_within an_cores_within cd_cores_within ct_cores_within), sl_cores_within⟩)
    (c_cores_within : PySem.W.codeIn K cd_cores_within "cores_within" = true) (k_cores_within : PySem.W.keepIn K (.ref f_cores_within) = true)
    {f_forms_within : Addr} {oc_forms_within kV_forms_within dc_forms_within pm_forms_within cd_forms_within ct_forms_within : Value} {od_forms_within an_forms_within : Option Addr} {sl_forms_within : Array (Option Value)}
    (a_forms_within : PySem.W.nsIn K mainGlobals "forms_within" = some (some (.ref f_forms_within)))
    (l_forms_within : K.lookup f_forms_within = some ⟨oc_forms_within, od_forms_within, .func (PySem.W.fnOf "forms_within" "forms_within" (defArgs s_forms_within) (defBody s_forms_within) (defScope s_forms_within) .none kV_forms_within dc_forms_within pm_forms_within an_forms_within cd_forms_within ct_forms_within), sl_forms_within⟩)
    (c_forms_within : PySem.W.codeIn K cd_forms_within "forms_within" = true) (k_forms_within : PySem.W.keepIn K (.ref f_forms_within) = true)
    {f_within_for : Addr} {oc_within_for kV_within_for dc_within_for pm_within_for cd_within_for ct_within_for : Value} {od_within_for an_within_for : Option Addr} {sl_within_for : Array (Option Value)}
    (a_within_for : PySem.W.nsIn K mainGlobals "within_for" = some (some (.ref f_within_for)))
    (l_within_for : K.lookup f_within_for = some ⟨oc_within_for, od_within_for, .func (PySem.W.fnOf "within_for" "within_for" (defArgs s_within_for) (defBody s_within_for) (defScope s_within_for) .none kV_within_for dc_within_for pm_within_for an_within_for cd_within_for ct_within_for), sl_within_for⟩)
    (c_within_for : PySem.W.codeIn K cd_within_for "within_for" = true) (k_within_for : PySem.W.keepIn K (.ref f_within_for) = true)
    {f__law_jar : Addr} {oc__law_jar kV__law_jar dc__law_jar pm__law_jar cd__law_jar ct__law_jar : Value} {od__law_jar an__law_jar : Option Addr} {sl__law_jar : Array (Option Value)}
    (a__law_jar : PySem.W.nsIn K mainGlobals "_law_jar" = some (some (.ref f__law_jar)))
    (l__law_jar : K.lookup f__law_jar = some ⟨oc__law_jar, od__law_jar, .func (PySem.W.fnOf "_law_jar" "_law_jar" (defArgs s__law_jar) (defBody s__law_jar) (defScope s__law_jar) .none kV__law_jar dc__law_jar pm__law_jar an__law_jar cd__law_jar ct__law_jar), sl__law_jar⟩)
    (c__law_jar : PySem.W.codeIn K cd__law_jar "_law_jar" = true) (k__law_jar : PySem.W.keepIn K (.ref f__law_jar) = true)
    {f__law_draw : Addr} {oc__law_draw kV__law_draw dc__law_draw pm__law_draw cd__law_draw ct__law_draw : Value} {od__law_draw an__law_draw : Option Addr} {sl__law_draw : Array (Option Value)}
    (a__law_draw : PySem.W.nsIn K mainGlobals "_law_draw" = some (some (.ref f__law_draw)))
    (l__law_draw : K.lookup f__law_draw = some ⟨oc__law_draw, od__law_draw, .func (PySem.W.fnOf "_law_draw" "_law_draw" (defArgs s__law_draw) (defBody s__law_draw) (defScope s__law_draw) .none kV__law_draw dc__law_draw pm__law_draw an__law_draw cd__law_draw ct__law_draw), sl__law_draw⟩)
    (c__law_draw : PySem.W.codeIn K cd__law_draw "_law_draw" = true) (k__law_draw : PySem.W.keepIn K (.ref f__law_draw) = true)
    {f__law_turned : Addr} {oc__law_turned kV__law_turned dc__law_turned pm__law_turned cd__law_turned ct__law_turned : Value} {od__law_turned an__law_turned : Option Addr} {sl__law_turned : Array (Option Value)}
    (a__law_turned : PySem.W.nsIn K mainGlobals "_law_turned" = some (some (.ref f__law_turned)))
    (l__law_turned : K.lookup f__law_turned = some ⟨oc__law_turned, od__law_turned, .func (PySem.W.fnOf "_law_turned" "_law_turned" (defArgs s__law_turned) (defBody s__law_turned) (defScope s__law_turned) .none kV__law_turned dc__law_turned pm__law_turned an__law_turned cd__law_turned ct__law_turned), sl__law_turned⟩)
    (c__law_turned : PySem.W.codeIn K cd__law_turned "_law_turned" = true) (k__law_turned : PySem.W.keepIn K (.ref f__law_turned) = true)
    {f__law_part : Addr} {oc__law_part kV__law_part dc__law_part pm__law_part cd__law_part ct__law_part : Value} {od__law_part an__law_part : Option Addr} {sl__law_part : Array (Option Value)}
    (a__law_part : PySem.W.nsIn K mainGlobals "_law_part" = some (some (.ref f__law_part)))
    (l__law_part : K.lookup f__law_part = some ⟨oc__law_part, od__law_part, .func (PySem.W.fnOf "_law_part" "_law_part" (defArgs s__law_part) (defBody s__law_part) (defScope s__law_part) .none kV__law_part dc__law_part pm__law_part an__law_part cd__law_part ct__law_part), sl__law_part⟩)
    (c__law_part : PySem.W.codeIn K cd__law_part "_law_part" = true) (k__law_part : PySem.W.keepIn K (.ref f__law_part) = true)
    {f__law_led : Addr} {oc__law_led kV__law_led dc__law_led pm__law_led cd__law_led ct__law_led : Value} {od__law_led an__law_led : Option Addr} {sl__law_led : Array (Option Value)}
    (a__law_led : PySem.W.nsIn K mainGlobals "_law_led" = some (some (.ref f__law_led)))
    (l__law_led : K.lookup f__law_led = some ⟨oc__law_led, od__law_led, .func (PySem.W.fnOf "_law_led" "_law_led" (defArgs s__law_led) (defBody s__law_led) (defScope s__law_led) .none kV__law_led dc__law_led pm__law_led an__law_led cd__law_led ct__law_led), sl__law_led⟩)
    (c__law_led : PySem.W.codeIn K cd__law_led "_law_led" = true) (k__law_led : PySem.W.keepIn K (.ref f__law_led) = true)
    {f__law_signal : Addr} {oc__law_signal kV__law_signal dc__law_signal pm__law_signal cd__law_signal ct__law_signal : Value} {od__law_signal an__law_signal : Option Addr} {sl__law_signal : Array (Option Value)}
    (a__law_signal : PySem.W.nsIn K mainGlobals "_law_signal" = some (some (.ref f__law_signal)))
    (l__law_signal : K.lookup f__law_signal = some ⟨oc__law_signal, od__law_signal, .func (PySem.W.fnOf "_law_signal" "_law_signal" (defArgs s__law_signal) (defBody s__law_signal) (defScope s__law_signal) .none kV__law_signal dc__law_signal pm__law_signal an__law_signal cd__law_signal ct__law_signal), sl__law_signal⟩)
    (c__law_signal : PySem.W.codeIn K cd__law_signal "_law_signal" = true) (k__law_signal : PySem.W.keepIn K (.ref f__law_signal) = true)
    {f__law_is_in : Addr} {oc__law_is_in kV__law_is_in dc__law_is_in pm__law_is_in cd__law_is_in ct__law_is_in : Value} {od__law_is_in an__law_is_in : Option Addr} {sl__law_is_in : Array (Option Value)}
    (a__law_is_in : PySem.W.nsIn K mainGlobals "_law_is_in" = some (some (.ref f__law_is_in)))
    (l__law_is_in : K.lookup f__law_is_in = some ⟨oc__law_is_in, od__law_is_in, .func (PySem.W.fnOf "_law_is_in" "_law_is_in" (defArgs s__law_is_in) (defBody s__law_is_in) (defScope s__law_is_in) .none kV__law_is_in dc__law_is_in pm__law_is_in an__law_is_in cd__law_is_in ct__law_is_in), sl__law_is_in⟩)
    (c__law_is_in : PySem.W.codeIn K cd__law_is_in "_law_is_in" = true) (k__law_is_in : PySem.W.keepIn K (.ref f__law_is_in) = true)
    {f__law_ticks : Addr} {oc__law_ticks kV__law_ticks dc__law_ticks pm__law_ticks cd__law_ticks ct__law_ticks : Value} {od__law_ticks an__law_ticks : Option Addr} {sl__law_ticks : Array (Option Value)}
    (a__law_ticks : PySem.W.nsIn K mainGlobals "_law_ticks" = some (some (.ref f__law_ticks)))
    (l__law_ticks : K.lookup f__law_ticks = some ⟨oc__law_ticks, od__law_ticks, .func (PySem.W.fnOf "_law_ticks" "_law_ticks" (defArgs s__law_ticks) (defBody s__law_ticks) (defScope s__law_ticks) .none kV__law_ticks dc__law_ticks pm__law_ticks an__law_ticks cd__law_ticks ct__law_ticks), sl__law_ticks⟩)
    (c__law_ticks : PySem.W.codeIn K cd__law_ticks "_law_ticks" = true) (k__law_ticks : PySem.W.keepIn K (.ref f__law_ticks) = true)
    {f__law_trials : Addr} {oc__law_trials kV__law_trials dc__law_trials pm__law_trials cd__law_trials ct__law_trials : Value} {od__law_trials an__law_trials : Option Addr} {sl__law_trials : Array (Option Value)}
    (a__law_trials : PySem.W.nsIn K mainGlobals "_law_trials" = some (some (.ref f__law_trials)))
    (l__law_trials : K.lookup f__law_trials = some ⟨oc__law_trials, od__law_trials, .func (PySem.W.fnOf "_law_trials" "_law_trials" (defArgs s__law_trials) (defBody s__law_trials) (defScope s__law_trials) .none kV__law_trials dc__law_trials pm__law_trials an__law_trials cd__law_trials ct__law_trials), sl__law_trials⟩)
    (c__law_trials : PySem.W.codeIn K cd__law_trials "_law_trials" = true) (k__law_trials : PySem.W.keepIn K (.ref f__law_trials) = true)
    {f__law_is_within : Addr} {oc__law_is_within kV__law_is_within dc__law_is_within pm__law_is_within cd__law_is_within ct__law_is_within : Value} {od__law_is_within an__law_is_within : Option Addr} {sl__law_is_within : Array (Option Value)}
    (a__law_is_within : PySem.W.nsIn K mainGlobals "_law_is_within" = some (some (.ref f__law_is_within)))
    (l__law_is_within : K.lookup f__law_is_within = some ⟨oc__law_is_within, od__law_is_within, .func (PySem.W.fnOf "_law_is_within" "_law_is_within" (defArgs s__law_is_within) (defBody s__law_is_within) (defScope s__law_is_within) .none kV__law_is_within dc__law_is_within pm__law_is_within an__law_is_within cd__law_is_within ct__law_is_within), sl__law_is_within⟩)
    (c__law_is_within : PySem.W.codeIn K cd__law_is_within "_law_is_within" = true) (k__law_is_within : PySem.W.keepIn K (.ref f__law_is_within) = true)
    {f__law_pick : Addr} {oc__law_pick kV__law_pick dc__law_pick pm__law_pick cd__law_pick ct__law_pick : Value} {od__law_pick an__law_pick : Option Addr} {sl__law_pick : Array (Option Value)}
    (a__law_pick : PySem.W.nsIn K mainGlobals "_law_pick" = some (some (.ref f__law_pick)))
    (l__law_pick : K.lookup f__law_pick = some ⟨oc__law_pick, od__law_pick, .func (PySem.W.fnOf "_law_pick" "_law_pick" (defArgs s__law_pick) (defBody s__law_pick) (defScope s__law_pick) .none kV__law_pick dc__law_pick pm__law_pick an__law_pick cd__law_pick ct__law_pick), sl__law_pick⟩)
    (c__law_pick : PySem.W.codeIn K cd__law_pick "_law_pick" = true) (k__law_pick : PySem.W.keepIn K (.ref f__law_pick) = true)
    {f__law_row : Addr} {oc__law_row kV__law_row dc__law_row pm__law_row cd__law_row ct__law_row : Value} {od__law_row an__law_row : Option Addr} {sl__law_row : Array (Option Value)}
    (a__law_row : PySem.W.nsIn K mainGlobals "_law_row" = some (some (.ref f__law_row)))
    (l__law_row : K.lookup f__law_row = some ⟨oc__law_row, od__law_row, .func (PySem.W.fnOf "_law_row" "_law_row" (defArgs s__law_row) (defBody s__law_row) (defScope s__law_row) .none kV__law_row dc__law_row pm__law_row an__law_row cd__law_row ct__law_row), sl__law_row⟩)
    (c__law_row : PySem.W.codeIn K cd__law_row "_law_row" = true) (k__law_row : PySem.W.keepIn K (.ref f__law_row) = true)
    {f__law_near : Addr} {oc__law_near kV__law_near dc__law_near pm__law_near cd__law_near ct__law_near : Value} {od__law_near an__law_near : Option Addr} {sl__law_near : Array (Option Value)}
    (a__law_near : PySem.W.nsIn K mainGlobals "_law_near" = some (some (.ref f__law_near)))
    (l__law_near : K.lookup f__law_near = some ⟨oc__law_near, od__law_near, .func (PySem.W.fnOf "_law_near" "_law_near" (defArgs s__law_near) (defBody s__law_near) (defScope s__law_near) .none kV__law_near dc__law_near pm__law_near an__law_near cd__law_near ct__law_near), sl__law_near⟩)
    (c__law_near : PySem.W.codeIn K cd__law_near "_law_near" = true) (k__law_near : PySem.W.keepIn K (.ref f__law_near) = true)
    {f__law_pair : Addr} {oc__law_pair kV__law_pair dc__law_pair pm__law_pair cd__law_pair ct__law_pair : Value} {od__law_pair an__law_pair : Option Addr} {sl__law_pair : Array (Option Value)}
    (a__law_pair : PySem.W.nsIn K mainGlobals "_law_pair" = some (some (.ref f__law_pair)))
    (l__law_pair : K.lookup f__law_pair = some ⟨oc__law_pair, od__law_pair, .func (PySem.W.fnOf "_law_pair" "_law_pair" (defArgs s__law_pair) (defBody s__law_pair) (defScope s__law_pair) .none kV__law_pair dc__law_pair pm__law_pair an__law_pair cd__law_pair ct__law_pair), sl__law_pair⟩)
    (c__law_pair : PySem.W.codeIn K cd__law_pair "_law_pair" = true) (k__law_pair : PySem.W.keepIn K (.ref f__law_pair) = true)
    {f__law_swapped : Addr} {oc__law_swapped kV__law_swapped dc__law_swapped pm__law_swapped cd__law_swapped ct__law_swapped : Value} {od__law_swapped an__law_swapped : Option Addr} {sl__law_swapped : Array (Option Value)}
    (a__law_swapped : PySem.W.nsIn K mainGlobals "_law_swapped" = some (some (.ref f__law_swapped)))
    (l__law_swapped : K.lookup f__law_swapped = some ⟨oc__law_swapped, od__law_swapped, .func (PySem.W.fnOf "_law_swapped" "_law_swapped" (defArgs s__law_swapped) (defBody s__law_swapped) (defScope s__law_swapped) .none kV__law_swapped dc__law_swapped pm__law_swapped an__law_swapped cd__law_swapped ct__law_swapped), sl__law_swapped⟩)
    (c__law_swapped : PySem.W.codeIn K cd__law_swapped "_law_swapped" = true) (k__law_swapped : PySem.W.keepIn K (.ref f__law_swapped) = true)
    {f_law : Addr} {oc_law kV_law dc_law pm_law cd_law ct_law : Value} {od_law an_law : Option Addr} {sl_law : Array (Option Value)}
    (a_law : PySem.W.nsIn K mainGlobals "law" = some (some (.ref f_law)))
    (l_law : K.lookup f_law = some ⟨oc_law, od_law, .func (PySem.W.fnOf "law" "law" (defArgs s_law) (defBody s_law) (defScope s_law) .none kV_law dc_law pm_law an_law cd_law ct_law), sl_law⟩)
    (c_law : PySem.W.codeIn K cd_law "law" = true) (k_law : PySem.W.keepIn K (.ref f_law) = true) :
    FnM P w K mg base CX0 8 "law" s_law ["script"] m_law := by
  have T : Top mg K := ⟨PySem.W.mg_none_of X G z_abs, PySem.W.mg_none_of X G z_enumerate, PySem.W.mg_none_of X G z_int, PySem.W.mg_none_of X G z_len, PySem.W.mg_none_of X G z_max, PySem.W.mg_none_of X G z_min, PySem.W.mg_none_of X G z_range, PySem.W.mg_none_of X G z_repr, PySem.W.mg_none_of X G z_sum, PySem.W.mg_none_of X G z_tuple, PySem.W.mg_none_of X G z_zip, ⟨_, PySem.W.mg_of X G y_DROP⟩, ⟨_, PySem.W.mg_of X G y_FILL⟩, ⟨_, PySem.W.mg_of X G y_TURN⟩⟩
  have F_ticks_up : FnM P w K mg base CX0 1 "ticks_up" s_ticks_up ["part", "is_turned"] m_ticks_up := ok_ticks_up T  (fun_mk (st := s_ticks_up) l_ticks_up c_ticks_up k_ticks_up) (PySem.W.mg_of X G a_ticks_up)
  have F_moves : FnM P w K mg base CX0 2 "moves" s_moves ["row"] m_moves := ok_moves T F_ticks_up (fun_mk (st := s_moves) l_moves c_moves k_moves) (PySem.W.mg_of X G a_moves)
  have F_heights : FnM P w K mg base CX0 3 "heights" s_heights ["row"] m_heights := ok_heights T F_moves (fun_mk (st := s_heights) l_heights c_heights k_heights) (PySem.W.mg_of X G a_heights)
  have F_with_stage : FnM P w K mg base CX0 1 "with_stage" s_with_stage ["found", "word", "number"] m_with_stage := ok_with_stage T  (fun_mk (st := s_with_stage) l_with_stage c_with_stage k_with_stage) (PySem.W.mg_of X G a_with_stage)
  have F_stages_beyond : FnM P w K mg base CX0 4 "stages_beyond" s_stages_beyond ["row", "high", "depth"] m_stages_beyond := ok_stages_beyond T F_heights F_with_stage (fun_mk (st := s_stages_beyond) l_stages_beyond c_stages_beyond k_stages_beyond) (PySem.W.mg_of X G a_stages_beyond)
  have F_form_beyond : FnM P w K mg base CX0 5 "form_beyond" s_form_beyond ["row", "high", "depth"] m_form_beyond := ok_form_beyond T F_moves F_stages_beyond (fun_mk (st := s_form_beyond) l_form_beyond c_form_beyond k_form_beyond) (PySem.W.mg_of X G a_form_beyond)
  have F_form_for : FnM P w K mg base CX0 6 "form_for" s_form_for ["row", "ons", "offs"] m_form_for := ok_form_for T F_form_beyond (fun_mk (st := s_form_for) l_form_for c_form_for k_form_for) (PySem.W.mg_of X G a_form_for)
  have F_alike_for : FnM P w K mg base CX0 7 "alike_for" s_alike_for ["one", "other", "ons", "offs"] m_alike_for := ok_alike_for T F_form_for (fun_mk (st := s_alike_for) l_alike_for c_alike_for k_alike_for) (PySem.W.mg_of X G a_alike_for)
  have F_most_of : FnM P w K mg base CX0 1 "most_of" s_most_of ["steps", "word"] m_most_of := ok_most_of T  (fun_mk (st := s_most_of) l_most_of c_most_of k_most_of) (PySem.W.mg_of X G a_most_of)
  have F_ahead_of : FnM P w K mg base CX0 1 "ahead_of" s_ahead_of ["steps", "word", "bound"] m_ahead_of := ok_ahead_of T  (fun_mk (st := s_ahead_of) l_ahead_of c_ahead_of k_ahead_of) (PySem.W.mg_of X G a_ahead_of)
  have F_filled_ahead : FnM P w K mg base CX0 2 "filled_ahead" s_filled_ahead ["steps", "k"] m_filled_ahead := ok_filled_ahead T F_most_of F_ahead_of (fun_mk (st := s_filled_ahead) l_filled_ahead c_filled_ahead k_filled_ahead) (PySem.W.mg_of X G a_filled_ahead)
  have F_dropped_ahead : FnM P w K mg base CX0 2 "dropped_ahead" s_dropped_ahead ["steps", "l"] m_dropped_ahead := ok_dropped_ahead T F_most_of F_ahead_of (fun_mk (st := s_dropped_ahead) l_dropped_ahead c_dropped_ahead k_dropped_ahead) (PySem.W.mg_of X G a_dropped_ahead)
  have F_bounds_in : FnM P w K mg base CX0 1 "bounds_in" s_bounds_in ["one", "other"] m_bounds_in := ok_bounds_in T  (fun_mk (st := s_bounds_in) l_bounds_in c_bounds_in k_bounds_in) (PySem.W.mg_of X G a_bounds_in)
  have F_is_low : FnM P w K mg base CX0 3 "is_low" s_is_low ["one", "other"] m_is_low := ok_is_low T F_bounds_in F_filled_ahead F_dropped_ahead (fun_mk (st := s_is_low) l_is_low c_is_low k_is_low) (PySem.W.mg_of X G a_is_low)
  have F_cores_within : FnM P w K mg base CX0 4 "cores_within" s_cores_within ["one", "other"] m_cores_within := ok_cores_within T F_is_low (fun_mk (st := s_cores_within) l_cores_within c_cores_within k_cores_within) (PySem.W.mg_of X G a_cores_within)
  have F_forms_within : FnM P w K mg base CX0 5 "forms_within" s_forms_within ["one", "other"] m_forms_within := ok_forms_within T F_cores_within (fun_mk (st := s_forms_within) l_forms_within c_forms_within k_forms_within) (PySem.W.mg_of X G a_forms_within)
  have F_within_for : FnM P w K mg base CX0 7 "within_for" s_within_for ["one", "other", "ons", "offs"] m_within_for := ok_within_for T F_forms_within F_form_for (fun_mk (st := s_within_for) l_within_for c_within_for k_within_for) (PySem.W.mg_of X G a_within_for)
  have F__law_jar : FnM P w K mg base CX0 1 "_law_jar" s__law_jar ["script"] m__law_jar := ok__law_jar T  (fun_mk (st := s__law_jar) l__law_jar c__law_jar k__law_jar) (PySem.W.mg_of X G a__law_jar)
  have F__law_draw : FnM P w K mg base CX0 1 "_law_draw" s__law_draw ["jar", "many"] m__law_draw := ok__law_draw T  (fun_mk (st := s__law_draw) l__law_draw c__law_draw k__law_draw) (PySem.W.mg_of X G a__law_draw)
  have F__law_turned : FnM P w K mg base CX0 1 "_law_turned" s__law_turned ["runs"] m__law_turned := ok__law_turned T  (fun_mk (st := s__law_turned) l__law_turned c__law_turned k__law_turned) (PySem.W.mg_of X G a__law_turned)
  have F__law_part : FnM P w K mg base CX0 2 "_law_part" s__law_part ["part", "runs"] m__law_part := ok__law_part T F__law_turned (fun_mk (st := s__law_part) l__law_part c__law_part k__law_part) (PySem.W.mg_of X G a__law_part)
  have F__law_led : FnM P w K mg base CX0 3 "_law_led" s__law_led ["row", "runs"] m__law_led := ok__law_led T F__law_part (fun_mk (st := s__law_led) l__law_led c__law_led k__law_led) (PySem.W.mg_of X G a__law_led)
  have F__law_signal : FnM P w K mg base CX0 2 "_law_signal" s__law_signal ["jar", "ons", "offs", "most"] m__law_signal := ok__law_signal T F__law_draw (fun_mk (st := s__law_signal) l__law_signal c__law_signal k__law_signal) (PySem.W.mg_of X G a__law_signal)
  have F__law_is_in : FnM P w K mg base CX0 1 "_law_is_in" s__law_is_in ["runs", "others"] m__law_is_in := ok__law_is_in T  (fun_mk (st := s__law_is_in) l__law_is_in c__law_is_in k__law_is_in) (PySem.W.mg_of X G a__law_is_in)
  have F__law_ticks : FnM P w K mg base CX0 1 "_law_ticks" s__law_ticks ["row"] m__law_ticks := ok__law_ticks T  (fun_mk (st := s__law_ticks) l__law_ticks c__law_ticks k__law_ticks) (PySem.W.mg_of X G a__law_ticks)
  have F__law_trials : FnM P w K mg base CX0 1 "_law_trials" s__law_trials ["ons", "offs", "most"] m__law_trials := ok__law_trials T  (fun_mk (st := s__law_trials) l__law_trials c__law_trials k__law_trials) (PySem.W.mg_of X G a__law_trials)
  have F__law_is_within : FnM P w K mg base CX0 4 "_law_is_within" s__law_is_within ["one", "other", "ons", "offs"] m__law_is_within := ok__law_is_within T F__law_trials F__law_ticks F__law_is_in F__law_led (fun_mk (st := s__law_is_within) l__law_is_within c__law_is_within k__law_is_within) (PySem.W.mg_of X G a__law_is_within)
  have F__law_pick : FnM P w K mg base CX0 2 "_law_pick" s__law_pick ["jar", "items"] m__law_pick := ok__law_pick T F__law_draw (fun_mk (st := s__law_pick) l__law_pick c__law_pick k__law_pick) (PySem.W.mg_of X G a__law_pick)
  have F__law_row : FnM P w K mg base CX0 3 "_law_row" s__law_row ["jar", "many", "most", "turns"] m__law_row := ok__law_row T F__law_pick F__law_draw (fun_mk (st := s__law_row) l__law_row c__law_row k__law_row) (PySem.W.mg_of X G a__law_row)
  have F__law_near : FnM P w K mg base CX0 4 "_law_near" s__law_near ["jar", "row", "most"] m__law_near := ok__law_near T F__law_draw F__law_row F__law_pick (fun_mk (st := s__law_near) l__law_near c__law_near k__law_near) (PySem.W.mg_of X G a__law_near)
  have F__law_pair : FnM P w K mg base CX0 5 "_law_pair" s__law_pair ["jar"] m__law_pair := ok__law_pair T F__law_row F__law_pick F__law_ticks F__law_near F__law_draw (fun_mk (st := s__law_pair) l__law_pair c__law_pair k__law_pair) (PySem.W.mg_of X G a__law_pair)
  have F__law_swapped : FnM P w K mg base CX0 2 "_law_swapped" s__law_swapped ["jar"] m__law_swapped := ok__law_swapped T F__law_draw (fun_mk (st := s__law_swapped) l__law_swapped c__law_swapped k__law_swapped) (PySem.W.mg_of X G a__law_swapped)
  have F_law : FnM P w K mg base CX0 8 "law" s_law ["script"] m_law := ok_law T F__law_jar F__law_pair F__law_draw F__law_swapped F__law_is_within F_within_for F_alike_for F__law_signal F__law_is_in F__law_led (fun_mk (st := s_law) l_law c_law k_law) (PySem.W.mg_of X G a_law)
  exact F_law
end Law
end
section
set_option autoImplicit false
namespace Law
open PySem PL
inductive Part | turn | on (k : Int) | off (k : Int) | delay (k : Int)
def Part.pv : Part → PV
  | .turn => .tup [.str "turn"]
  | .on k => .tup [.str "on", .int k]
  | .off k => .tup [.str "off", .int k]
  | .delay k => .tup [.str "delay", .int k]
def Part.up (t : Bool) : Part → Int
  | .on k => if t then -k else k
  | .off k => if t then k else -k
  | _ => 0
def Part.flip (t : Bool) : Part → Bool
  | .turn => !t
  | _ => t
abbrev pvs (row : List Part) : PV := .tup (row.map Part.pv)
/-- moves: the ticks of each part, whether it is turned -/
def mvStep (s : List Int × Bool) (p : Part) : List Int × Bool := (s.1 ++ [p.up (p.flip s.2)], p.flip s.2)
def mvs (row : List Part) : List Int × Bool := row.foldl mvStep ([], false)
theorem mvs_len (row : List Part) : ∀ s, (row.foldl mvStep s).1.length = s.1.length + row.length := by
  induction row with
  | nil => intro s; simp
  | cons p ps ih => intro s; simp [ih, mvStep]; omega
/-- heights -/
def htStep (s : List Int × Int) (m : Int) : List Int × Int := (s.1 ++ [s.2 + m], s.2 + m)
def hts (ms : List Int) : List Int := (ms.foldl htStep ([], 0)).1
theorem hts_len (ms : List Int) : ∀ s, (ms.foldl htStep s).1.length = s.1.length + ms.length := by
  induction ms with
  | nil => intro s; simp
  | cons p ps ih => intro s; simp [ih, htStep]; omega
/-- stages: drop true, fill false -/
abbrev Sg := Bool × Int
def Sg.pv (s : Sg) : PV := .tup [.str (if s.1 then "drop" else "fill" : String), .int s.2]
def ws (f : List Sg) (b : Bool) (n : Int) : List Sg := (if f.getLast?.map (·.1) = some b then f.dropLast else f) ++ [(b, n)]
theorem Sg_sm (s : Sg) (h : sml s.2) : (Sg.pv s).pd.sm = true := by
  have := log_sml h
  rcases s with ⟨b, n⟩
  cases b <;> simp [Sg.pv] <;> exact ⟨⟨by decide +kernel, by decide +kernel⟩, this⟩
theorem Sg_data (s : Sg) : (Sg.pv s).data = true := by simp [Sg.pv]
theorem Sg_dp (s : Sg) : (Sg.pv s).pd.depth = 1 := by simp [Sg.pv]
theorem Sg_wt (s : Sg) : (Sg.pv s).pd.wt = 3 := by simp [Sg.pv]
/-- stages beyond so high, so deep -/
structure SS where
  hi : Int
  de : Int
  st : List Sg
def stg (s : SS) (h : Int) : SS := if h > s.hi then ⟨h, s.de, ws s.st true h⟩ else if -h > s.de then ⟨s.hi, -h, ws s.st false (-h)⟩ else s
theorem ws_len (f : List Sg) (b : Bool) (n : Int) : (ws f b n).length ≤ f.length + 1 := by
  unfold ws; split <;> simp
theorem ws_mem {f : List Sg} {b : Bool} {n : Int} {s : Sg} (h : s ∈ ws f b n) : s ∈ f ∨ s = (b, n) := by
  unfold ws at h
  rw [List.mem_append] at h
  rcases h with h | h
  · left
    split at h
    · exact List.dropLast_subset _ h
    · exact h
  · right; simpa using h
theorem stg_fold (hs : List Int) : ∀ s : SS, (∀ h ∈ hs, sml h) → (∀ x ∈ s.st, sml x.2) → (hs.foldl stg s).st.length ≤ s.st.length + hs.length ∧ ∀ x ∈ (hs.foldl stg s).st, sml x.2 := by
  induction hs with
  | nil => intro s _ h; exact ⟨by simp, h⟩
  | cons h hs ih =>
    intro s h1 h2
    have h0 := h1 h List.mem_cons_self
    have step : (stg s h).st.length ≤ s.st.length + 1 ∧ ∀ x ∈ (stg s h).st, sml x.2 := by
      unfold stg
      split
      · refine ⟨ws_len _ _ _, fun x hx => ?_⟩
        rcases ws_mem hx with hx | rfl
        · exact h2 x hx
        · exact h0
      · split
        · refine ⟨ws_len _ _ _, fun x hx => ?_⟩
          rcases ws_mem hx with hx | rfl
          · exact h2 x hx
          · show (-h).natAbs < _; rw [Int.natAbs_neg]; exact h0
        · exact ⟨by omega, h2⟩
    obtain ⟨a, b⟩ := ih (stg s h) (fun x hx => h1 x (List.mem_cons_of_mem _ hx)) step.2
    exact ⟨by simp only [List.foldl_cons, List.length_cons]; omega, b⟩
abbrev stgs (row : List Part) (hi de : Int) : SS := (hts (mvs row).1).foldl stg ⟨hi, de, []⟩
theorem hts_len0 (ms : List Int) : (hts ms).length = ms.length := by unfold hts; rw [hts_len]; simp
theorem mvs_len0 (row : List Part) : (mvs row).1.length = row.length := by unfold mvs; rw [mvs_len]; simp
def Part.dl : Part → Option Int
  | .delay k => some k
  | _ => none
/-- late on, late off -/
def lateOn (row : List Part) : Int := (row.filterMap Part.dl).sum + ((mvs row).1.filter (· > 0)).sum
def lateOff (row : List Part) : Int := (row.filterMap Part.dl).sum - ((mvs row).1.filter (· < 0)).sum
def formP (row : List Part) (hi de : Int) : PV := .tup [.bl (mvs row).2, .int (lateOn row), .int (lateOff row), .tup ((stgs row hi de).st.map Sg.pv)]
def Part.num : Part → Int
  | .turn => 0
  | .on k => k
  | .off k => k
  | .delay k => k
def Part.ok (B : Int) (p : Part) : Prop := 0 ≤ p.num ∧ p.num ≤ B
structure W where
  at_ : Int
  hi : Int
  lo : Int
  l0 : Int
  l1 : Int
  t : Bool
  st : List Sg
def W.mv (s : W) : Part → W
  | .turn => { s with t := !s.t }
  | .delay k => { s with l0 := s.l0 + k, l1 := s.l1 + k }
  | .on k => if s.t then { s with at_ := s.at_ - k, l1 := s.l1 + k } else { s with at_ := s.at_ + k, l0 := s.l0 + k }
  | .off k => if s.t then { s with at_ := s.at_ + k, l0 := s.l0 + k } else { s with at_ := s.at_ - k, l1 := s.l1 + k }
def W.upH (s : W) : W := if s.at_ > s.hi then { s with hi := s.at_, st := ws s.st true s.at_ } else s
def W.upL (s : W) : W := if s.at_ < s.lo then { s with lo := s.at_, st := ws s.st false (-s.at_) } else s
def wk (s : W) (p : Part) : W := (s.mv p).upH.upL
structure W.ok (b : Nat) (n : Nat) (s : W) : Prop where
  at_ : s.at_.natAbs ≤ b
  st : ∀ x ∈ s.st, x.2.natAbs ≤ b
  len : s.st.length ≤ n
theorem mv_ok {b n : Nat} {B : Nat} {s : W} {p : Part} (h : s.ok b n) (hp : p.ok B) : (s.mv p).ok (b + B) n := by
  have ha := h.at_
  have hs : ∀ x ∈ s.st, x.2.natAbs ≤ b + B := fun x hx => by have := h.st x hx; omega
  have h1 := hp.1
  have h2 := hp.2
  cases p with
  | turn => exact ⟨by simp [W.mv]; omega, hs, h.len⟩
  | delay k => exact ⟨by simp [W.mv]; omega, hs, h.len⟩
  | on k =>
    simp only [Part.num] at h1 h2
    simp only [W.mv]
    split <;> exact ⟨by simp; omega, hs, h.len⟩
  | off k =>
    simp only [Part.num] at h1 h2
    simp only [W.mv]
    split <;> exact ⟨by simp; omega, hs, h.len⟩
theorem upH_ok {b n : Nat} {s : W} (h : s.ok b n) : s.upH.ok b (n + 1) := by
  unfold W.upH
  split
  · exact ⟨h.at_, fun x hx => by
      rcases ws_mem hx with hx | rfl
      · exact h.st x hx
      · exact h.at_, by have := ws_len s.st true s.at_; have := h.len; simp; omega⟩
  · exact ⟨h.at_, h.st, by have := h.len; omega⟩
theorem upL_ok {b n : Nat} {s : W} (h : s.ok b n) : s.upL.ok b (n + 1) := by
  unfold W.upL
  split
  · exact ⟨h.at_, fun x hx => by
      rcases ws_mem hx with hx | rfl
      · exact h.st x hx
      · show (-s.at_).natAbs ≤ b; rw [Int.natAbs_neg]; exact h.at_, by have := ws_len s.st false (-s.at_); have := h.len; simp; omega⟩
  · exact ⟨h.at_, h.st, by have := h.len; omega⟩
theorem wk_ok {b n : Nat} {B : Nat} {s : W} {p : Part} (h : s.ok b n) (hp : p.ok B) : (wk s p).ok (b + B) (n + 2) := upL_ok (upH_ok (mv_ok h hp))
def W0 : W := ⟨0, 0, 0, 0, 0, false, []⟩
abbrev wks (row : List Part) : W := row.foldl wk W0
theorem wks_ok {B : Nat} (row : List Part) (h : ∀ p ∈ row, p.ok B) : ∀ (s : W) (b n : Nat), s.ok b n → (row.foldl wk s).ok (b + B * row.length) (n + 2 * row.length) := by
  induction row with
  | nil => intro s b n h; simpa using h
  | cons p ps ih =>
    intro s b n hs
    have := ih (fun q hq => h q (List.mem_cons_of_mem _ hq)) _ _ _ (wk_ok hs (h p List.mem_cons_self))
    simp only [List.foldl_cons, List.length_cons, Nat.mul_add, Nat.mul_one]
    have e1 : b + B + B * ps.length = b + (B * ps.length + B) := by omega
    have e2 : n + 2 + 2 * ps.length = n + (2 * ps.length + 2) := by omega
    rw [e1, e2] at this
    exact this
def Wfd (row : List Part) (i : Nat) : List Int := (List.range i).map fun j => (wks (row.take (j + 1))).at_
def foundL (row : List Part) : List Int := Wfd row row.length
def shapeP (s : W) : PV := .tup [.bl s.t, .int s.l0, .int s.l1, .tup (s.st.map Sg.pv)]
theorem wks_snoc (l : List Part) (x : Part) : wks (l ++ [x]) = wk (wks l) x := by unfold wks; rw [List.foldl_append]; rfl
theorem Wfd_snoc (row : List Part) (i : Nat) (x : Part) (hx : row[i]? = some x) : Wfd row (i + 1) = Wfd row i ++ [(wk (wks (row.take i)) x).at_] := by
  unfold Wfd
  rw [List.range_succ, List.map_append]
  simp only [List.map_cons, List.map_nil]
  rw [take_succ' hx, wks_snoc]
/-! the walk in single ticks -/
structure W.inv (s : W) : Prop where
  h : s.at_ ≤ s.hi
  l : s.lo ≤ s.at_
theorem W0_inv : W0.inv := ⟨by simp [W0], by simp [W0]⟩
theorem upHL_inv (s : W) : s.upH.upL.inv := by
  have h1 : s.upH.at_ ≤ s.upH.hi := by
    unfold W.upH
    by_cases c : s.at_ > s.hi
    · rw [if_pos c]; exact Int.le_refl _
    · rw [if_neg c]; omega
  generalize s.upH = z at *
  unfold W.upL
  by_cases c : z.at_ < z.lo
  · rw [if_pos c]; exact ⟨h1, Int.le_refl _⟩
  · rw [if_neg c]; exact ⟨h1, by omega⟩
theorem wk_inv (s : W) (p : Part) : (wk s p).inv := upHL_inv _
theorem up_noop {s : W} (h : s.inv) : s.upH.upL = s := by
  have := h.h
  have := h.l
  have e1 : s.upH = s := by unfold W.upH; rw [if_neg (by omega)]
  rw [e1]; unfold W.upL; rw [if_neg (by omega)]
theorem ws_ws (f : List Sg) (b : Bool) (x y : Int) : ws (ws f b x) b y = ws f b y := by
  unfold ws
  simp
def W.U (s : W) (k : Int) : W := if s.at_ + k > s.hi then { s with at_ := s.at_ + k, l0 := s.l0 + k, hi := s.at_ + k, st := ws s.st true (s.at_ + k) } else { s with at_ := s.at_ + k, l0 := s.l0 + k }
def W.D (s : W) (k : Int) : W := if s.at_ - k < s.lo then { s with at_ := s.at_ - k, l1 := s.l1 + k, lo := s.at_ - k, st := ws s.st false (-(s.at_ - k)) } else { s with at_ := s.at_ - k, l1 := s.l1 + k }
theorem U_eq {s : W} (h : s.inv) {k : Int} (hk : 0 ≤ k) : ({ s with at_ := s.at_ + k, l0 := s.l0 + k } : W).upH.upL = s.U k := by
  have h1 := h.h
  have h2 := h.l
  unfold W.upH W.upL W.U
  by_cases c : s.at_ + k > s.hi <;> simp [c] <;> omega
theorem D_eq {s : W} (h : s.inv) {k : Int} (hk : 0 ≤ k) : ({ s with at_ := s.at_ - k, l1 := s.l1 + k } : W).upH.upL = s.D k := by
  have h1 := h.h
  have h2 := h.l
  have c1 : ¬ (s.at_ - k > s.hi) := by omega
  unfold W.upH W.upL W.D
  by_cases c : s.at_ - k < s.lo <;> simp [c, c1]
theorem U_inv {s : W} (h : s.inv) {k : Int} (hk : 0 ≤ k) : (s.U k).inv := by rw [← U_eq h hk]; exact upHL_inv _
theorem D_inv {s : W} (h : s.inv) {k : Int} (hk : 0 ≤ k) : (s.D k).inv := by rw [← D_eq h hk]; exact upHL_inv _
theorem U_add (s : W) {a b : Int} (ha : 0 ≤ a) (hb : 0 ≤ b) : (s.U a).U b = s.U (a + b) := by
  unfold W.U
  by_cases c1 : s.at_ + a > s.hi
  · have c3 : s.at_ + (a + b) > s.hi := by omega
    by_cases c2 : b > 0
    · have c4 : s.at_ + (a + b) > s.at_ + a := by omega
      simp only [if_pos c1, if_pos c3, if_pos c4, ws_ws, Int.add_assoc]
    · have e : b = 0 := by omega
      subst e
      simp [c1]
  · by_cases c2 : s.at_ + (a + b) > s.hi
    · simp only [if_neg c1, if_pos c2, Int.add_assoc]
    · simp only [if_neg c1, if_neg c2, Int.add_assoc]
theorem D_add (s : W) {a b : Int} (ha : 0 ≤ a) (hb : 0 ≤ b) : (s.D a).D b = s.D (a + b) := by
  have e0 : s.at_ - a - b = s.at_ - (a + b) := by omega
  unfold W.D
  by_cases c1 : s.at_ - a < s.lo
  · have c3 : s.at_ - (a + b) < s.lo := by omega
    by_cases c2 : b > 0
    · have c4 : s.at_ - (a + b) < s.at_ - a := by omega
      simp only [if_pos c1, if_pos c3, if_pos c4, ws_ws, Int.add_assoc, e0]
    · have e : b = 0 := by omega
      subst e
      simp [c1]
  · by_cases c2 : s.at_ - (a + b) < s.lo
    · simp only [if_neg c1, if_pos c2, Int.add_assoc, e0]
    · simp only [if_neg c1, if_neg c2, Int.add_assoc, e0]
theorem U_zero {s : W} (h : s.inv) : s.U 0 = s := by
  have := h.h
  unfold W.U
  rw [if_neg (by omega)]; simp
theorem D_zero {s : W} (h : s.inv) : s.D 0 = s := by
  have := h.l
  unfold W.D
  rw [if_neg (by omega)]; simp
theorem U_t (s : W) (k : Int) : (s.U k).t = s.t := by unfold W.U; split <;> rfl
theorem D_t (s : W) (k : Int) : (s.D k).t = s.t := by unfold W.D; split <;> rfl
theorem wk_on {s : W} (h : s.inv) {k : Int} (hk : 0 ≤ k) : wk s (.on k) = if s.t then s.D k else s.U k := by
  simp only [wk, W.mv]
  by_cases ht : s.t = true
  · rw [if_pos ht, if_pos ht]; exact D_eq h hk
  · rw [if_neg ht, if_neg ht]; exact U_eq h hk
theorem wk_off {s : W} (h : s.inv) {k : Int} (hk : 0 ≤ k) : wk s (.off k) = if s.t then s.U k else s.D k := by
  simp only [wk, W.mv]
  by_cases ht : s.t = true
  · rw [if_pos ht, if_pos ht]; exact U_eq h hk
  · rw [if_neg ht, if_neg ht]; exact D_eq h hk
theorem wk_turn {s : W} (h : s.inv) : wk s .turn = { s with t := !s.t } := up_noop (s := { s with t := !s.t }) ⟨h.h, h.l⟩
theorem wk_delay {s : W} (h : s.inv) (k : Int) : wk s (.delay k) = { s with l0 := s.l0 + k, l1 := s.l1 + k } := up_noop (s := { s with l0 := s.l0 + k, l1 := s.l1 + k }) ⟨h.h, h.l⟩
/-- a part in ticks -/
def ticks : Part → List Part
  | .turn => [.turn]
  | .on k => List.replicate k.toNat (.on 1) ++ [.on 0]
  | .off k => List.replicate k.toNat (.off 1) ++ [.off 0]
  | .delay k => List.replicate k.toNat (.delay 1) ++ [.delay 0]
theorem reps (mk : Int → Part) (hadd : ∀ (s : W) (a b : Int), s.inv → 0 ≤ a → 0 ≤ b → wk (wk s (mk a)) (mk b) = wk s (mk (a + b))) (h0 : ∀ s : W, s.inv → wk s (mk 0) = s) (n : Nat) :
    ∀ s : W, s.inv → (List.replicate n (mk 1)).foldl wk s = wk s (mk n) := by
  induction n with
  | zero => intro s hs; simp [h0 s hs]
  | succ n ih =>
    intro s hs
    rw [List.replicate_succ, List.foldl_cons, ih _ (wk_inv _ _), hadd s 1 n hs (by omega) (by omega)]
    congr 2
    omega
theorem on_add (s : W) (a b : Int) (hs : s.inv) (ha : 0 ≤ a) (hb : 0 ≤ b) : wk (wk s (.on a)) (.on b) = wk s (.on (a + b)) := by
  rw [wk_on (wk_inv _ _) hb, wk_on hs ha, wk_on hs (by omega)]
  cases ht : s.t <;> simp [U_t, D_t, ht, U_add s ha hb, D_add s ha hb]
theorem off_add (s : W) (a b : Int) (hs : s.inv) (ha : 0 ≤ a) (hb : 0 ≤ b) : wk (wk s (.off a)) (.off b) = wk s (.off (a + b)) := by
  rw [wk_off (wk_inv _ _) hb, wk_off hs ha, wk_off hs (by omega)]
  cases ht : s.t <;> simp [U_t, D_t, ht, U_add s ha hb, D_add s ha hb]
theorem delay_add (s : W) (a b : Int) (hs : s.inv) : wk (wk s (.delay a)) (.delay b) = wk s (.delay (a + b)) := by
  rw [wk_delay (wk_inv _ _) b, wk_delay hs a, wk_delay hs]
  simp [Int.add_assoc]
theorem ticks_eq {s : W} (hs : s.inv) {p : Part} (hp : 0 ≤ p.num) : (ticks p).foldl wk s = wk s p := by
  cases p with
  | turn => rfl
  | on k =>
    simp only [Part.num] at hp
    have e : ((k.toNat : Nat) : Int) = k := by omega
    rw [ticks, List.foldl_append, reps .on on_add (fun s h => by rw [wk_on h (by omega)]; cases ht : s.t <;> simp [U_zero h, D_zero h]) _ s hs, e]
    simp only [List.foldl_cons, List.foldl_nil]
    rw [on_add s k 0 hs hp (by omega)]; simp
  | off k =>
    simp only [Part.num] at hp
    have e : ((k.toNat : Nat) : Int) = k := by omega
    rw [ticks, List.foldl_append, reps .off off_add (fun s h => by rw [wk_off h (by omega)]; cases ht : s.t <;> simp [U_zero h, D_zero h]) _ s hs, e]
    simp only [List.foldl_cons, List.foldl_nil]
    rw [off_add s k 0 hs hp (by omega)]; simp
  | delay k =>
    simp only [Part.num] at hp
    have e : ((k.toNat : Nat) : Int) = k := by omega
    rw [ticks, List.foldl_append, reps .delay (fun s a b h _ _ => delay_add s a b h) (fun s h => by rw [wk_delay h]; simp) _ s hs, e]
    simp only [List.foldl_cons, List.foldl_nil]
    rw [delay_add s k 0 hs]; simp
def ticksL (row : List Part) : List Part := row.flatMap ticks
theorem fold_inv (row : List Part) : ∀ s : W, s.inv → (row.foldl wk s).inv := by
  induction row with
  | nil => intro s h; exact h
  | cons p ps ih => intro s h; exact ih _ (wk_inv _ _)
theorem ticksL_eq (row : List Part) (h : ∀ p ∈ row, 0 ≤ p.num) : ∀ s : W, s.inv → (ticksL row).foldl wk s = row.foldl wk s := by
  induction row with
  | nil => intro s _; rfl
  | cons p ps ih =>
    intro s hs
    unfold ticksL at *
    rw [List.flatMap_cons, List.foldl_append, ticks_eq hs (h p List.mem_cons_self)]
    exact ih (fun q hq => h q (List.mem_cons_of_mem _ hq)) _ (wk_inv _ _)
/-! straight rows -/
def stStep (s : List Part × Bool) (p : Part) : List Part × Bool := match p with
  | .turn => (s.1, !s.2)
  | .delay k => (s.1 ++ [.delay k], s.2)
  | .on k => (s.1 ++ [if s.2 then .off k else .on k], s.2)
  | .off k => (s.1 ++ [if s.2 then .on k else .off k], s.2)
def strt (row : List Part) : List Part × Bool := row.foldl stStep ([], false)
def W.core (s : W) : W := { s with t := false }
theorem core_inv {s : W} (h : s.inv) : s.core.inv := ⟨h.h, h.l⟩
theorem core_U (s : W) (k : Int) : (s.U k).core = s.core.U k := by
  unfold W.U W.core; by_cases c : s.at_ + k > s.hi <;> simp [c]
theorem core_D (s : W) (k : Int) : (s.D k).core = s.core.D k := by
  unfold W.D W.core; by_cases c : s.at_ - k < s.lo <;> simp [c]
theorem strs_eq (row : List Part) (h : ∀ p ∈ row, 0 ≤ p.num) : ∀ (s : W) (z : List Part × Bool), s.inv → wks z.1 = s.core → z.2 = s.t → wks (row.foldl stStep z).1 = (row.foldl wk s).core ∧ (row.foldl stStep z).2 = (row.foldl wk s).t := by
  induction row with
  | nil => intro s z _ h1 h2; exact ⟨h1, h2⟩
  | cons p ps ih =>
    intro s z hs h1 h2
    rw [List.foldl_cons, List.foldl_cons]
    refine ih (fun q hq => h q (List.mem_cons_of_mem _ hq)) _ _ (wk_inv _ _) ?_ ?_
    · have hp := h p List.mem_cons_self
      cases p with
      | turn => rw [wk_turn hs]; exact h1
      | delay k => simp only [stStep]; rw [wks_snoc, h1, wk_delay hs, wk_delay (core_inv hs)]; rfl
      | on k =>
        simp only [stStep]
        simp only [Part.num] at hp
        rw [wks_snoc, h1, h2, wk_on hs hp]
        cases ht : s.t
        · simp only [Bool.false_eq_true, if_false]; rw [wk_on (core_inv hs) hp, core_U]; rfl
        · simp only [if_true]; rw [wk_off (core_inv hs) hp, core_D]; rfl
      | off k =>
        simp only [stStep]
        simp only [Part.num] at hp
        rw [wks_snoc, h1, h2, wk_off hs hp]
        cases ht : s.t
        · simp only [Bool.false_eq_true, if_false]; rw [wk_off (core_inv hs) hp, core_D]; rfl
        · simp only [if_true]; rw [wk_on (core_inv hs) hp, core_U]; rfl
    · have hp := h p List.mem_cons_self
      cases p with
      | turn => rw [wk_turn hs]; simp [stStep, h2]
      | delay k => rw [wk_delay hs]; simp [stStep, h2]
      | on k => simp only [Part.num] at hp; rw [wk_on hs hp]; cases ht : s.t <;> simp [stStep, h2, U_t, D_t, ht]
      | off k => simp only [Part.num] at hp; rw [wk_off hs hp]; cases ht : s.t <;> simp [stStep, h2, U_t, D_t, ht]
/-! the program's form is the walk's -/
theorem mvs_snoc (l : List Part) (p : Part) : mvs (l ++ [p]) = ((mvs l).1 ++ [p.up (p.flip (mvs l).2)], p.flip (mvs l).2) := by
  unfold mvs; rw [List.foldl_append]; rfl
theorem hts_snoc (l : List Int) (x : Int) : hts (l ++ [x]) = hts l ++ [(l.foldl htStep ([], 0)).2 + x] := by
  unfold hts; rw [List.foldl_append]; rfl
theorem hts_last (l : List Int) (x : Int) : ((l ++ [x]).foldl htStep ([], 0)).2 = (l.foldl htStep ([], 0)).2 + x := by
  rw [List.foldl_append]; rfl
structure Same (row : List Part) (s : W) : Prop where
  t : (mvs row).2 = s.t
  a : ((mvs row).1.foldl htStep ([], 0)).2 = s.at_
  st : (hts (mvs row).1).foldl stg ⟨0, 0, []⟩ = ⟨s.hi, -s.lo, s.st⟩
  on : lateOn row = s.l0
  off : lateOff row = s.l1
theorem dls_snoc (l : List Part) (p : Part) : ((l ++ [p]).filterMap Part.dl).sum = (l.filterMap Part.dl).sum + (p.dl.getD 0) := by
  rw [List.filterMap_append]
  cases p <;> simp [Part.dl, List.filterMap_cons]
theorem pos_snoc (l : List Int) (x : Int) : ((l ++ [x]).filter (· > 0)).sum = (l.filter (· > 0)).sum + (if x > 0 then x else 0) := by
  rw [List.filter_append]
  by_cases h : x > 0 <;> simp [h]
theorem neg_snoc (l : List Int) (x : Int) : ((l ++ [x]).filter (· < 0)).sum = (l.filter (· < 0)).sum + (if x < 0 then x else 0) := by
  rw [List.filter_append]
  by_cases h : x < 0 <;> simp [h]
theorem stg_eq {s : W} (h : s.inv) (m : Int) (a b : Int) (t : Bool) : stg ⟨s.hi, -s.lo, s.st⟩ (s.at_ + m) = ⟨({ s with at_ := s.at_ + m, l0 := a, l1 := b, t := t } : W).upH.upL.hi, -({ s with at_ := s.at_ + m, l0 := a, l1 := b, t := t } : W).upH.upL.lo, ({ s with at_ := s.at_ + m, l0 := a, l1 := b, t := t } : W).upH.upL.st⟩ := by
  have h1 := h.h
  have h2 := h.l
  unfold stg
  by_cases c1 : s.at_ + m > s.hi
  · have e1 : ({ s with at_ := s.at_ + m, l0 := a, l1 := b, t := t } : W).upH = { s with at_ := s.at_ + m, l0 := a, l1 := b, t := t, hi := s.at_ + m, st := ws s.st true (s.at_ + m) } := by unfold W.upH; rw [if_pos c1]
    have c2 : ¬ (s.at_ + m < s.lo) := by omega
    rw [if_pos c1, e1]
    unfold W.upL
    rw [if_neg c2]
  · have e1 : ({ s with at_ := s.at_ + m, l0 := a, l1 := b, t := t } : W).upH = { s with at_ := s.at_ + m, l0 := a, l1 := b, t := t } := by unfold W.upH; rw [if_neg c1]
    rw [if_neg c1, e1]
    unfold W.upL
    by_cases c2 : s.at_ + m < s.lo
    · have c3 : -(s.at_ + m) > -s.lo := by omega
      rw [if_pos c2, if_pos c3]
    · have c3 : ¬ (-(s.at_ + m) > -s.lo) := by omega
      rw [if_neg c2, if_neg c3]
theorem same_snoc {row : List Part} {s : W} (h : Same row s) (hs : s.inv) {p : Part} (hp : 0 ≤ p.num) : Same (row ++ [p]) (wk s p) := by
  have key : ∀ (m a b : Int) (t : Bool), wk s p = ({ s with at_ := s.at_ + m, l0 := a, l1 := b, t := t } : W).upH.upL → p.flip s.t = t → p.up t = m → lateOn (row ++ [p]) = a → lateOff (row ++ [p]) = b → Same (row ++ [p]) (wk s p) := by
    intro m a b t e e1 e2 e3 e4
    have g := stg_eq hs m a b t
    have f1 : ∀ z : W, z.upH.upL.at_ = z.at_ := by
      intro z; unfold W.upH W.upL; by_cases c1 : z.at_ > z.hi
      · simp only [if_pos c1]; split <;> rfl
      · simp only [if_neg c1]; split <;> rfl
    have f2 : ∀ z : W, z.upH.upL.t = z.t := by
      intro z; unfold W.upH W.upL; by_cases c1 : z.at_ > z.hi
      · simp only [if_pos c1]; split <;> rfl
      · simp only [if_neg c1]; split <;> rfl
    have f3 : ∀ z : W, z.upH.upL.l0 = z.l0 := by
      intro z; unfold W.upH W.upL; by_cases c1 : z.at_ > z.hi
      · simp only [if_pos c1]; split <;> rfl
      · simp only [if_neg c1]; split <;> rfl
    have f4 : ∀ z : W, z.upH.upL.l1 = z.l1 := by
      intro z; unfold W.upH W.upL; by_cases c1 : z.at_ > z.hi
      · simp only [if_pos c1]; split <;> rfl
      · simp only [if_neg c1]; split <;> rfl
    rw [e]
    constructor
    · rw [mvs_snoc, f2, h.t, e1]
    · rw [mvs_snoc, f1, h.t, e1, e2]; simp only; rw [hts_last, h.a]
    · rw [mvs_snoc, h.t, e1, e2]; simp only; rw [hts_snoc, List.foldl_append, h.st, h.a]; exact g
    · rw [f3]; exact e3
    · rw [f4]; exact e4
  have l1 : lateOn (row ++ [p]) = s.l0 + p.dl.getD 0 + (if p.up (p.flip s.t) > 0 then p.up (p.flip s.t) else 0) := by
    rw [← h.on, ← h.t]; unfold lateOn
    rw [dls_snoc, mvs_snoc]; simp only; rw [pos_snoc]; omega
  have l2 : lateOff (row ++ [p]) = s.l1 + p.dl.getD 0 - (if p.up (p.flip s.t) < 0 then p.up (p.flip s.t) else 0) := by
    rw [← h.off, ← h.t]; unfold lateOff
    rw [dls_snoc, mvs_snoc]; simp only; rw [neg_snoc]; omega
  cases p with
  | turn => exact key 0 s.l0 s.l1 (!s.t) (by simp [wk, W.mv]) rfl rfl (by rw [l1]; simp [Part.up, Part.dl]) (by rw [l2]; simp [Part.up, Part.dl])
  | delay k => exact key 0 (s.l0 + k) (s.l1 + k) s.t (by simp [wk, W.mv]) rfl rfl (by rw [l1]; simp [Part.up, Part.dl]) (by rw [l2]; simp [Part.up, Part.dl])
  | on k =>
    simp only [Part.num] at hp
    cases ht : s.t
    · refine key k (s.l0 + k) s.l1 false (by simp [wk, W.mv, ht]) ht rfl ?_ ?_
      · rw [l1, ht]; simp only [Part.up, Part.dl, Part.flip]; simp; omega
      · rw [l2, ht]; simp only [Part.up, Part.dl, Part.flip]; simp; omega
    · refine key (-k) s.l0 (s.l1 + k) true (by simp [wk, W.mv, ht, Int.sub_eq_add_neg]) ht rfl ?_ ?_
      · rw [l1, ht]; simp only [Part.up, Part.dl, Part.flip]; simp; omega
      · rw [l2, ht]; simp only [Part.up, Part.dl, Part.flip]; simp; omega
  | off k =>
    simp only [Part.num] at hp
    cases ht : s.t
    · refine key (-k) s.l0 (s.l1 + k) false (by simp [wk, W.mv, ht, Int.sub_eq_add_neg]) ht rfl ?_ ?_
      · rw [l1, ht]; simp only [Part.up, Part.dl, Part.flip]; simp; omega
      · rw [l2, ht]; simp only [Part.up, Part.dl, Part.flip]; simp; omega
    · refine key k (s.l0 + k) s.l1 true (by simp [wk, W.mv, ht]) ht rfl ?_ ?_
      · rw [l1, ht]; simp only [Part.up, Part.dl, Part.flip]; simp; omega
      · rw [l2, ht]; simp only [Part.up, Part.dl, Part.flip]; simp; omega
theorem rev_ind {α : Type} {P : List α → Prop} (h0 : P []) (hs : ∀ l x, P l → P (l ++ [x])) : ∀ l, P l := by
  intro l
  have : ∀ n (l : List α), l.length = n → P l := by
    intro n
    induction n with
    | zero => intro l h; rw [List.length_eq_zero_iff.mp h]; exact h0
    | succ n ih =>
      intro l h
      rcases List.eq_nil_or_concat l with rfl | ⟨l', x, rfl⟩
      · exact h0
      · rw [List.concat_eq_append] at h ⊢
        exact hs _ _ (ih l' (by simp at h; exact h))
  exact this _ l rfl
theorem same_all (row : List Part) : (∀ p ∈ row, 0 ≤ p.num) → Same row (wks row) := by
  induction row using rev_ind with
  | h0 => intro _; exact ⟨rfl, rfl, rfl, rfl, rfl⟩
  | hs l x ih =>
    intro h
    rw [wks_snoc]
    exact same_snoc (ih fun p hp => h p (List.mem_append_left _ hp)) (fold_inv _ _ W0_inv) (h x (List.mem_append_right _ (by simp)))
theorem form_shape {row : List Part} (h : ∀ p ∈ row, 0 ≤ p.num) : formP row 0 0 = shapeP (wks row) := by
  have s := same_all row h
  unfold formP shapeP
  rw [s.t, s.on, s.off]
  unfold stgs
  rw [s.st]
theorem stgs_shape {row : List Part} (h : ∀ p ∈ row, 0 ≤ p.num) : (stgs row 0 0).st = (wks row).st := by
  unfold stgs
  rw [(same_all row h).st]
theorem take_ok {row : List Part} (h : ∀ p ∈ row, 0 ≤ p.num) (i : Nat) : ∀ p ∈ row.take i, 0 ≤ p.num := fun p hp => h p (List.mem_of_mem_take hp)
theorem hts_found (row : List Part) (h : ∀ p ∈ row, 0 ≤ p.num) : hts (mvs row).1 = foundL row := by
  have : ∀ i, i ≤ row.length → hts (mvs (row.take i)).1 = Wfd row i := by
    intro i
    induction i with
    | zero => intro _; rfl
    | succ i ih =>
      intro hi
      have hx : row[i]? = some row[i] := List.getElem?_eq_getElem (by omega)
      rw [Wfd_snoc row i _ hx, ← ih (by omega), take_succ' hx, mvs_snoc]
      simp only
      rw [hts_snoc]
      have a1 := (same_all _ (take_ok h i)).a
      have a2 := (same_all _ (take_ok h (i + 1))).a
      rw [take_succ' hx, mvs_snoc, wks_snoc] at a2
      simp only at a2
      rw [hts_last] at a2
      rw [a2]
  have := this row.length (Nat.le_refl _)
  rwa [List.take_length] at this
theorem straight_shape {row : List Part} (h : ∀ p ∈ row, 0 ≤ p.num) : wks (strt row).1 = (wks row).core := (strs_eq row h W0 ([], false) W0_inv rfl rfl).1
theorem strs_ok {row : List Part} {B : Int} (h : ∀ p ∈ row, p.ok B) : ∀ p ∈ (strt row).1, p.ok B := by
  have : ∀ (row : List Part) (z : List Part × Bool), (∀ p ∈ row, p.ok B) → (∀ p ∈ z.1, p.ok B) → ∀ p ∈ (row.foldl stStep z).1, p.ok B := by
    intro row
    induction row with
    | nil => intro z _ h; exact h
    | cons p ps ih =>
      intro z h1 h2
      refine ih _ (fun q hq => h1 q (List.mem_cons_of_mem _ hq)) ?_
      have hp := h1 p List.mem_cons_self
      cases p with
      | turn => exact h2
      | delay k => intro q hq; rcases List.mem_append.mp hq with hq | hq; exact h2 q hq; simp at hq; subst hq; exact hp
      | on k => intro q hq; rcases List.mem_append.mp hq with hq | hq; exact h2 q hq; simp at hq; subst hq; cases z.2 <;> exact hp
      | off k => intro q hq; rcases List.mem_append.mp hq with hq | hq; exact h2 q hq; simp at hq; subst hq; cases z.2 <;> exact hp
  exact this row _ h (by simp)
theorem strs_len (row : List Part) : (strt row).1.length ≤ row.length := by
  have : ∀ (row : List Part) (z : List Part × Bool), (row.foldl stStep z).1.length ≤ z.1.length + row.length := by
    intro row
    induction row with
    | nil => intro z; simp
    | cons p ps ih =>
      intro z
      have := ih (stStep z p)
      have h2 : (stStep z p).1.length ≤ z.1.length + 1 := by cases p <;> simp [stStep]
      simp only [List.foldl_cons, List.length_cons]
      omega
  have := this row ([], false)
  simp at this
  exact this
theorem pv_turn : Part.pv .turn = .tup [.str "turn"] := rfl
theorem pv_on (k : Int) : Part.pv (.on k) = .tup [.str "on", .int k] := rfl
theorem pv_off (k : Int) : Part.pv (.off k) = .tup [.str "off", .int k] := rfl
theorem pv_delay (k : Int) : Part.pv (.delay k) = .tup [.str "delay", .int k] := rfl
theorem num_turn : Part.num .turn = 0 := rfl
theorem num_on (k : Int) : Part.num (.on k) = k := rfl
theorem num_off (k : Int) : Part.num (.off k) = k := rfl
theorem num_delay (k : Int) : Part.num (.delay k) = k := rfl
end Law
end
section
set_option autoImplicit false
/-! The law's jar. -/
namespace Law
open PySem PL
theorem jar_ev (m : Mem) (k : Nat) (ns : List Int) (hk : m[k]? = some (.ro (ns.map .int)) ∨ m[k]? = some (.lst (ns.map .int))) (hn : ns.length ≤ 64) : (m__law_jar [.ref k] m).sat fun p m' => ∃ j, p = .ref j ∧ m.length ≤ j ∧ (jarF j).inv m' ∧ Ext m m' := by
  refine fn_sat ?_ (fun p m' h h1 h2 => ?_)
  · apply run_sat
    unfold b__law_jar
    simp only [List.map_cons, List.map_nil, List.length_cons, List.length_nil, List.replicate, List.cons_append, List.nil_append, Nat.reduceAdd, Nat.reduceSub]
    have q1 : ∀ i : Int, mulOk 3 i := fun i => .inl (by decide)
    have q3 : ∀ i : Int, mulOk i 48271 := fun i => .inr (.inl (by decide))
    have q4 : ∀ i : Int, mulOk 5 i := fun i => .inl (by decide)
    refine seq_sat (fun e m' => ∃ cs : List Int, ∃ s : Int, cs.length ≤ 63 ∧ Ext m m' ∧ m'[m.length + 1]? = some (.lst (cs.map .int)) ∧ e = [some (.ref k), none, some (.ref (m.length + 1)), some (.int s)]) ?_ ?_
    · have key : ∀ o, m[k]? = some o → (o = .ro (ns.map .int) ∨ o = .lst (ns.map .int)) → fSl [.ref k, .non, .int 63] m = .ok (.ref m.length) (m ++ [.lst ((ns.map PV.int).take 63)]) ∧ ∀ l, fLen [.ref k] (m ++ l) = .ok (.int ns.length) (m ++ l) := by
        rintro o h1 (rfl | rfl)
        · have h2 := fun l : Mem => get_some (l := l) h1
          exact ⟨by simp [h1], fun l => by simp [h2]⟩
        · have h2 := fun l : Mem => get_some (l := l) h1
          exact ⟨by simp [h1], fun l => by simp [h2]⟩
      have key2 : fSl [.ref k, .non, .int 63] m = .ok (.ref m.length) (m ++ [.lst ((ns.map PV.int).take 63)]) ∧ ∀ l, fLen [.ref k] (m ++ l) = .ok (.int ns.length) (m ++ l) := by
        rcases hk with hk | hk
        · exact key _ hk (.inl rfl)
        · exact key _ hk (.inr rfl)
      obtain ⟨sl, ln⟩ := key2
      simp only [par_ev]
      refine lc_of PV.int (fun z => some (.int (3 * (if z < 0 then -z else z) + if z < 0 then 1 else 0))) (ns.take 63) (ys := ((ns.take 63).map fun z => 3 * (if z < 0 then -z else z) + if z < 0 then 1 else 0).map PV.int) (by simp [Function.comp_def]) (lk := [(m.length, (ns.take 63).map PV.int)]) (μ1 := m ++ [.lst ((ns.take 63).map PV.int)]) ?_ (locked_lst _ (by simp)) (by simp; omega) ?_ ?_
      · simp [sl, -fSl_ref]
      · intro x _ l
        refine ⟨_, rfl, ?_⟩
        by_cases c : x < 0 <;> simp [wipe, c, q1]
      have hcl : ((ns.take 63).map fun z : Int => 3 * (if z < 0 then -z else z) + if z < 0 then 1 else 0).length ≤ 63 := by simp; omega
      generalize ((ns.take 63).map fun z : Int => 3 * (if z < 0 then -z else z) + if z < 0 then 1 else 0) = cs at *
      have ln2 := ln [.lst ((ns.map PV.int).take 63), .lst (cs.map PV.int)]
      generalize hc : cs.map PV.int = pcs at *
      simp [ln2, q4, -fLen_ref]
      exact ⟨cs, hcl, hc.symm⟩
    rintro e m1 ⟨cs, s, hcs, hx, h1, rfl⟩
    refine seq_sat (fun e m' => m' = m1 ∧ ∃ (q : Option PV) (s : Int), e = [some (.ref k), q, some (.ref (m.length + 1)), some (.int s)]) ?_ ?_
    · simp [h1]
      refine for_sat0 PV.int cs (fun _ e m' => m' = m1 ∧ ∃ (q : Option PV) (s : Int), e = [some (.ref k), q, some (.ref (m.length + 1)), some (.int s)]) ?_ ⟨rfl, none, s, rfl⟩ ?_ ?_
      · rintro i e m' ⟨rfl, q, s, rfl⟩
        exact locked_lst _ h1
      · rintro i x e m' hx ⟨rfl, q, s, rfl⟩
        simp [q3]
      · rintro e m' ⟨rfl, q, s, rfl⟩
        exact ⟨rfl, q, s, rfl⟩
    rintro e m2 ⟨rfl, q, s, rfl⟩
    have hlt := (List.getElem?_eq_some_iff.mp h1).1
    have h1' : (m2 ++ [PO.dct []])[m.length + 1]? = some (.lst (cs.map .int)) := get_some h1
    have lk := locked_lst (n := m.length + 1) _ h1'
    simp
    refine lc_of PV.int (fun z => if decide (100000000000000000 ≤ z) = true then some (.int z) else none) cs (filterMap_if _ _ _) (lk := [(m.length + 1, cs.map PV.int)]) (μ1 := m2 ++ [PO.dct []]) ?_ lk (by simp; omega) ?_ ?_
    · simp [h1']
    · intro x _ l
      refine ⟨_, rfl, ?_⟩
      by_cases c : 100000000000000000 ≤ x <;> simp [wipe, c]
    simp [dfin, mergeD, putD]
    refine ⟨by have := hx.len; omega, ?_, hx.trans (Ext.app _ _)⟩
    refine ⟨cs.filter (fun x => decide (100000000000000000 ≤ x)), s, 0, by simp, by simp, ?_⟩
    have := List.length_filter_le (fun x : Int => decide (100000000000000000 ≤ x)) cs
    omega
  · obtain ⟨j, rfl, hj, _⟩ := h
    simp [PV.under] at h2
    omega
theorem draw_ev {j : Nat} (m : Mem) (hp : (jarF j).inv m) (many : Int) (h1 : many < 2 ^ 400) : (m__law_draw [.ref j, .int many] m).sat fun p m' => (∃ r, p = .int r ∧ 0 ≤ r ∧ (r < many ∨ r = 0)) ∧ (jarF j).Go m m' := by
  apply Fam.fn_go hp
  apply run_sat
  have hp' := hp
  obtain ⟨bs, s, t, e1, e2, e3⟩ := hp'
  have l2 := (List.getElem?_eq_some_iff.mp e2).1
  unfold b__law_draw
  simp only [List.map_cons, List.map_nil, List.length_cons, List.length_nil, List.replicate, List.cons_append, List.nil_append, Nat.reduceAdd, Nat.reduceSub]
  simp [fDGet, e1]
  refine ⟨fun _ => Fam.refl hp, fun c => ?_⟩
  have hd : divOk many := by
    refine ⟨by omega, ?_⟩
    have : many.natAbs < 2 ^ 400 := by omega
    have := (Nat.log2_lt (by omega)).mpr this
    omega
  have hr := fun i : Int => And.intro (Int.emod_nonneg i (by omega : many ≠ 0)) (Int.emod_lt_of_pos i (by omega : 0 < many))
  have h0 : 0 < many := by omega
  have en : fNe [.ref (j + 1), .ref m.length] (m ++ [.lst []]) = .ok (.bl (!bs.isEmpty)) (m ++ [.lst []]) := fNe_ints (by simp [e2]) (by simp)
  rw [en]
  rcases List.eq_nil_or_concat bs with rfl | ⟨bs', x, rfl⟩
  · have q2 : ∀ i k : Int, mulOk (i % 4294967291) k := fun i k => .inl (by omega)
    have q3 : ∀ i k : Int, mulOk (i % 4294967279) k := fun i k => .inl (by omega)
    have q4 : ∀ i : Int, mulOk 2246822519 i := fun i => .inl (by decide)
    have q5 : ∀ i : Int, mulOk 69621 i := fun i => .inl (by decide)
    have q6 : divOk 64 := divOk_small (by decide) (by decide)
    have e1' : (m ++ [PO.lst []])[j]? = some (.dct [(.inr ("wide" : Str), .ref (j + 1)), (.inr ("stirred" : Str), .int s), (.inr ("times" : Str), .int t)]) := get_some e1
    have e2' : (m ++ [PO.lst []])[j + 1]? = some (.lst (([] : List Int).map PV.int)) := get_some e2
    have g0 := Fam.go_app hp [PO.lst []]
    generalize m ++ [PO.lst []] = M at *
    have z : ∀ o, (M.set j o)[j]? = some o := fun o => get_set_same e1'
    have ga : ∀ t', (jarF j).Go m (M.set j (.dct [(.inr ("wide" : Str), .ref (j + 1)), (.inr ("stirred" : Str), .int s), (.inr ("times" : Str), .int t')])) := fun t' =>
      Fam.Go.put g0 (k := j) (by simp [jarF]) ⟨[], s, t', z _, by rw [List.getElem?_set_ne (by omega)]; exact e2', by simp⟩
    simp [fDGet, fDPut, e1', z, q2, q3, q4, q5, q6, h0, hr, putD]
    exact ga _
  · have hb : bs'.length ≤ 99 := by simp at e3; omega
    have hb' : bs'.length < 16777216 := by omega
    have e2' : (m ++ [PO.lst []])[j + 1]? = some (.lst ((bs' ++ [x]).map PV.int)) := get_some (by rw [List.concat_eq_append] at e2; exact e2)
    have g0 := Fam.go_app hp [PO.lst []]
    have g1 : ∀ l : List Int, l.length ≤ 100 → (jarF j).Go m ((m ++ [PO.lst []]).set (j + 1) (.lst (l.map .int))) := fun l hl =>
      Fam.Go.put g0 (k := j + 1) (by simp [jarF]) ⟨l, s, t, by rw [List.getElem?_set_ne (by omega)]; exact get_some e1, get_set_same e2', hl⟩
    have ga := g1 bs' (by omega)
    have gb := g1 (bs' ++ [x / many]) (by simp; omega)
    generalize m ++ [PO.lst []] = M at *
    have z : ∀ o, (M.set (j + 1) o)[j + 1]? = some o := fun o => get_set_same e2'
    simp at ga gb e2'
    simp [e2', z, h0, hr, hd, hb']
    exact ⟨fun _ => gb, fun _ => ga⟩
theorem pick_ev {j : Nat} (m : Mem) (hp : (jarF j).inv m) (k : Nat) (l : List PV) (hk : j + 1 < k) (h : m[k]? = some (.lst l)) (h0 : 0 < l.length) (h1 : l.length < 1000000) : (m__law_pick [.ref j, .ref k] m).sat fun p m' => p ∈ l ∧ (jarF j).Go m m' := by
  apply Fam.fn_go hp
  apply run_sat
  unfold b__law_pick
  simp [h]
  obtain ⟨p, m2, e, ⟨r, rfl, r0, r1⟩, g⟩ := rsat_ex (draw_ev m hp l.length (by omega))
  rw [e]
  have hg := g.get h hk
  have hr : r.toNat < l.length := by omega
  simp [hg]
  rw [ixOf_int _ r0 (List.getElem?_eq_getElem hr)]
  simp
  exact g
theorem pick_tup {j : Nat} (m : Mem) (hp : (jarF j).inv m) (l : List PV) (h0 : 0 < l.length) (h1 : l.length < 1000000) : (m__law_pick [.ref j, .tup l] m).sat fun p m' => p ∈ l ∧ (jarF j).Go m m' := by
  apply Fam.fn_go hp
  apply run_sat
  unfold b__law_pick
  have hl : fLen [.tup l] m = .ok (.int l.length) m := rfl
  simp [hl]
  obtain ⟨p, m2, e, ⟨r, rfl, r0, r1⟩, g⟩ := rsat_ex (draw_ev m hp l.length (by omega))
  rw [e]
  have hr : r.toNat < l.length := by omega
  simp
  rw [ixOf_int _ r0 (List.getElem?_eq_getElem hr)]
  simp
  exact g
theorem pick_lit {j : Nat} (m : Mem) (hp : (jarF j).inv m) (l : List PV) (h0 : 0 < l.length) (h1 : l.length < 1000000) : (m__law_pick [.ref j, .ref m.length] (m ++ [.lst l])).sat fun p m' => p ∈ l ∧ (jarF j).Go m m' :=
  rsat_imp (pick_ev _ (Fam.app hp _) m.length l ((jarF j).lt m hp) (by simp) h0 h1) fun _ _ h => ⟨h.1, (Fam.go_app hp _).trans h.2⟩
end Law
end
section
set_option autoImplicit false
/-! Rows that are drawn from the jar. -/
namespace Law
open PySem PL
def IsRow (many : Nat) (B : Int) (p : PV) : Prop := ∃ row : List Part, p = pvs row ∧ row.length ≤ many ∧ ∀ x ∈ row, x.ok B
/-- .. without turns, if none are asked for -/
def IsRowT (many : Nat) (B turns : Int) (p : PV) : Prop := ∃ row : List Part, p = pvs row ∧ row.length ≤ many ∧ ∀ x ∈ row, x.ok B ∧ (turns ≤ 0 → x ≠ .turn)
/-- words of parts -/
def Wds (ws : List PV) : Prop := 0 < ws.length ∧ ws.length ≤ 3 ∧ ∀ p ∈ ws, p = .str ("on" : Str) ∨ p = .str ("off" : Str) ∨ p = .str ("delay" : Str)
theorem wds_part {p : PV} {z B : Int} (h : p = .str ("on" : Str) ∨ p = .str ("off" : Str) ∨ p = .str ("delay" : Str)) (h0 : 0 ≤ z) (h1 : z ≤ B) : ∃ x : Part, x.pv = .tup [p, .int z] ∧ x.ok B ∧ x ≠ .turn := by
  rcases h with rfl | rfl | rfl
  · exact ⟨.on z, rfl, ⟨h0, h1⟩, by simp⟩
  · exact ⟨.off z, rfl, ⟨h0, h1⟩, by simp⟩
  · exact ⟨.delay z, rfl, ⟨h0, h1⟩, by simp⟩
def RowI (j : Nat) (m : Mem) (B : Int) (many most turns : Int) (w fc : Nat) (ws : List PV) (i : Nat) (e : PL.Env) (m' : Mem) : Prop :=
  (jarF j).Go m m' ∧ m'[w]? = some (.lst ws) ∧ ∃ (row : List Part) (q : Option PV), e = [some (.ref j), some (.int many), some (.int most), some (.int turns), q, some (.ref w), some (.ref fc)] ∧ m'[fc]? = some (.lst (row.map Part.pv)) ∧ row.length ≤ i ∧ ∀ x ∈ row, x.ok B ∧ (turns ≤ 0 → x ≠ .turn)
theorem row_evT {j : Nat} (m : Mem) (hp : (jarF j).inv m) (many : Nat) (hm : many ≤ 1000) (most turns B : Int) (h0 : 0 ≤ most) (h1 : most ≤ 10 ^ 60) (hB : 3 ≤ B ∧ most ≤ B) (ht : turns ≤ 1000) :
    (m__law_row [.ref j, .int many, .int most, .int turns] m).sat fun p m' => IsRowT many B turns p ∧ (jarF j).Go m m' := by
  have c60 : (10 : Int) ^ 60 + 1 < 2 ^ 400 := by decide
  refine Fam.fn_go (P := IsRowT many B turns) hp ?_
  apply run_sat
  unfold b__law_row
  simp only [List.map_cons, List.map_nil, List.length_cons, List.length_nil, List.replicate, List.cons_append, List.nil_append, Nat.reduceAdd, Nat.reduceSub]
  have hlen := (jarF j).lt m hp
  have htop : (jarF j).top = j + 1 := rfl
  refine seq_sat (fun e m' => ∃ (w fc : Nat) (ws : List PV), RowI j m B many most turns w fc ws 0 e m' ∧ Wds ws ∧ w ≠ fc ∧ m.length ≤ w ∧ m.length ≤ fc) ?_ ?_
  · have pk := pick_lit (m ++ [.lst [.str ("on" : Str), .str ("off" : Str)], .lst [.str ("on" : Str), .str ("off" : Str)], .lst [.str ("on" : Str), .str ("off" : Str), .str ("delay" : Str)], .lst [.str ("on" : Str)], .lst [.str ("off" : Str)]]) (Fam.app hp _) [.ref m.length, .ref (m.length + 1), .ref (m.length + 1 + 1), .ref (m.length + 1 + 1 + 1), .ref (m.length + 1 + 1 + 1 + 1)] (by simp) (by simp)
    obtain ⟨p, m2, e, hq, g⟩ := rsat_ex pk
    have g2 := (Fam.go_app hp _).trans g
    simp only [List.length_append, List.length_cons, List.length_nil, List.append_assoc, List.cons_append, List.nil_append, Nat.zero_add, Nat.reduceAdd] at e
    simp [e]
    have get : ∀ (k : Nat) (l : List PV), (m ++ [PO.lst [.str ("on" : Str), .str ("off" : Str)], .lst [.str ("on" : Str), .str ("off" : Str)], .lst [.str ("on" : Str), .str ("off" : Str), .str ("delay" : Str)], .lst [.str ("on" : Str)], .lst [.str ("off" : Str)]])[m.length + k]? = some (.lst l) → (m2 ++ [PO.lst []])[m.length + k]? = some (.lst l) := fun k l h => get_some (g.get h (by omega))
    have fin : ∀ (k : Nat) (l : List PV), (m2 ++ [PO.lst []])[m.length + k]? = some (.lst l) → m.length + k < m2.length → Wds l → ∃ w fc ws, RowI j m B many most turns w fc ws 0 [some (.ref j), some (.int many), some (.int most), some (.int turns), none, some (.ref (m.length + k)), some (.ref m2.length)] (m2 ++ [.lst []]) ∧ Wds ws ∧ w ≠ fc ∧ m.length ≤ w ∧ m.length ≤ fc := fun k l h hl hw => ⟨_, _, l, ⟨g2.app _, h, [], _, rfl, by simp, by simp, by simp⟩, hw, by omega, by omega, by omega⟩
    have hl2 := g.len
    simp at hl2
    simp at hq
    rcases hq with rfl | rfl | rfl | rfl | rfl
    · exact fin 0 [.str ("on" : Str), .str ("off" : Str)] (get 0 _ (by simp)) (by omega) (by simp [Wds])
    · exact fin 1 [.str ("on" : Str), .str ("off" : Str)] (get 1 _ (by simp)) (by omega) (by simp [Wds])
    · exact fin 2 [.str ("on" : Str), .str ("off" : Str), .str ("delay" : Str)] (get 2 _ (by simp)) (by omega) (by simp [Wds])
    · exact fin 3 [.str ("on" : Str)] (get 3 _ (by simp)) (by omega) (by simp [Wds])
    · exact fin 4 [.str ("off" : Str)] (get 4 _ (by simp)) (by omega) (by simp [Wds])
  rintro e m1 ⟨w, fc, ws, ⟨g, hw, row, q, rfl, hf, hl, hok⟩, hws, hne, lw, lf⟩
  obtain ⟨p, m2, e2, ⟨r, rfl, r0, r1⟩, g2⟩ := rsat_ex (draw_ev m1 g.i ((many : Int) + 1) (by omega))
  have hr : iRng1 (app m__law_draw (ac (v 0) (ac (app2 fAdd (v 1) (c (.int 1))) an))) [some (.ref j), some (.int many), some (.int most), some (.int turns), q, some (.ref w), some (.ref fc)] m1 = .ok ⟨(List.range r.toNat).map (fun k : Nat => PV.int (0 + k)), []⟩ m2 := by
    simp [iRng1, big62, rangeL, e2]
    omega
  simp only [seq_ev, forS_ev]
  rw [hr]
  simp only [Out.of_ok]
  have gg := g.trans g2
  refine for_thru (fun k : Nat => PV.int (0 + k)) (List.range r.toNat) (RowI j m B many most turns w fc ws) (fun _ _ _ _ => locked_nil _) ⟨gg, g2.get hw (by omega), row, _, rfl, g2.get hf (by omega), hl, hok⟩ ?_ ?_
  · rintro i x e m' hx ⟨g, hw, row, q, rfl, hf, hl, hok⟩
    have hi : i < r.toNat := by have := (List.getElem?_eq_some_iff.mp hx).1; simpa using this
    have hz : row.length < 16777216 := by omega
    have fin : ∀ (M : Mem) (y : Part), (jarF j).Go m' M → y.ok B ∧ (turns ≤ 0 → y ≠ .turn) → RowI j m B many most turns w fc ws (i + 1) [some (.ref j), some (.int many), some (.int most), some (.int turns), some (.int (0 + x)), some (.ref w), some (.ref fc)] (M.set fc (.lst (row.map Part.pv ++ [y.pv]))) := fun M y gM hy => by
      have f2 := gM.get hf (by omega)
      refine ⟨(g.trans gM).set hlen lf _, ?_, row ++ [y], _, rfl, by simpa using get_set_same f2, by simp; omega, ?_⟩
      · rw [List.getElem?_set_ne (fun h => hne h.symm)]; exact gM.get hw (by omega)
      · intro z hz
        rcases List.mem_append.mp hz with hz | hz
        · exact hok z hz
        · simp at hz; subst hz; exact hy
    have alt2 : ∀ M, (jarF j).Go m' M → (PL.exp (mth .list fAppend (v 6) (ac (app fTup (ac (app m__law_pick (ac (v 0) (ac (v 5) an))) (ac (app m__law_pick (ac (v 0) (ac (app fLst (ac (c (.int 0)) (ac (c (.int 1)) (ac (c (.int 1)) (ac (c (.int 2)) (ac (c (.int 2)) (ac (c (.int 3)) (ac (v 2) (ac (app m__law_draw (ac (v 0) (ac (app2 fAdd (v 2) (c (.int 1))) an))) an))))))))) an))) an))) an)) [some (.ref j), some (.int many), some (.int most), some (.int turns), some (.int (0 + x)), some (.ref w), some (.ref fc)] M).sat { nx := RowI j m B many most turns w fc ws (i + 1) } := by
      intro M gM
      obtain ⟨p, m3, e3, hq, g3⟩ := rsat_ex (pick_ev M gM.i w ws (by omega) (gM.get hw (by omega)) hws.1 (by have := hws.2.1; omega))
      obtain ⟨p4, m4, e4, ⟨r4, rfl, r40, r41⟩, g4⟩ := rsat_ex (draw_ev m3 g3.i (most + 1) (by omega))
      obtain ⟨p5, m5, e5, hq5, g5⟩ := rsat_ex (pick_lit m4 g4.i [.int 0, .int 1, .int 1, .int 2, .int 2, .int 3, .int most, .int r4] (by simp) (by simp))
      have hz5 : ∃ z : Int, p5 = .int z ∧ 0 ≤ z ∧ z ≤ B := by
        simp at hq5
        rcases hq5 with rfl | rfl | rfl | rfl | rfl | rfl <;> exact ⟨_, rfl, by omega, by omega⟩
      obtain ⟨z, rfl, z0, z1⟩ := hz5
      obtain ⟨y, hy, hyo, hyt⟩ := wds_part (hws.2.2 p hq) z0 z1
      have gF := ((gM.trans g3).trans g4).trans g5
      have f5 := gF.get hf (by omega)
      have f1 := gM.get hf (by omega)
      have q := fin m5 y gF ⟨hyo, fun _ => hyt⟩
      rw [hy] at q
      simp [f1, e3, e4, e5, f5, hz]
      simpa using q
    simp only [turn_ev, tn_ev, Out.of_ok, List.set]
    by_cases ct : turns > 0
    · obtain ⟨p3, m3, e3, ⟨r3, rfl, r30, r31⟩, g3⟩ := rsat_ex (draw_ev m' g.i turns (by omega))
      have f3 := g3.get hf (by omega)
      have q := fin m3 .turn g3 ⟨⟨by decide, by show (0 : Int) ≤ B; omega⟩, fun h => by omega⟩
      have a2 := alt2 m3 g3
      by_cases c3 : r3 = 0
      · subst c3
        simp [ct, e3, f3, hz]
        simpa [pv_turn] using q
      · simp only [cond_ev, and_ev, app2_ev, v0, vS, Res.bind_ok, c_ev, fGt_int, ct, decide_true, onB_true, app_ev, ac_ev, an_ev, e3, fEq_int, c3, decide_false, Out.of_ok, onS_false]
        exact sat_imp a2 (fun _ _ h => h) (fun _ _ h => h.elim) (fun _ _ h => h.elim) (fun _ _ h => h.elim)
    · have a2 := alt2 m' (Fam.refl g.i)
      simp only [cond_ev, and_ev, app2_ev, v0, vS, Res.bind_ok, c_ev, fGt_int, ct, decide_false, onB_false, Out.of_ok, onS_false]
      exact sat_imp a2 (fun _ _ h => h) (fun _ _ h => h.elim) (fun _ _ h => h.elim) (fun _ _ h => h.elim)
  · rintro e m' ⟨g, hw, row, q, rfl, hf, hl, hok⟩
    simp at hl
    simp [hf]
    exact ⟨⟨row, rfl, by omega, hok⟩, g⟩
theorem row_ev {j : Nat} (m : Mem) (hp : (jarF j).inv m) (many : Nat) (hm : many ≤ 1000) (most turns B : Int) (h0 : 0 ≤ most) (h1 : most ≤ 10 ^ 60) (hB : 3 ≤ B ∧ most ≤ B) (ht : turns ≤ 1000) :
    (m__law_row [.ref j, .int many, .int most, .int turns] m).sat fun p m' => IsRow many B p ∧ (jarF j).Go m m' := by
  refine rsat_imp (row_evT m hp many hm most turns B h0 h1 hB ht) ?_
  rintro p m' ⟨⟨row, rfl, hl, hok⟩, g⟩
  exact ⟨⟨row, rfl, hl, fun x hx => (hok x hx).1⟩, g⟩
end Law
end
section
set_option autoImplicit false
/-! The order of forms: plain. -/
namespace Law
open PySem PL
theorem twAll {α : Type} {p : α → Bool} : ∀ {l : List α}, (∀ x ∈ l, p x = true) → l.takeWhile p = l
  | [], _ => rfl
  | x :: l, h => by rw [List.takeWhile_cons, if_pos (h x (by simp)), twAll fun z hz => h z (by simp [hz])]
/-- what stands ahead of the first step of word b beyond k -/
def ahd (S : List Sg) (b : Bool) (k : Int) : List Sg := S.takeWhile fun s => !(s.1 == b && decide (s.2 > k))
def mst (S : List Sg) (b : Bool) : Int := S.foldl (fun a s => if s.1 == b then max a s.2 else a) 0
/-- the most of the other word ahead of the first step of word b beyond k -/
def ph (S : List Sg) (b : Bool) (k : Int) : Int := mst (ahd S b k) (!b)
theorem mst_snoc (S : List Sg) (s : Sg) (b : Bool) : mst (S ++ [s]) b = if s.1 == b then max (mst S b) s.2 else mst S b := by unfold mst; rw [List.foldl_append]; rfl
theorem mst_nn (b : Bool) (S : List Sg) : 0 ≤ mst S b := by
  refine rev_ind (P := fun S => 0 ≤ mst S b) (Int.le_refl 0) ?_ S
  intro l x ih
  rw [mst_snoc]; split <;> omega
/-- beyond k stands none -/
def under (S : List Sg) (b : Bool) (k : Int) : Prop := ∀ s ∈ S, s.1 = b → s.2 ≤ k
theorem ahd_all {S : List Sg} {b : Bool} {k : Int} (h : under S b k) : ahd S b k = S := by
  refine twAll fun s hs => ?_
  by_cases c : s.1 = b
  · have := h s hs c; simp; omega
  · simp [c]
theorem ahd_app {S T : List Sg} {b : Bool} {k : Int} (h : under S b k) : ahd (S ++ T) b k = S ++ ahd T b k := by
  unfold ahd
  rw [List.takeWhile_append_of_pos]
  intro s hs
  by_cases c : s.1 = b
  · have := h s hs c; simp; omega
  · simp [c]
theorem ahd_stop {S T : List Sg} {b : Bool} {k : Int} (h : ¬ under S b k) : ahd (S ++ T) b k = ahd S b k := by
  induction S with
  | nil => exact absurd (fun s hs => (nomatch hs)) h
  | cons s S ih =>
    unfold ahd at *
    rw [List.cons_append, List.takeWhile_cons, List.takeWhile_cons]
    by_cases c : s.1 = b ∧ s.2 > k
    · rw [if_neg (by simp [c.1, c.2]), if_neg (by simp [c.1, c.2])]
    · have hp : (!(s.1 == b && decide (s.2 > k))) = true := by
        simp only [Bool.not_eq_true', Bool.and_eq_false_iff, beq_eq_false_iff_ne, decide_eq_false_iff_not]
        by_cases d : s.1 = b
        · exact .inr fun e => c ⟨d, e⟩
        · exact .inl d
      rw [if_pos hp, if_pos hp, ih]
      intro hu
      refine h fun z hz hb => ?_
      rcases List.mem_cons.mp hz with rfl | hz
      · exact Int.not_lt.mp fun e => c ⟨hb, e⟩
      · exact hu z hz hb
/-! heights -/
def topH (hs : List Int) : Int := hs.foldl max 0
def depH (hs : List Int) : Int := hs.foldl (fun a h => max a (-h)) 0
theorem topH_snoc (hs : List Int) (h : Int) : topH (hs ++ [h]) = max (topH hs) h := by unfold topH; rw [List.foldl_append]; rfl
theorem depH_snoc (hs : List Int) (h : Int) : depH (hs ++ [h]) = max (depH hs) (-h) := by unfold depH; rw [List.foldl_append]; rfl
theorem topH_le {hs : List Int} {k : Int} (hk : 0 ≤ k) : topH hs ≤ k ↔ ∀ h ∈ hs, h ≤ k := by
  refine rev_ind (P := fun hs => topH hs ≤ k ↔ ∀ h ∈ hs, h ≤ k) ?_ ?_ hs
  · simp [topH, hk]
  · intro l x ih
    rw [topH_snoc]
    constructor
    · intro h z hz
      rcases List.mem_append.mp hz with hz | hz
      · exact ih.mp (by omega) z hz
      · simp at hz; subst hz; omega
    · intro h
      have h1 := ih.mpr fun z hz => h z (List.mem_append_left _ hz)
      have h2 := h x (by simp)
      omega
theorem depH_le {hs : List Int} {k : Int} (hk : 0 ≤ k) : depH hs ≤ k ↔ ∀ h ∈ hs, -h ≤ k := by
  refine rev_ind (P := fun hs => depH hs ≤ k ↔ ∀ h ∈ hs, -h ≤ k) ?_ ?_ hs
  · simp [depH, hk]
  · intro l x ih
    rw [depH_snoc]
    constructor
    · intro h z hz
      rcases List.mem_append.mp hz with hz | hz
      · exact ih.mp (by omega) z hz
      · simp at hz; subst hz; omega
    · intro h
      have h1 := ih.mpr fun z hz => h z (List.mem_append_left _ hz)
      have h2 := h x (by simp)
      omega
theorem topH_nn (hs : List Int) : 0 ≤ topH hs := by
  refine rev_ind (P := fun hs => 0 ≤ topH hs) (Int.le_refl 0) ?_ hs
  intro l x ih; rw [topH_snoc]; omega
theorem depH_nn (hs : List Int) : 0 ≤ depH hs := by
  refine rev_ind (P := fun hs => 0 ≤ depH hs) (Int.le_refl 0) ?_ hs
  intro l x ih; rw [depH_snoc]; omega
/-- the ladder of heights -/
structure Lad (hs : List Int) (s : SS) : Prop where
  hi : s.hi = topH hs
  de : s.de = depH hs
  md : mst s.st true = s.hi
  mf : mst s.st false = s.de
  ud : under s.st true s.hi
  uf : under s.st false s.de
  ld : ∀ n, s.st.getLast? = some (true, n) → n = s.hi
  lf : ∀ n, s.st.getLast? = some (false, n) → n = s.de
  pt : ∀ k, 0 ≤ k → ph s.st true k = depH (hs.takeWhile fun h => decide (h ≤ k))
  pf : ∀ k, 0 ≤ k → ph s.st false k = topH (hs.takeWhile fun h => decide (-h ≤ k))
theorem tw_all {hs : List Int} {p : Int → Bool} (h : ∀ x ∈ hs, p x = true) : hs.takeWhile p = hs := twAll h
theorem tw_app {hs : List Int} {p : Int → Bool} (h : ∀ x ∈ hs, p x = true) (x : Int) : (hs ++ [x]).takeWhile p = if p x then hs ++ [x] else hs := by
  rw [List.takeWhile_append_of_pos h]
  cases hp : p x <;> simp [hp]
theorem tw_stop {hs : List Int} {p : Int → Bool} (h : ¬ ∀ x ∈ hs, p x = true) (T : List Int) : (hs ++ T).takeWhile p = hs.takeWhile p := by
  induction hs with
  | nil => exact absurd (fun x hx => (nomatch hx)) h
  | cons x hs ih =>
    rw [List.cons_append, List.takeWhile_cons, List.takeWhile_cons]
    by_cases c : p x = true
    · rw [if_pos c, if_pos c, ih]
      intro hu
      refine h fun z hz => ?_
      rcases List.mem_cons.mp hz with rfl | hz
      · exact c
      · exact hu z hz
    · rw [if_neg c, if_neg c]
theorem mst_le {S : List Sg} {b : Bool} {k : Int} (hk : 0 ≤ k) : mst S b ≤ k ↔ under S b k := by
  refine rev_ind (P := fun S => mst S b ≤ k ↔ under S b k) ?_ ?_ S
  · exact ⟨fun _ s hs => (nomatch hs), fun _ => hk⟩
  · intro l x ih
    rw [mst_snoc]
    constructor
    · intro h s hs hb
      rcases List.mem_append.mp hs with hs | hs
      · refine ih.mp ?_ s hs hb
        split at h <;> omega
      · simp at hs; subst hs
        rw [if_pos (by simpa using hb)] at h; omega
    · intro h
      have h1 := ih.mpr fun s hs hb => h s (List.mem_append_left _ hs) hb
      split
      · rename_i hb
        have := h x (by simp) (by simpa using hb); omega
      · exact h1
theorem top_dec {hs : List Int} {k : Int} (hk : 0 ≤ k) : (∀ x ∈ hs, (decide (x ≤ k)) = true) ↔ topH hs ≤ k := by
  rw [topH_le hk]; constructor <;> intro h x hx <;> have := h x hx <;> simpa using this
theorem dep_dec {hs : List Int} {k : Int} (hk : 0 ≤ k) : (∀ x ∈ hs, (decide (-x ≤ k)) = true) ↔ depH hs ≤ k := by
  rw [depH_le hk]; constructor <;> intro h x hx <;> have := h x hx <;> simpa using this
/-- a height above all -/
theorem lad_up {hs : List Int} {s : SS} (L : Lad hs s) {h : Int} (hh : h > s.hi) : Lad (hs ++ [h]) ⟨h, s.de, ws s.st true h⟩ := by
  have hi0 : 0 ≤ s.hi := by rw [L.hi]; exact topH_nn _
  have de0 : 0 ≤ s.de := by rw [L.de]; exact depH_nn _
  obtain ⟨base, hw, hub, huf, hmf, hmt, hph, hcase⟩ : ∃ base : List Sg, ws s.st true h = base ++ [(true, h)] ∧ under base true s.hi ∧ under base false s.de ∧ mst base false = s.de ∧ mst base true ≤ s.hi ∧ (∀ b k, ¬ under base b k → ahd s.st b k = ahd base b k) ∧ ((base = s.st) ∨ s.st = base ++ [(true, s.hi)]) := by
    by_cases c : s.st.getLast?.map (·.1) = some true
    · rcases List.eq_nil_or_concat s.st with hn | ⟨g, ⟨w, n⟩, hg⟩
      · rw [hn] at c; nomatch c
      · rw [List.concat_eq_append] at hg
        have hw : w = true := by rw [hg] at c; simpa using c
        subst hw
        have hn := L.ld n (by rw [hg]; simp)
        subst hn
        have md := L.md
        have mf := L.mf
        rw [hg, mst_snoc] at md mf
        simp at md mf
        refine ⟨g, ?_, fun z hz hb => L.ud z (by rw [hg]; exact List.mem_append_left _ hz) hb, fun z hz hb => L.uf z (by rw [hg]; exact List.mem_append_left _ hz) hb, mf, by omega, fun b k hu => by rw [hg]; exact ahd_stop hu, .inr hg⟩
        unfold ws
        rw [if_pos c, hg]; simp
    · exact ⟨s.st, by unfold ws; rw [if_neg c], L.ud, L.uf, L.mf, by rw [L.md]; omega, fun _ _ _ => rfl, .inl rfl⟩
  have kk : ∀ k, 0 ≤ k → (topH hs ≤ k ↔ s.hi ≤ k) := fun k _ => by rw [L.hi]
  have kd : ∀ k, 0 ≤ k → (depH hs ≤ k ↔ s.de ≤ k) := fun k _ => by rw [L.de]
  refine ⟨by rw [topH_snoc, ← L.hi]; simp only; omega, by rw [depH_snoc, ← L.de]; simp only; omega, ?_, ?_, ?_, ?_, ?_, ?_, ?_, ?_⟩
  · simp only; rw [hw, mst_snoc]; simp; omega
  · simp only; rw [hw, mst_snoc]; simp; exact hmf
  · intro z hz hb
    simp only at hz ⊢
    rw [hw] at hz
    rcases List.mem_append.mp hz with hz | hz
    · have := hub z hz hb; omega
    · simp at hz; subst hz; exact Int.le_refl _
  · intro z hz hb
    simp only at hz ⊢
    rw [hw] at hz
    rcases List.mem_append.mp hz with hz | hz
    · exact huf z hz hb
    · simp at hz; subst hz; nomatch hb
  · intro n hn; simp only at hn ⊢; rw [hw] at hn; simp at hn; exact hn.symm
  · intro n hn; simp only at hn; rw [hw] at hn; simp at hn
  · intro k hk
    simp only
    rw [hw]
    by_cases hu : under base true k
    · have e1 : ph (base ++ [(true, h)]) true k = s.de := by
        unfold ph
        rw [ahd_app hu]
        unfold ahd
        by_cases c : h > k
        · rw [List.takeWhile_cons, if_neg (by simp [c]), List.append_nil]; exact hmf
        · rw [List.takeWhile_cons, if_pos (by simp; omega)]
          rw [List.takeWhile_nil, mst_snoc]; simp; exact hmf
      rw [e1]
      by_cases c : s.hi ≤ k
      · rw [tw_app ((top_dec hk).mpr ((kk k hk).mpr c))]
        split
        · rw [depH_snoc, ← L.de]; omega
        · exact L.de
      · rw [tw_stop (fun a => c ((kk k hk).mp ((top_dec hk).mp a)))]
        rw [← L.pt k hk]
        rcases hcase with hb | hb
        · exfalso
          rw [hb] at hu
          have := (mst_le hk).mpr hu
          rw [L.md] at this; omega
        · unfold ph
          rw [hb, ahd_app hu]
          unfold ahd
          rw [List.takeWhile_cons, if_neg (by simp; omega), List.append_nil]
          exact hmf.symm
    · have c : ¬ s.hi ≤ k := fun c => hu fun z hz hb => Int.le_trans (hub z hz hb) c
      rw [tw_stop (fun a => c ((kk k hk).mp ((top_dec hk).mp a))), ← L.pt k hk]
      unfold ph
      rw [ahd_stop hu, hph _ _ hu]
  · intro k hk
    simp only
    rw [hw]
    by_cases hu : under base false k
    · have hdk : s.de ≤ k := by rw [← hmf]; exact (mst_le hk).mpr hu
      have e1 : ph (base ++ [(true, h)]) false k = h := by
        unfold ph
        rw [ahd_app hu]
        unfold ahd
        rw [List.takeWhile_cons, if_pos (by simp), List.takeWhile_nil, mst_snoc]
        simp; omega
      rw [e1, tw_app ((dep_dec hk).mpr ((kd k hk).mpr hdk)), if_pos (by simp; omega), topH_snoc, ← L.hi]
      omega
    · have c : ¬ s.de ≤ k := fun c => hu fun z hz hb => Int.le_trans (huf z hz hb) c
      rw [tw_stop (fun a => c ((kd k hk).mp ((dep_dec hk).mp a))), ← L.pf k hk]
      unfold ph
      rw [ahd_stop hu, hph _ _ hu]
/-! the other way about -/
def sws (S : List Sg) : List Sg := S.map fun s => (!s.1, s.2)
theorem ff_id : ((fun s : Sg => ((!s.1, s.2) : Sg)) ∘ fun s => (!s.1, s.2)) = id := by funext s; simp
theorem sws_sws (S : List Sg) : sws (sws S) = S := by unfold sws; rw [List.map_map, ff_id, List.map_id]
theorem ahd_sws (S : List Sg) (b : Bool) (k : Int) : ahd (sws S) b k = sws (ahd S (!b) k) := by
  unfold ahd sws
  rw [List.takeWhile_map]
  congr 2
  funext s
  simp only [Function.comp]
  cases s.1 <;> cases b <;> rfl
theorem mst_sws (b : Bool) (S : List Sg) : mst (sws S) b = mst S (!b) := by
  refine rev_ind (P := fun S => mst (sws S) b = mst S (!b)) rfl ?_ S
  intro l x ih
  have e : sws (l ++ [x]) = sws l ++ [(!x.1, x.2)] := by simp [sws]
  rw [e, mst_snoc, mst_snoc, ih]
  cases x.1 <;> cases b <;> rfl
theorem ph_sws (S : List Sg) (b : Bool) (k : Int) : ph (sws S) b k = ph S (!b) k := by unfold ph; rw [ahd_sws, mst_sws]
theorem under_sws {S : List Sg} {b : Bool} {k : Int} (h : under S (!b) k) : under (sws S) b k := by
  intro z hz hb
  obtain ⟨y, hy, rfl⟩ := List.mem_map.mp hz
  refine h y hy ?_
  simp only at hb
  rw [← hb]; simp
def ngs (hs : List Int) : List Int := hs.map fun h => -h
theorem ngs_snoc (hs : List Int) (h : Int) : ngs (hs ++ [h]) = ngs hs ++ [-h] := by simp [ngs]
theorem ngs_ngs (hs : List Int) : ngs (ngs hs) = hs := by
  unfold ngs
  rw [List.map_map]
  have : ((fun h : Int => -h) ∘ fun h => -h) = id := by funext h; simp
  rw [this, List.map_id]
theorem topH_ngs (hs : List Int) : topH (ngs hs) = depH hs := by
  refine rev_ind (P := fun hs => topH (ngs hs) = depH hs) rfl ?_ hs
  intro l x ih; rw [ngs_snoc, topH_snoc, depH_snoc, ih]
theorem depH_ngs (hs : List Int) : depH (ngs hs) = topH hs := by rw [← topH_ngs, ngs_ngs]
theorem tw_ngs (hs : List Int) (p : Int → Bool) : (ngs hs).takeWhile p = ngs (hs.takeWhile fun h => p (-h)) := by unfold ngs; rw [List.takeWhile_map]; rfl
def swS (s : SS) : SS := ⟨s.de, s.hi, sws s.st⟩
theorem lad_sw {hs : List Int} {s : SS} (L : Lad hs s) : Lad (ngs hs) (swS s) := by
  refine ⟨by rw [topH_ngs]; exact L.de, by rw [depH_ngs]; exact L.hi, by show mst (sws s.st) true = s.de; rw [mst_sws]; exact L.mf, by show mst (sws s.st) false = s.hi; rw [mst_sws]; exact L.md, under_sws L.uf, under_sws L.ud, ?_, ?_, ?_, ?_⟩
  · intro n hn
    have hn' : (sws s.st).getLast? = some (true, n) := hn
    unfold sws at hn'
    rw [List.getLast?_map] at hn'
    cases hg : s.st.getLast? with
    | none => rw [hg] at hn'; nomatch hn'
    | some z =>
      rw [hg] at hn'
      simp at hn'
      refine L.lf n ?_
      rw [hg]
      exact congrArg some (Prod.ext (by simpa using hn'.1) hn'.2)
  · intro n hn
    have hn' : (sws s.st).getLast? = some (false, n) := hn
    unfold sws at hn'
    rw [List.getLast?_map] at hn'
    cases hg : s.st.getLast? with
    | none => rw [hg] at hn'; nomatch hn'
    | some z =>
      rw [hg] at hn'
      simp at hn'
      refine L.ld n ?_
      rw [hg]
      exact congrArg some (Prod.ext (by simpa using hn'.1) hn'.2)
  · intro k hk
    show ph (sws s.st) true k = _
    rw [ph_sws, tw_ngs, depH_ngs]
    exact L.pf k hk
  · intro k hk
    show ph (sws s.st) false k = _
    rw [ph_sws, tw_ngs, topH_ngs]
    simp only [Int.neg_neg]
    exact L.pt k hk
theorem ws_sws (f : List Sg) (b : Bool) (n : Int) : sws (ws (sws f) b n) = ws f (!b) n := by
  unfold ws
  have e : (sws f).getLast?.map (·.1) = some b ↔ f.getLast?.map (·.1) = some (!b) := by
    unfold sws
    rw [List.getLast?_map]
    cases f.getLast? with
    | none => simp
    | some z => cases h : z.1 <;> cases b <;> simp [h]
  by_cases c : f.getLast?.map (·.1) = some (!b)
  · rw [if_pos c, if_pos (e.mpr c)]
    have := sws_sws f.dropLast
    unfold sws at this ⊢
    rw [← List.map_dropLast, List.map_append, this]; rfl
  · rw [if_neg c, if_neg (fun h => c (e.mp h))]
    have := sws_sws f
    unfold sws at this ⊢
    rw [List.map_append, this]; rfl
theorem swS_swS (s : SS) : swS (swS s) = s := by unfold swS; simp only [sws_sws]
theorem lad_snoc {hs : List Int} {s : SS} (L : Lad hs s) (h : Int) : Lad (hs ++ [h]) (stg s h) := by
  have hi0 : 0 ≤ s.hi := by rw [L.hi]; exact topH_nn _
  have de0 : 0 ≤ s.de := by rw [L.de]; exact depH_nn _
  unfold stg
  by_cases c : h > s.hi
  · rw [if_pos c]; exact lad_up L c
  · rw [if_neg c]
    by_cases d : -h > s.de
    · rw [if_pos d]
      have h1 := lad_sw (lad_up (lad_sw L) (h := -h) d)
      rw [← ngs_snoc, ngs_ngs] at h1
      have e : swS ⟨-h, (swS s).de, ws (swS s).st true (-h)⟩ = ⟨s.hi, -h, ws s.st false (-h)⟩ := by
        show (⟨s.hi, -h, sws (ws (sws s.st) true (-h))⟩ : SS) = _
        rw [ws_sws]; rfl
      rw [e] at h1
      exact h1
    · rw [if_neg d]
      refine ⟨by rw [topH_snoc, ← L.hi]; omega, by rw [depH_snoc, ← L.de]; omega, L.md, L.mf, L.ud, L.uf, L.ld, L.lf, ?_, ?_⟩
      · intro k hk
        rw [L.pt k hk]
        by_cases a : ∀ x ∈ hs, decide (x ≤ k) = true
        · have hk2 := (top_dec hk).mp a
          rw [tw_app a, if_pos (by simp; have := L.hi; omega), tw_all a, depH_snoc, ← L.de]
          omega
        · rw [tw_stop a]
      · intro k hk
        rw [L.pf k hk]
        by_cases a : ∀ x ∈ hs, decide (-x ≤ k) = true
        · have hk2 := (dep_dec hk).mp a
          rw [tw_app a, if_pos (by simp; have := L.de; omega), tw_all a, topH_snoc, ← L.hi]
          omega
        · rw [tw_stop a]
theorem lad_all (hs : List Int) : Lad hs (hs.foldl stg ⟨0, 0, []⟩) := by
  refine rev_ind (P := fun hs => Lad hs (hs.foldl stg ⟨0, 0, []⟩)) ?_ ?_ hs
  · exact ⟨rfl, rfl, rfl, rfl, fun z hz => (nomatch hz), fun z hz => (nomatch hz), fun n hn => (nomatch hn), fun n hn => (nomatch hn), fun _ _ => rfl, fun _ _ => rfl⟩
  · intro l x ih
    rw [List.foldl_append]
    exact lad_snoc ih x
end Law
end
section
set_option autoImplicit false
/-! Low beside low: plain. -/
namespace Law
open PySem PL
def Low (S T : List Sg) : Prop := ∀ k, 0 ≤ k → ph S true k ≤ ph T true k ∧ ph T false k ≤ ph S false k
def bnds (S T : List Sg) : List Int := 0 :: (S ++ T).map (·.2)
def LowB (S T : List Sg) : Prop := ∀ k ∈ bnds S T, ph S true k ≤ ph T true k ∧ ph T false k ≤ ph S false k
/-- the greatest of the numbers that is not beyond k -/
def flr (L : List Int) (k : Int) : Int := L.foldl (fun a x => if x ≤ k then max a x else a) 0
theorem flr_spec (L : List Int) {k : Int} (hk : 0 ≤ k) : (flr L k = 0 ∨ flr L k ∈ L) ∧ 0 ≤ flr L k ∧ flr L k ≤ k ∧ ∀ x ∈ L, x ≤ k → x ≤ flr L k := by
  refine rev_ind (P := fun L => (flr L k = 0 ∨ flr L k ∈ L) ∧ 0 ≤ flr L k ∧ flr L k ≤ k ∧ ∀ x ∈ L, x ≤ k → x ≤ flr L k) ?_ ?_ L
  · exact ⟨.inl rfl, Int.le_refl _, hk, fun x hx => (nomatch hx)⟩
  · intro l x ⟨h1, h2, h3, h4⟩
    have e : flr (l ++ [x]) k = if x ≤ k then max (flr l k) x else flr l k := by unfold flr; rw [List.foldl_append]; rfl
    rw [e]
    by_cases c : x ≤ k
    · rw [if_pos c]
      refine ⟨?_, by omega, by omega, fun z hz hzk => ?_⟩
      · by_cases d : x ≤ flr l k
        · rw [Int.max_eq_left d]
          rcases h1 with h1 | h1
          · exact .inl h1
          · exact .inr (List.mem_append_left _ h1)
        · rw [Int.max_eq_right (by omega)]; exact .inr (by simp)
      · rcases List.mem_append.mp hz with hz | hz
        · have := h4 z hz hzk; omega
        · simp at hz; subst hz; omega
    · rw [if_neg c]
      refine ⟨?_, h2, h3, fun z hz hzk => ?_⟩
      · rcases h1 with h1 | h1
        · exact .inl h1
        · exact .inr (List.mem_append_left _ h1)
      · rcases List.mem_append.mp hz with hz | hz
        · exact h4 z hz hzk
        · simp at hz; subst hz; omega
theorem ph_flr (S : List Sg) (b : Bool) {k j : Int} (h : ∀ s ∈ S, s.2 ≤ k ↔ s.2 ≤ j) : ph S b k = ph S b j := by
  unfold ph ahd
  have e : S.takeWhile (fun s => !(s.1 == b && decide (s.2 > k))) = S.takeWhile (fun s => !(s.1 == b && decide (s.2 > j))) := by
    induction S with
    | nil => rfl
    | cons s S ih =>
      have hs := h s (by simp)
      have hd : decide (s.2 > k) = decide (s.2 > j) := by congr 1; simp only [eq_iff_iff]; omega
      rw [List.takeWhile_cons, List.takeWhile_cons, hd, ih fun z hz => h z (by simp [hz])]
  rw [e]
theorem low_iff (S T : List Sg) (hn : ∀ s ∈ S ++ T, 0 ≤ s.2) : LowB S T ↔ Low S T := by
  constructor
  · intro h k hk
    obtain ⟨a, b, c, d⟩ := flr_spec ((S ++ T).map (·.2)) hk
    have hm : flr ((S ++ T).map (·.2)) k ∈ bnds S T := by
      unfold bnds
      rcases a with a | a
      · rw [a]; simp
      · exact List.mem_cons_of_mem _ a
    have e : ∀ s ∈ S ++ T, s.2 ≤ k ↔ s.2 ≤ flr ((S ++ T).map (·.2)) k := fun s hs => ⟨fun h => d s.2 (List.mem_map.mpr ⟨s, hs, rfl⟩) h, fun h => by omega⟩
    have := h _ hm
    rw [← ph_flr S true fun s hs => e s (List.mem_append_left _ hs), ← ph_flr T true fun s hs => e s (List.mem_append_right _ hs), ← ph_flr S false fun s hs => e s (List.mem_append_left _ hs), ← ph_flr T false fun s hs => e s (List.mem_append_right _ hs)] at this
    exact this
  · intro h k hk
    unfold bnds at hk
    refine h k ?_
    rcases List.mem_cons.mp hk with rfl | hk
    · exact Int.le_refl _
    · obtain ⟨s, hs, rfl⟩ := List.mem_map.mp hk; exact hn s hs
/-- the same of heights -/
def LowH (A B : List Int) : Prop := ∀ k, 0 ≤ k → depH (A.takeWhile fun h => decide (h ≤ k)) ≤ depH (B.takeWhile fun h => decide (h ≤ k)) ∧ topH (B.takeWhile fun h => decide (-h ≤ k)) ≤ topH (A.takeWhile fun h => decide (-h ≤ k))
theorem lowH_iff {A B : List Int} {s t : SS} (hs : Lad A s) (ht : Lad B t) : Low s.st t.st ↔ LowH A B := by
  constructor
  · intro h k hk
    have := h k hk
    rw [hs.pt k hk, ht.pt k hk, hs.pf k hk, ht.pf k hk] at this
    exact this
  · intro h k hk
    rw [hs.pt k hk, ht.pt k hk, hs.pf k hk, ht.pf k hk]
    exact h k hk
theorem lowH_refl (A : List Int) : LowH A A := fun _ _ => ⟨Int.le_refl _, Int.le_refl _⟩
theorem lowH_trans {A B C : List Int} (h1 : LowH A B) (h2 : LowH B C) : LowH A C := fun k hk => ⟨Int.le_trans (h1 k hk).1 (h2 k hk).1, Int.le_trans (h2 k hk).2 (h1 k hk).2⟩
theorem lowH_ngs {A B : List Int} (h : LowH A B) : LowH (ngs B) (ngs A) := by
  intro k hk
  rw [tw_ngs, tw_ngs, tw_ngs, tw_ngs, depH_ngs, depH_ngs, topH_ngs, topH_ngs]
  simp only [Int.neg_neg]
  exact ⟨(h k hk).2, (h k hk).1⟩
theorem low_refl (S : List Sg) : Low S S := fun _ _ => ⟨Int.le_refl _, Int.le_refl _⟩
theorem low_trans {A B C : List Sg} (h1 : Low A B) (h2 : Low B C) : Low A C := fun k hk => ⟨Int.le_trans (h1 k hk).1 (h2 k hk).1, Int.le_trans (h2 k hk).2 (h1 k hk).2⟩
/-! put together -/
def shH (h : Int) (A : List Int) : List Int := A.map (· + h)
theorem depH_app (A B : List Int) : depH (A ++ B) = max (depH A) (depH B) := by
  refine rev_ind (P := fun B => depH (A ++ B) = max (depH A) (depH B)) ?_ ?_ B
  · have := depH_nn A; simp [depH]; rw [show depH A = List.foldl (fun a h => max a (-h)) 0 A from rfl] at this; omega
  · intro l x ih; rw [← List.append_assoc, depH_snoc, depH_snoc, ih]; omega
theorem topH_app (A B : List Int) : topH (A ++ B) = max (topH A) (topH B) := by
  have := depH_app (ngs A) (ngs B)
  have e : ngs A ++ ngs B = ngs (A ++ B) := by simp [ngs]
  rw [e, depH_ngs, depH_ngs, depH_ngs] at this
  exact this
theorem depH_sh (h : Int) (A : List Int) {d : Int} (hd : 0 ≤ d) (hh : -h ≤ d) : max d (depH (shH h A)) = max d (depH A - h) := by
  refine rev_ind (P := fun A => max d (depH (shH h A)) = max d (depH A - h)) ?_ ?_ A
  · simp [shH, depH]; omega
  · intro l x ih
    have e : shH h (l ++ [x]) = shH h l ++ [x + h] := by simp [shH]
    rw [e, depH_snoc, depH_snoc]; omega
theorem tw_sh (h k : Int) (A : List Int) : (shH h A).takeWhile (fun x => decide (x ≤ k)) = shH h (A.takeWhile fun x => decide (x ≤ k - h)) := by
  unfold shH
  rw [List.takeWhile_map]
  congr 2
  funext x
  simp only [Function.comp]
  congr 1; simp only [eq_iff_iff]; omega
theorem ngs_sh (h : Int) (A : List Int) : ngs (shH h A) = shH (-h) (ngs A) := by
  unfold ngs shH
  rw [List.map_map, List.map_map]
  congr 1
  funext x; simp only [Function.comp]; omega
theorem ngs_app (A B : List Int) : ngs (A ++ B) = ngs A ++ ngs B := by simp [ngs]
/-- the dips of what is put together, ahead of the first height beyond k -/
theorem dep_cat (C A : List Int) (h k : Int) (hk : 0 ≤ k) (hh : -h ≤ depH C) : depH ((C ++ shH h A).takeWhile fun x => decide (x ≤ k)) = if topH C ≤ k then max (depH C) (depH (A.takeWhile fun x => decide (x ≤ k - h)) - h) else depH (C.takeWhile fun x => decide (x ≤ k)) := by
  by_cases c : topH C ≤ k
  · rw [if_pos c, List.takeWhile_append_of_pos ((top_dec hk).mpr c), tw_sh, depH_app, depH_sh h _ (depH_nn C) hh]
  · rw [if_neg c, tw_stop (fun a => c ((top_dec hk).mp a))]
theorem tw_sub {p q : Int → Bool} (hpq : ∀ x, p x = true → q x = true) : ∀ A : List Int, ∃ T, A.takeWhile q = A.takeWhile p ++ T
  | [] => ⟨[], rfl⟩
  | x :: A => by
    obtain ⟨T, hT⟩ := tw_sub hpq A
    rw [List.takeWhile_cons, List.takeWhile_cons]
    by_cases c : p x = true
    · rw [if_pos c, if_pos (hpq x c), hT]; exact ⟨T, rfl⟩
    · rw [if_neg c]; exact ⟨_, rfl⟩
theorem dep_more {A : List Int} {j k : Int} (h : j ≤ k) : depH (A.takeWhile fun x => decide (x ≤ j)) ≤ depH (A.takeWhile fun x => decide (x ≤ k)) := by
  obtain ⟨T, hT⟩ := tw_sub (p := fun x => decide (x ≤ j)) (q := fun x => decide (x ≤ k)) (fun x hx => by simp at hx ⊢; omega) A
  rw [hT, depH_app]; omega
theorem dep_le_all (A : List Int) (p : Int → Bool) : depH (A.takeWhile p) ≤ depH A := by
  obtain ⟨T, hT⟩ := tw_sub (p := p) (q := fun _ => true) (fun _ _ => rfl) A
  have e : A.takeWhile (fun _ => true) = A := twAll fun _ _ => rfl
  rw [e] at hT
  conv => rhs; rw [hT]
  rw [depH_app]; omega
/-- half of LowH -/
def LowD (A B : List Int) : Prop := ∀ k, 0 ≤ k → depH (A.takeWhile fun h => decide (h ≤ k)) ≤ depH (B.takeWhile fun h => decide (h ≤ k))
theorem lowH_D (A B : List Int) : LowH A B ↔ LowD A B ∧ LowD (ngs B) (ngs A) := by
  constructor
  · intro h; exact ⟨fun k hk => (h k hk).1, fun k hk => (lowH_ngs h k hk).1⟩
  · rintro ⟨h1, h2⟩ k hk
    refine ⟨h1 k hk, ?_⟩
    have := h2 k hk
    rw [tw_ngs, tw_ngs, depH_ngs, depH_ngs] at this
    exact this
/-- where it stands at the end -/
def Ends (A : List Int) (h : Int) : Prop := -h ≤ depH A ∧ h ≤ topH A
theorem ends_ngs {A : List Int} {h : Int} (e : Ends A h) : Ends (ngs A) (-h) := ⟨by rw [depH_ngs]; have := e.2; omega, by rw [topH_ngs]; exact e.1⟩
theorem lowD_behind {C A B : List Int} {h : Int} (e : Ends C h) (H : LowD A B) : LowD (C ++ shH h A) (C ++ shH h B) := by
  intro k hk
  rw [dep_cat C A h k hk e.1, dep_cat C B h k hk e.1]
  by_cases c : topH C ≤ k
  · rw [if_pos c, if_pos c]
    have := H (k - h) (by have := e.2; omega)
    omega
  · rw [if_neg c, if_neg c]; exact Int.le_refl _
theorem lowH_behind {C A B : List Int} {h : Int} (e : Ends C h) (H : LowH A B) : LowH (C ++ shH h A) (C ++ shH h B) := by
  obtain ⟨h1, h2⟩ := (lowH_D A B).mp H
  refine (lowH_D _ _).mpr ⟨lowD_behind e h1, ?_⟩
  rw [ngs_app, ngs_app, ngs_sh, ngs_sh]
  exact lowD_behind (ends_ngs e) h2
theorem lowD_ahead {A B C : List Int} {g h : Int} (ea : Ends A g) (eb : Ends B h) (hgh : h ≤ g) (htop : topH B ≤ topH A) (H : LowD A B) : LowD (A ++ shH g C) (B ++ shH h C) := by
  intro k hk
  rw [dep_cat A C g k hk ea.1, dep_cat B C h k hk eb.1]
  by_cases c : topH A ≤ k
  · rw [if_pos c, if_pos (by omega)]
    have h1 := H k hk
    rw [twAll ((top_dec hk).mpr c), twAll ((top_dec hk).mpr (by omega : topH B ≤ k))] at h1
    have := dep_more (A := C) (j := k - g) (k := k - h) (by omega)
    omega
  · rw [if_neg c]
    have h1 := H k hk
    by_cases d : topH B ≤ k
    · rw [if_pos d]
      have := dep_le_all B (fun x => decide (x ≤ k))
      omega
    · rw [if_neg d]; exact h1
theorem lowH_ends {A B : List Int} (H : LowH A B) : topH B ≤ topH A ∧ depH A ≤ depH B := by
  have k0 := depH_nn A; have k1 := depH_nn B; have k2 := topH_nn A; have k3 := topH_nn B
  constructor
  · have h := (H (max (depH A) (depH B)) (by omega)).2
    rw [twAll ((dep_dec (by omega)).mpr (by omega)), twAll ((dep_dec (by omega)).mpr (by omega))] at h
    exact h
  · have h := (H (max (topH A) (topH B)) (by omega)).1
    rw [twAll ((top_dec (by omega)).mpr (by omega)), twAll ((top_dec (by omega)).mpr (by omega))] at h
    exact h
theorem lowH_ahead {A B C : List Int} {g h : Int} (ea : Ends A g) (eb : Ends B h) (hgh : h ≤ g) (H : LowH A B) : LowH (A ++ shH g C) (B ++ shH h C) := by
  obtain ⟨h1, h2⟩ := (lowH_D A B).mp H
  obtain ⟨t1, t2⟩ := lowH_ends H
  refine (lowH_D _ _).mpr ⟨lowD_ahead ea eb hgh t1 h1, ?_⟩
  rw [ngs_app, ngs_app, ngs_sh, ngs_sh]
  exact lowD_ahead (ends_ngs eb) (ends_ngs ea) (by omega) (by rw [topH_ngs, topH_ngs]; exact t2) h2
end Law
end
section
set_option autoImplicit false
namespace Law
open PySem PL
theorem part_good {p : Part} {B : Nat} (hB : B ≤ 10 ^ 100) (h : p.ok B) : Good 3 p.pv := by
  have h1 := h.1
  have h2 := h.2
  have hs : sml p.num := by
    have : (10 ^ 100 : Nat) < 10 ^ 200 := by decide +kernel
    show p.num.natAbs < 10 ^ 200
    omega
  cases p <;> simp only [Part.num] at hs
  · exact (Good.tup (Goods.cons (Good.str (by decide +kernel)) Goods.nil) (by simp)).mono (by decide)
  all_goals exact (Good.tup (Goods.cons (Good.str (by decide +kernel)) (Goods.cons (Good.int hs) Goods.nil)) (by simp)).mono (by decide)
theorem part_dp (p : Part) : p.pv.pd.depth = 1 := by cases p <;> simp [Part.pv]
theorem pvs_good {row : List Part} {B : Nat} (hB : B ≤ 10 ^ 100) (h : ∀ p ∈ row, p.ok B) : Good (3 * row.length + 1) (pvs row) :=
  Good.tup (Goods.map Part.pv row fun p hp => part_good hB (h p hp)) (dps_map _ _ _ fun p _ => by rw [part_dp p]; decide)
theorem sg_good {s : Sg} (h : sml s.2) : Good 3 (Sg.pv s) := ⟨Sg_data s, Sg_sm s h, by rw [Sg_wt s]; decide, by rw [Sg_dp s]; decide⟩
theorem ints_good {l : List Int} (h : ∀ x ∈ l, sml x) : Good (l.length + 1) (.tup (l.map .int)) := by
  have := Good.tup (Goods.map PV.int l fun x hx => Good.int (h x hx)) (dps_map _ _ _ fun x _ => by simp)
  simpa using this
structure Fit (row : List Part) : Prop where
  pos : ∀ p ∈ row, 0 ≤ p.num
  ex : ∃ B : Nat, B ≤ 10 ^ 100 ∧ ∀ p ∈ row, p.ok B
  len : row.length ≤ 100
theorem fit_sml {row : List Part} (h : Fit row) (i : Nat) : sml (wks (row.take i)).at_ ∧ (∀ x ∈ (wks (row.take i)).st, sml x.2) ∧ (wks (row.take i)).st.length ≤ 200 := by
  obtain ⟨B, hB, hok⟩ := h.ex
  have o := wks_ok (row.take i) (fun p hp => hok p (List.mem_of_mem_take hp)) W0 0 0 ⟨by simp [W0], by simp [W0], by simp [W0]⟩
  have hl : (row.take i).length ≤ 100 := by have := h.len; simp; omega
  have hb : 0 + B * (row.take i).length < 10 ^ 200 := by
    have h2 := Nat.mul_le_mul hB hl
    have h3 : (10 ^ 100 * 100 : Nat) < 10 ^ 200 := by decide +kernel
    omega
  exact ⟨Nat.lt_of_le_of_lt o.at_ hb, fun x hx => Nat.lt_of_le_of_lt (o.st x hx) hb, by have := o.len; change _ ≤ 0 + 2 * _ at this; exact Nat.le_trans this (by omega)⟩
theorem found_sml {row : List Part} (h : Fit row) : ∀ x ∈ foundL row, sml x := by
  intro x hx
  unfold foundL Wfd at hx
  obtain ⟨i, _, rfl⟩ := List.mem_map.mp hx
  exact (fit_sml h _).1
theorem found_len (row : List Part) : (foundL row).length = row.length := by simp [foundL, Wfd]
theorem late_sml {row : List Part} (h : Fit row) : sml (wks row).l0 ∧ sml (wks row).l1 := by
  obtain ⟨B, hB, hok⟩ := h.ex
  have : ∀ (row : List Part) (s : W) (b : Nat), (∀ p ∈ row, p.ok B) → s.l0.natAbs ≤ b → s.l1.natAbs ≤ b → (row.foldl wk s).l0.natAbs ≤ b + B * row.length ∧ (row.foldl wk s).l1.natAbs ≤ b + B * row.length := by
    intro row
    induction row with
    | nil => intro s b _ h1 h2; simpa using ⟨h1, h2⟩
    | cons p ps ih =>
      intro s b h0 h1 h2
      have hp := h0 p List.mem_cons_self
      have a1 := hp.1
      have a2 := hp.2
      have f3 : ∀ z : W, z.upH.upL.l0 = z.l0 := by
        intro z; unfold W.upH W.upL; by_cases c1 : z.at_ > z.hi
        · simp only [if_pos c1]; split <;> rfl
        · simp only [if_neg c1]; split <;> rfl
      have f4 : ∀ z : W, z.upH.upL.l1 = z.l1 := by
        intro z; unfold W.upH W.upL; by_cases c1 : z.at_ > z.hi
        · simp only [if_pos c1]; split <;> rfl
        · simp only [if_neg c1]; split <;> rfl
      have st : (wk s p).l0.natAbs ≤ b + B ∧ (wk s p).l1.natAbs ≤ b + B := by
        unfold wk
        rw [f3, f4]
        cases p <;> simp only [Part.num] at a1 a2 <;> simp only [W.mv]
        · omega
        · split <;> simp <;> omega
        · split <;> simp <;> omega
        · omega
      have := ih _ (b + B) (fun q hq => h0 q (List.mem_cons_of_mem _ hq)) st.1 st.2
      simp only [List.foldl_cons, List.length_cons, Nat.mul_add, Nat.mul_one]
      omega
  have o := this row W0 0 hok (by simp [W0]) (by simp [W0])
  have hb : 0 + B * row.length < 10 ^ 200 := by
    have h2 := Nat.mul_le_mul hB h.len
    have h3 : (10 ^ 100 * 100 : Nat) < 10 ^ 200 := by decide +kernel
    omega
  exact ⟨Nat.lt_of_le_of_lt o.1 hb, Nat.lt_of_le_of_lt o.2 hb⟩
def tl (s : W) : List PV := [.int s.l0, .int s.l1, .tup (s.st.map Sg.pv)]
theorem st_good {row : List Part} (h : Fit row) : Good 601 (.tup ((wks row).st.map Sg.pv)) := by
  have f := fit_sml h row.length
  rw [List.take_length] at f
  exact (Good.tup (Goods.map Sg.pv _ fun x hx => sg_good (f.2.1 x hx)) (dps_map _ _ _ fun p _ => by rw [Sg_dp p]; decide)).mono (by have := f.2.2; omega)
theorem tl_good {row : List Part} (h : Fit row) : Goods 603 (tl (wks row)) := (Goods.cons (Good.int (late_sml h).1) (Goods.cons (Good.int (late_sml h).2) (Goods.cons (st_good h) Goods.nil))).mono (by decide)
theorem st_dp (s : W) : PyData.depthAll (PV.pds (s.st.map Sg.pv)) ≤ 1 := dps_map _ _ _ fun p _ => by rw [Sg_dp p]; decide
theorem shape_good' {row : List Part} (h : Fit row) (b : Bool) : Good 605 (.tup (.bl b :: tl (wks row))) :=
  (Good.tup (Goods.cons (Good.bl b) (tl_good h)) (by have := st_dp (wks row); simp [tl]; omega)).mono (by decide)
theorem found_good {row : List Part} (h : Fit row) : Good 101 (.tup ((foundL row).map .int)) := (ints_good (found_sml h)).mono (by rw [found_len]; have := h.len; omega)
theorem fit_straight {row : List Part} (h : Fit row) : Fit (strt row).1 := by
  obtain ⟨B, hB, hok⟩ := h.ex
  exact ⟨fun p hp => (strs_ok hok p hp).1, ⟨B, hB, strs_ok hok⟩, Nat.le_trans (strs_len row) h.len⟩
theorem fit_turn {row : List Part} (h : Fit row) (hl : row.length < 100) : Fit (row ++ [.turn]) := by
  obtain ⟨B, hB, hok⟩ := h.ex
  refine ⟨fun p hp => ?_, ⟨B, hB, fun p hp => ?_⟩, by simp; omega⟩
  · rcases List.mem_append.mp hp with hp | hp
    · exact h.pos p hp
    · simp at hp; subst hp; simp [Part.num]
  · rcases List.mem_append.mp hp with hp | hp
    · exact hok p hp
    · simp at hp; subst hp; simp [Part.ok, Part.num]
theorem hts_sml {row : List Part} (h : Fit row) : ∀ x ∈ hts (mvs row).1, sml x := by rw [hts_found row h.pos]; exact found_sml h
end Law
end
section
set_option autoImplicit false
/-! Rows put together: latenesses, heights, and the order. Plain. -/
namespace Law
open PySem PL
/-- how a part moves: at, on late, off late -/
def dA (t : Bool) : Part → Int
  | .on k => if t then -k else k
  | .off k => if t then k else -k
  | _ => 0
def d0 (t : Bool) : Part → Int
  | .turn => 0
  | .delay k => k
  | .on k => if t then 0 else k
  | .off k => if t then k else 0
def d1 (t : Bool) : Part → Int
  | .turn => 0
  | .delay k => k
  | .on k => if t then k else 0
  | .off k => if t then 0 else k
theorem upH_f (s : W) : s.upH.t = s.t ∧ s.upH.at_ = s.at_ ∧ s.upH.l0 = s.l0 ∧ s.upH.l1 = s.l1 := by unfold W.upH; split <;> exact ⟨rfl, rfl, rfl, rfl⟩
theorem upL_f (s : W) : s.upL.t = s.t ∧ s.upL.at_ = s.at_ ∧ s.upL.l0 = s.l0 ∧ s.upL.l1 = s.l1 := by unfold W.upL; split <;> exact ⟨rfl, rfl, rfl, rfl⟩
theorem wk_f (s : W) (p : Part) : (wk s p).t = p.flip s.t ∧ (wk s p).at_ = s.at_ + dA s.t p ∧ (wk s p).l0 = s.l0 + d0 s.t p ∧ (wk s p).l1 = s.l1 + d1 s.t p := by
  have a := upL_f (s.mv p).upH
  have b := upH_f (s.mv p)
  unfold wk
  rw [a.1, a.2.1, a.2.2.1, a.2.2.2, b.1, b.2.1, b.2.2.1, b.2.2.2]
  cases p <;> cases h : s.t <;> simp [W.mv, dA, d0, d1, Part.flip, h] <;> omega
structure Cat (a b : List Part) : Prop where
  t : (wks (a ++ b)).t = ((wks a).t != (wks b).t)
  at_ : (wks (a ++ b)).at_ = (wks a).at_ + (if (wks a).t then -(wks b).at_ else (wks b).at_)
  l0 : (wks (a ++ b)).l0 = (wks a).l0 + (if (wks a).t then (wks b).l1 else (wks b).l0)
  l1 : (wks (a ++ b)).l1 = (wks a).l1 + (if (wks a).t then (wks b).l0 else (wks b).l1)
theorem flip_x (p : Part) (x t : Bool) : p.flip (x != t) = (x != p.flip t) := by cases p <;> cases x <;> cases t <;> rfl
theorem cat_all (a b : List Part) : Cat a b := by
  refine rev_ind (P := fun b => Cat a b) ?_ ?_ b
  · constructor <;> simp [W0]
  · intro l p ih
    have e : a ++ (l ++ [p]) = (a ++ l) ++ [p] := by simp
    have f := wk_f (wks (a ++ l)) p
    have g := wk_f (wks l) p
    have i1 := ih.t; have i2 := ih.at_; have i3 := ih.l0; have i4 := ih.l1
    constructor
    · rw [e, wks_snoc, wks_snoc, f.1, g.1, i1, flip_x]
    · rw [e, wks_snoc, wks_snoc, f.2.1, g.2.1, i2, i1]
      cases p <;> cases (wks a).t <;> cases (wks l).t <;> simp [dA] <;> omega
    · rw [e, wks_snoc, wks_snoc, f.2.2.1, g.2.2.1, g.2.2.2, i3, i1]
      cases p <;> cases (wks a).t <;> cases (wks l).t <;> simp [d0, d1] <;> omega
    · rw [e, wks_snoc, wks_snoc, f.2.2.2, g.2.2.1, g.2.2.2, i4, i1]
      cases p <;> cases (wks a).t <;> cases (wks l).t <;> simp [d0, d1] <;> omega
theorem found_snoc (l : List Part) (p : Part) : foundL (l ++ [p]) = foundL l ++ [(wks (l ++ [p])).at_] := by
  have h := Wfd_snoc (l ++ [p]) l.length p (by simp)
  have e : Wfd (l ++ [p]) l.length = Wfd l l.length := by
    unfold Wfd
    refine List.map_congr_left fun j hj => ?_
    have hj := List.mem_range.mp hj
    rw [List.take_append_of_le_length (by omega)]
  unfold foundL
  rw [List.length_append, List.length_singleton, h, e, List.take_left' rfl, wks_snoc]
theorem found_cat (a b : List Part) : foundL (a ++ b) = foundL a ++ shH (wks a).at_ (if (wks a).t then ngs (foundL b) else foundL b) := by
  refine rev_ind (P := fun b => foundL (a ++ b) = foundL a ++ shH (wks a).at_ (if (wks a).t then ngs (foundL b) else foundL b)) ?_ ?_ b
  · simp [foundL, Wfd, shH, ngs]
  · intro l p ih
    have e : a ++ (l ++ [p]) = (a ++ l) ++ [p] := by simp
    rw [e, found_snoc, ih, ← e, (cat_all a (l ++ [p])).at_, found_snoc]
    cases (wks a).t <;> simp [shH, ngs] <;> omega
theorem at_l (row : List Part) : (wks row).at_ = (wks row).l0 - (wks row).l1 := by
  refine rev_ind (P := fun row => (wks row).at_ = (wks row).l0 - (wks row).l1) (by simp [W0]) ?_ row
  intro l p ih
  have f := wk_f (wks l) p
  rw [wks_snoc, f.2.1, f.2.2.1, f.2.2.2, ih]
  cases p <;> cases (wks l).t <;> simp [dA, d0, d1] <;> omega
theorem lad_row {row : List Part} (h : ∀ p ∈ row, 0 ≤ p.num) : Lad (foundL row) ⟨(wks row).hi, -(wks row).lo, (wks row).st⟩ := by
  have s := same_all row h
  have e := s.st
  rw [hts_found row h] at e
  rw [← e]; exact lad_all _
theorem ends_row {row : List Part} (h : ∀ p ∈ row, 0 ≤ p.num) : Ends (foundL row) (wks row).at_ := by
  have L := lad_row h
  have i : (wks row).inv := fold_inv row W0 W0_inv
  exact ⟨by rw [← L.de]; have := i.l; show -(wks row).at_ ≤ -(wks row).lo; omega, by rw [← L.hi]; exact i.h⟩
/-- a row not turned beside another one -/
def Core (a b : List Part) : Prop := (wks b).l0 ≤ (wks a).l0 ∧ (wks a).l1 ≤ (wks b).l1 ∧ LowH (foundL a) (foundL b)
def Within (a b : List Part) : Prop := (wks a).t = (wks b).t ∧ if (wks a).t then Core b a else Core a b
theorem core_refl (a : List Part) : Core a a := ⟨Int.le_refl _, Int.le_refl _, lowH_refl _⟩
theorem core_trans {a b c : List Part} (h : Core a b) (k : Core b c) : Core a c := ⟨Int.le_trans k.1 h.1, Int.le_trans h.2.1 k.2.1, lowH_trans h.2.2 k.2.2⟩
theorem within_refl (a : List Part) : Within a a := ⟨rfl, by split <;> exact core_refl a⟩
theorem within_trans {a b c : List Part} (h : Within a b) (k : Within b c) : Within a c := by
  obtain ⟨h1, h2⟩ := h
  obtain ⟨k1, k2⟩ := k
  refine ⟨h1.trans k1, ?_⟩
  cases ht : (wks a).t
  · rw [ht] at h1 h2; rw [← h1] at k2
    simp at h2 k2 ⊢
    exact core_trans h2 k2
  · rw [ht] at h1 h2; rw [← h1] at k2
    simp at h2 k2 ⊢
    exact core_trans k2 h2
theorem core_behind {c a b : List Part} (hc : ∀ p ∈ c, 0 ≤ p.num) (h : Core a b) : if (wks c).t then Core (c ++ b) (c ++ a) else Core (c ++ a) (c ++ b) := by
  have ea := cat_all c a
  have eb := cat_all c b
  have en := ends_row hc
  obtain ⟨h1, h2, h3⟩ := h
  cases ht : (wks c).t
  · refine (if_neg (by simp)).mpr ⟨?_, ?_, ?_⟩
    · rw [ea.l0, eb.l0, ht]; simp; omega
    · rw [ea.l1, eb.l1, ht]; simp; omega
    · rw [found_cat, found_cat, ht]; exact lowH_behind en h3
  · refine (if_pos rfl).mpr ⟨?_, ?_, ?_⟩
    · rw [ea.l0, eb.l0, ht]; simp; omega
    · rw [ea.l1, eb.l1, ht]; simp; omega
    · rw [found_cat, found_cat, ht]; exact lowH_behind en (lowH_ngs h3)
theorem within_behind {c a b : List Part} (hc : ∀ p ∈ c, 0 ≤ p.num) (h : Within a b) : Within (c ++ a) (c ++ b) := by
  obtain ⟨h1, h2⟩ := h
  have ea := cat_all c a
  have eb := cat_all c b
  refine ⟨by rw [ea.t, eb.t, h1], ?_⟩
  rw [ea.t]
  cases ht : (wks a).t <;> rw [ht] at h2 <;> simp at h2 <;> have k := core_behind hc h2 <;> cases hu : (wks c).t <;> rw [hu] at k <;> simpa using k
theorem core_ahead {a b c : List Part} (ha : ∀ p ∈ a, 0 ≤ p.num) (hb : ∀ p ∈ b, 0 ≤ p.num) (ht : (wks a).t = (wks b).t) (h : Core a b) : Core (a ++ c) (b ++ c) := by
  have ea := cat_all a c
  have eb := cat_all b c
  obtain ⟨h1, h2, h3⟩ := h
  refine ⟨?_, ?_, ?_⟩
  · rw [ea.l0, eb.l0, ht]; omega
  · rw [ea.l1, eb.l1, ht]; omega
  · rw [found_cat, found_cat, ht]
    refine lowH_ahead (ends_row ha) (ends_row hb) ?_ h3
    rw [at_l, at_l]; omega
theorem within_ahead {a b c : List Part} (ha : ∀ p ∈ a, 0 ≤ p.num) (hb : ∀ p ∈ b, 0 ≤ p.num) (h : Within a b) : if (wks c).t then Within (b ++ c) (a ++ c) else Within (a ++ c) (b ++ c) := by
  obtain ⟨h1, h2⟩ := h
  have ea := cat_all a c
  have eb := cat_all b c
  cases hc : (wks c).t
  · refine (if_neg (by simp)).mpr ⟨by rw [ea.t, eb.t, h1], ?_⟩
    rw [ea.t, hc]
    cases ht : (wks a).t <;> rw [ht] at h2 <;> simp at h2
    · simpa using core_ahead ha hb h1 h2
    · simpa using core_ahead hb ha h1.symm h2
  · refine (if_pos rfl).mpr ⟨by rw [ea.t, eb.t, h1], ?_⟩
    rw [eb.t, hc, ← h1]
    cases ht : (wks a).t <;> rw [ht] at h2 <;> simp at h2
    · simpa using core_ahead ha hb h1 h2
    · simpa using core_ahead hb ha h1.symm h2
/-- what the program finds is the order -/
theorem nn_row {row : List Part} (h : ∀ p ∈ row, 0 ≤ p.num) : ∀ s ∈ (wks row).st, 0 ≤ s.2 := by
  have L := lad_row h
  have hi0 : 0 ≤ (wks row).hi := by have := L.hi; simp only at this; rw [this]; exact topH_nn _
  intro s hs
  have h1 : ∀ hs : List Int, ∀ s ∈ (hs.foldl stg ⟨0, 0, []⟩).st, 0 ≤ s.2 := by
    intro hs
    refine rev_ind (P := fun hs => ∀ s ∈ (hs.foldl stg ⟨0, 0, []⟩).st, 0 ≤ s.2) (fun s hs => (nomatch hs)) ?_ hs
    intro l x ih s hs
    rw [List.foldl_append] at hs
    have L := lad_all l
    have a := topH_nn l
    have b := depH_nn l
    rw [← L.hi] at a
    rw [← L.de] at b
    generalize l.foldl stg ⟨0, 0, []⟩ = z at *
    simp only [List.foldl_cons, List.foldl_nil] at hs
    unfold stg at hs
    split at hs
    · rcases ws_mem hs with hs | rfl
      · exact ih s hs
      · show 0 ≤ x; omega
    · split at hs
      · rcases ws_mem hs with hs | rfl
        · exact ih s hs
        · show 0 ≤ -x; omega
      · exact ih s hs
  have e := (same_all row h).st
  refine h1 (hts (mvs row).1) s ?_
  rw [e]; exact hs
theorem low_rows {a b : List Part} (ha : ∀ p ∈ a, 0 ≤ p.num) (hb : ∀ p ∈ b, 0 ≤ p.num) : Low (wks a).st (wks b).st ↔ LowH (foundL a) (foundL b) := lowH_iff (lad_row ha) (lad_row hb)
end Law
end
section
set_option autoImplicit false
/-! Rows by length and sum of ticks. Plain. -/
namespace Law
open PySem PL
def sumN (row : List Part) : Int := (row.map Part.num).sum
structure RB (n : Nat) (T : Int) (row : List Part) : Prop where
  len : row.length ≤ n
  pos : ∀ p ∈ row, 0 ≤ p.num
  sum : sumN row ≤ T
theorem RB.mono {n m : Nat} {T U : Int} {row : List Part} (h : RB n T row) (a : n ≤ m) (b : T ≤ U) : RB m U row := ⟨Nat.le_trans h.len a, h.pos, Int.le_trans h.sum b⟩
theorem sumN_nn : ∀ {row : List Part}, (∀ p ∈ row, 0 ≤ p.num) → 0 ≤ sumN row
  | [], _ => Int.le_refl _
  | p :: row, h => by
    have := sumN_nn (row := row) fun q hq => h q (by simp [hq])
    have := h p (by simp)
    simp only [sumN, List.map_cons, List.sum_cons] at *; omega
theorem sumN_app (a b : List Part) : sumN (a ++ b) = sumN a + sumN b := by simp [sumN]
theorem sumN_one (p : Part) : sumN [p] = p.num := by simp [sumN]
theorem num_le : ∀ {row : List Part}, (∀ p ∈ row, 0 ≤ p.num) → ∀ p ∈ row, p.num ≤ sumN row
  | [], _ => fun p hp => (nomatch hp)
  | q :: row, h => fun p hp => by
    have h1 := sumN_nn (row := row) fun q hq => h q (by simp [hq])
    have h2 := h q (by simp)
    have e : sumN (q :: row) = q.num + sumN row := by simp [sumN]
    rcases List.mem_cons.mp hp with rfl | hp
    · omega
    · have := num_le (row := row) (fun q hq => h q (by simp [hq])) p hp
      omega
theorem RB.nn {n : Nat} {T : Int} {row : List Part} (h : RB n T row) : 0 ≤ T := Int.le_trans (sumN_nn h.pos) h.sum
theorem RB.ok {n : Nat} {T : Int} {row : List Part} (h : RB n T row) : ∀ p ∈ row, p.ok T := fun p hp => ⟨h.pos p hp, Int.le_trans (num_le h.pos p hp) h.sum⟩
theorem RB.fit {n : Nat} {T : Int} {row : List Part} (h : RB n T row) (hn : n ≤ 100) (hT : T ≤ 10 ^ 100) : Fit row := by
  have h0 := h.nn
  refine ⟨h.pos, ⟨T.toNat, ?_, fun p hp => ?_⟩, Nat.le_trans h.len hn⟩
  · have e : ((T.toNat : Nat) : Int) = T := by omega
    have : ((T.toNat : Nat) : Int) ≤ ((10 ^ 100 : Nat) : Int) := by rw [e]; exact hT
    exact Int.ofNat_le.mp this
  · have := h.ok p hp
    have e : ((T.toNat : Nat) : Int) = T := by omega
    rw [e]; exact this
theorem RB.app {n m : Nat} {T U : Int} {a b : List Part} (h : RB n T a) (k : RB m U b) : RB (n + m) (T + U) (a ++ b) := ⟨by have := h.len; have := k.len; simp; omega, fun p hp => (List.mem_append.mp hp).elim (h.pos p) (k.pos p), by rw [sumN_app]; have := h.sum; have := k.sum; omega⟩
theorem RB.one {T : Int} {p : Part} (h : p.ok T) : RB 1 T [p] := ⟨by simp, fun q hq => by simp at hq; subst hq; exact h.1, by rw [sumN_one]; exact h.2⟩
theorem sum_mul {B : Int} : ∀ {row : List Part}, (∀ p ∈ row, p.ok B) → sumN row ≤ B * row.length
  | [], _ => by simp [sumN]
  | p :: row, h => by
    have h1 := sum_mul (row := row) fun q hq => h q (by simp [hq])
    have h2 := (h p (by simp)).2
    have e : sumN (p :: row) = p.num + sumN row := by simp [sumN]
    rw [e, List.length_cons]
    have : B * ((row.length + 1 : Nat) : Int) = B * row.length + B := by rw [Int.natCast_add, Int.mul_add]; simp
    omega
theorem RB.of {n : Nat} {B : Int} {row : List Part} (hB : 0 ≤ B) (h : ∀ p ∈ row, p.ok B) (hl : row.length ≤ n) : RB n (B * n) row := ⟨hl, fun p hp => (h p hp).1, Int.le_trans (sum_mul h) (Int.mul_le_mul_of_nonneg_left (by omega) hB)⟩
theorem late_row {row : List Part} (h : ∀ p ∈ row, 0 ≤ p.num) : 0 ≤ (wks row).l0 ∧ (wks row).l0 ≤ sumN row ∧ 0 ≤ (wks row).l1 ∧ (wks row).l1 ≤ sumN row := by
  revert h
  refine rev_ind (P := fun row => (∀ p ∈ row, 0 ≤ p.num) → 0 ≤ (wks row).l0 ∧ (wks row).l0 ≤ sumN row ∧ 0 ≤ (wks row).l1 ∧ (wks row).l1 ≤ sumN row) (fun _ => by simp [W0, sumN]) ?_ row
  intro l p ih h
  have i := ih fun q hq => h q (List.mem_append_left _ hq)
  have f := wk_f (wks l) p
  have hp := h p (by simp)
  rw [wks_snoc, f.2.2.1, f.2.2.2, sumN_app, sumN_one]
  cases p <;> cases (wks l).t <;> simp [d0, d1, Part.num] at hp ⊢ <;> omega
end Law
end
section
set_option autoImplicit false
/-! Rows: cut and put, run. -/
namespace Law
open PySem PL
theorem add_rows (a b : List Part) (ha : a.length ≤ 1000) (hb : b.length ≤ 1000) (μ : Mem) : fAdd [pvs a, pvs b] μ = .ok (pvs (a ++ b)) μ := by
  have e : pvs (a ++ b) = .tup (a.map Part.pv ++ b.map Part.pv) := by simp
  rw [e]
  apply fAdd_tup
  have : SL = 16777216 := rfl
  rw [this]; simp; omega
theorem row_nil_ev {row : List Part} (h : Fit row) (μ : Mem) : fEq [pvs row, .tup []] μ = .ok (.bl row.isEmpty) μ := by
  obtain ⟨B, hB, hok⟩ := h.ex
  have g1 := pvs_good hB hok
  have g2 : Good 1 (.tup []) := Good.tup Goods.nil (by simp)
  have hs : scalP (pvs row) (.tup []) = none := rfl
  simp only [fEq, eqR, hs]
  rw [toD_data g1.data, toD_data g2.data]
  simp only
  rw [if_pos ⟨shaped_sm g1.sm (by have := g1.dp; omega), shaped_sm g2.sm (by have := g2.dp; omega)⟩]
  simp only
  congr 2
  cases row <;> simp [PyData.eqv, PyData.eqvAll]
theorem add_part (a b : List Part) (x : Part) (h : a.length ≤ 900) (hb : b.length ≤ 900) (μ : Mem) : fAdd [pvs a, .tup [x.pv]] μ = .ok (pvs (a ++ [x])) μ ∧ fAdd [pvs (a ++ [x]), pvs b] μ = .ok (pvs (a ++ x :: b)) μ := by
  constructor
  · exact add_rows a [x] (by omega) (by simp) μ
  · have := add_rows (a ++ [x]) b (by simp; omega) (by omega) μ
    rw [List.append_assoc] at this
    exact this
theorem cut_t (row : List Part) {z : Int} (h : 0 ≤ z) : PL.cut (row.map Part.pv) none (some z) = (row.take z.toNat).map Part.pv := by rw [cut_toI _ h, List.map_take]
theorem cut_f (row : List Part) {z : Int} (h : 0 ≤ z) : PL.cut (row.map Part.pv) (some z) none = (row.drop z.toNat).map Part.pv := by rw [cut_fromI _ h, List.map_drop]
theorem sl_t (row : List Part) {z : Int} (h : 0 ≤ z) (μ : Mem) : fSl [pvs row, .non, .int z] μ = .ok (pvs (row.take z.toNat)) μ := by rw [fSl_tup01, cut_t row h]
theorem sl_f (row : List Part) {z : Int} (h : 0 ≤ z) (μ : Mem) : fSl [pvs row, .int z, .non] μ = .ok (pvs (row.drop z.toNat)) μ := by rw [fSl_tup10, cut_f row h]
theorem len_row (row : List Part) (h : row.length ≤ 1000) (μ : Mem) : fLen [pvs row] μ = .ok (.int row.length) μ := by simp
end Law
end
section
set_option autoImplicit false
/-! A row near another one (k33, k34): run. -/
namespace Law
open PySem PL
theorem IsRow.of {n : Nat} {B : Int} {row : List Part} (h1 : row.length ≤ n) (h2 : ∀ x ∈ row, x.ok B) : IsRow n B (pvs row) := ⟨row, rfl, h1, h2⟩
theorem ok_mono {B C : Int} {x : Part} (h : x.ok B) (hc : B ≤ C) : x.ok C := ⟨h.1, Int.le_trans h.2 hc⟩
theorem sl_m (row : List Part) {z w : Int} (h : 0 ≤ z) (hw : z ≤ w) (hl : row.length ≤ 1000) (μ : Mem) : fSl [pvs row, .int z, .int w] μ = .ok (pvs ((row.drop z.toNat).take (w - z).toNat)) μ := by
  have e : PL.cut (row.map Part.pv) (some z) (some w) = ((row.drop z.toNat).take (w - z).toNat).map Part.pv := by
    have f : ∀ (n d : Nat) (v : Int), 0 ≤ v → sIx n d (some v) = min v.toNat n := fun n d v hv => by unfold sIx; simp only; rw [if_neg (by omega)]
    unfold PL.cut
    rw [f _ _ _ h, f _ _ _ (by omega), List.map_take, List.map_drop]
    by_cases c : z.toNat ≤ (row.map Part.pv).length
    · rw [Nat.min_eq_left c]
      by_cases d : w.toNat ≤ (row.map Part.pv).length
      · rw [Nat.min_eq_left d]; congr 1; omega
      · rw [Nat.min_eq_right (by omega)]
        rw [List.take_of_length_le (by rw [List.length_drop]; omega), List.take_of_length_le (by rw [List.length_drop]; omega)]
    · have c1 : min z.toNat (row.map Part.pv).length = (row.map Part.pv).length := by omega
      rw [c1, List.drop_of_length_le (Nat.le_refl _), List.drop_of_length_le (by omega)]
      simp
  show Res.ok (PV.tup (PL.cut (row.map Part.pv) (some z) (some w))) μ = _
  rw [e]
theorem near_ev {j : Nat} (m : Mem) (hp : (jarF j).inv m) {B most : Int} (hB : 3 ≤ B) (hB2 : B ≤ 10 ^ 50) (hm0 : 0 ≤ most) (hm : most ≤ B) (row : List Part) (hlen : row.length ≤ 4) (hok : ∀ x ∈ row, x.ok B) : (m__law_near [.ref j, pvs row, .int most] m).sat fun p m' => IsRow 6 (B + 1) p ∧ (jarF j).Go m m' := by
  have hfit : Fit row := ⟨fun p hp => (hok p hp).1, ⟨B.toNat, by omega, fun p hp => ⟨(hok p hp).1, by have := (hok p hp).2; omega⟩⟩, by omega⟩
  have mono : ∀ {l : List Part}, (∀ x ∈ l, x ∈ row) → ∀ x ∈ l, x.ok (B + 1) := fun h x hx => ok_mono (hok x (h x hx)) (by omega)
  refine Fam.fn_go (P := IsRow 6 (B + 1)) hp ?_
  apply run_sat
  unfold b__law_near
  simp only [List.map_cons, List.map_nil, List.length_cons, List.length_nil, List.replicate, List.cons_append, List.nil_append, Nat.reduceAdd, Nat.reduceSub]
  obtain ⟨p, m1, e1, ⟨at', rfl, a0, a1⟩, g1⟩ := rsat_ex (draw_ev m hp (row.length + 1) (by omega))
  obtain ⟨p, m2, e2, ⟨way, rfl, w0, w1⟩, g2⟩ := rsat_ex (draw_ev m1 g1.i 7 (by omega))
  have g12 := g1.trans g2
  have hnil := row_nil_ev hfit
  have hlr := len_row row (by omega)
  obtain ⟨p3, m3, e3, hq3, g3⟩ := rsat_ex (row_ev m2 g12.i 4 (by omega) most 6 B hm0 (by omega) ⟨hB, hm⟩ (by omega))
  replace e3 : m__law_row [.ref j, .int 4, .int most, .int 6] m2 = .ok p3 m3 := e3
  generalize hpr : pvs row = pr at *
  refine seq_sat (fun e m' => m' = m2 ∧ e = [some (.ref j), some pr, some (.int most), some (.int at'), some (.int way)]) (by simp [e1, hlr, e2]) ?_
  rintro e m' ⟨rfl, rfl⟩
  have hq4 : IsRow 6 (B + 1) p3 := by
    obtain ⟨r, er, r1, r2⟩ := hq3
    rw [er]
    exact IsRow.of (by omega) fun x hx => ok_mono (r2 x hx) (by omega)
  by_cases c1 : way = 0
  · subst c1
    simp [e3]
    exact ⟨hq4, g12.trans g3⟩
  by_cases c2 : row = []
  · have hn0 : row.isEmpty = true := by rw [c2]; rfl
    rw [hn0] at hnil
    simp [c1, hnil, e3]
    exact ⟨hq4, g12.trans g3⟩
  clear e3 hq3 g3 hq4
  have c2' : row.isEmpty = false := by cases row <;> simp_all
  have hpos : 0 < row.length := List.length_pos_iff.mpr c2
  refine seq_sat (fun e m3 => m3 = m' ∧ e = [some (.ref j), some pr, some (.int most), some (.int at'), some (.int way)]) (by simp [c1, hnil, c2']) ?_
  rintro e m3 ⟨rfl, rfl⟩
  have q1 := fun μ => sl_t row a0 μ
  have q2 := fun μ => sl_f row a0 μ
  have q3 := fun μ => sl_f row (z := at' + 1) (by omega) μ
  have q4 := fun μ => sl_f row (z := at' + 2) (by omega) μ
  have q5 := fun μ => sl_m row (z := at') (w := at' + 2) a0 (by omega) (by omega) μ
  rw [hpr] at q1 q2 q3 q4 q5
  have t1 : ∀ x ∈ row.take at'.toNat, x ∈ row := fun x hx => List.mem_of_mem_take hx
  have t2 : ∀ (k : Nat) x, x ∈ row.drop k → x ∈ row := fun k x hx => List.mem_of_mem_drop hx
  by_cases cw1 : way = 1
  · subst cw1
    have l1 : (row.take at'.toNat).length ≤ 4 := by rw [List.length_take]; omega
    have l2 : (row.drop (at' + 1).toNat).length ≤ 4 := by rw [List.length_drop]; omega
    have l3 : (row.take at'.toNat ++ row.drop (at' + 1).toNat).length ≤ 6 := by rw [List.length_append, List.length_take, List.length_drop]; omega
    have ad := add_rows (row.take at'.toNat) (row.drop (at' + 1).toNat) (by omega) (by omega)
    have hq : IsRow 6 (B + 1) (pvs (row.take at'.toNat ++ row.drop (at' + 1).toNat)) := IsRow.of l3 (mono fun x hx => (List.mem_append.mp hx).elim (t1 x) (t2 _ x))
    generalize pvs (row.take at'.toNat ++ row.drop (at' + 1).toNat) = p1 at *
    generalize pvs (row.take at'.toNat) = p2 at *
    generalize pvs (row.drop (at' + 1).toNat) = p3 at *
    simp [q1, q3, ad]
    exact ⟨hq, g12⟩
  refine seq_sat (fun e m4 => m4 = m3 ∧ e = [some (.ref j), some pr, some (.int most), some (.int at'), some (.int way)]) (by simp [cw1]) ?_
  rintro e m4 ⟨rfl, rfl⟩
  by_cases cw2 : way = 2
  · subst cw2
    obtain ⟨p, m5, e5, hq, g5⟩ := rsat_ex (pick_lit m4 g12.i [.str ("on" : Str), .str ("off" : Str), .str ("delay" : Str)] (by simp) (by simp))
    have g6 := g12.trans g5
    obtain ⟨p', m6, e6, ⟨z, rfl, z0, z1⟩, g7⟩ := rsat_ex (draw_ev m5 g6.i 3 (by omega))
    have g8 := g6.trans g7
    obtain ⟨y, hy, hyok⟩ : ∃ y : Part, PV.tup [p, .int z] = y.pv ∧ y.ok (B + 1) := by
      simp at hq
      rcases hq with rfl | rfl | rfl
      · exact ⟨.on z, rfl, z0, by show z ≤ B + 1; omega⟩
      · exact ⟨.off z, rfl, z0, by show z ≤ B + 1; omega⟩
      · exact ⟨.delay z, rfl, z0, by show z ≤ B + 1; omega⟩
    have l1 : (row.take at'.toNat).length ≤ 4 := by rw [List.length_take]; omega
    have l2 : (row.drop at'.toNat).length ≤ 4 := by rw [List.length_drop]; omega
    have l3 : (row.take at'.toNat ++ y :: row.drop at'.toNat).length ≤ 6 := by rw [List.length_append, List.length_cons, List.length_take, List.length_drop]; omega
    have u1 := fun μ => (add_part (row.take at'.toNat) (row.drop at'.toNat) y (by omega) (by omega) μ).1
    have u2 := fun μ => (add_part (row.take at'.toNat) (row.drop at'.toNat) y (by omega) (by omega) μ).2
    have hq : IsRow 6 (B + 1) (pvs (row.take at'.toNat ++ y :: row.drop at'.toNat)) := IsRow.of l3 fun x hx => by
      rcases List.mem_append.mp hx with hx | hx
      · exact mono t1 x hx
      rcases List.mem_cons.mp hx with rfl | hx
      · exact hyok
      · exact mono (t2 _) x hx
    rw [← hy] at u1
    generalize pvs (row.take at'.toNat ++ y :: row.drop at'.toNat) = p1 at *
    generalize pvs (row.take at'.toNat ++ [y]) = p1' at *
    generalize pvs (row.take at'.toNat) = p2 at *
    generalize pvs (row.drop at'.toNat) = p3 at *
    simp [q1, q2, e5, e6, u1, u2]
    exact ⟨hq, g8⟩
  refine seq_sat (fun e m4' => m4' = m4 ∧ e = [some (.ref j), some pr, some (.int most), some (.int at'), some (.int way)]) (by simp [cw2]) ?_
  rintro e m4' ⟨rfl, rfl⟩
  by_cases cw3 : way = 3
  · subst cw3
    have e2' : (at' + 2 - at').toNat = 2 := by omega
    rw [e2'] at q5
    have l1 : (row.take at'.toNat).length ≤ 4 := by rw [List.length_take]; omega
    have l2 : (row.drop (at' + 2).toNat).length ≤ 4 := by rw [List.length_drop]; omega
    have l3 : ((row.drop at'.toNat).take 2).reverse.length ≤ 4 := by rw [List.length_reverse, List.length_take, List.length_drop]; omega
    have l4 : (row.take at'.toNat ++ ((row.drop at'.toNat).take 2).reverse ++ row.drop (at' + 2).toNat).length ≤ 6 := by rw [List.length_append, List.length_append, List.length_reverse, List.length_take, List.length_take, List.length_drop, List.length_drop]; omega
    have rv : ∀ μ, fRevL [pvs ((row.drop at'.toNat).take 2)] μ = .ok (pvs ((row.drop at'.toNat).take 2).reverse) μ := fun μ => by
      show Res.ok (PV.tup (((row.drop at'.toNat).take 2).map Part.pv).reverse) μ = _
      rw [← List.map_reverse]
    have ad1 := add_rows (row.take at'.toNat) ((row.drop at'.toNat).take 2).reverse (by omega) (by omega)
    have ad2 := add_rows (row.take at'.toNat ++ ((row.drop at'.toNat).take 2).reverse) (row.drop (at' + 2).toNat) (by rw [List.length_append]; omega) (by omega)
    have hq : IsRow 6 (B + 1) (pvs (row.take at'.toNat ++ ((row.drop at'.toNat).take 2).reverse ++ row.drop (at' + 2).toNat)) := IsRow.of l4 (mono fun x hx => by
      rcases List.mem_append.mp hx with hx | hx
      · rcases List.mem_append.mp hx with hx | hx
        · exact t1 x hx
        · exact t2 _ x (List.mem_of_mem_take (List.mem_reverse.mp hx))
      · exact t2 _ x hx)
    generalize pvs (row.take at'.toNat ++ ((row.drop at'.toNat).take 2).reverse ++ row.drop (at' + 2).toNat) = p1 at *
    generalize pvs (row.take at'.toNat ++ ((row.drop at'.toNat).take 2).reverse) = p1' at *
    generalize pvs ((row.drop at'.toNat).take 2).reverse = p4 at *
    generalize pvs ((row.drop at'.toNat).take 2) = p5 at *
    generalize pvs (row.take at'.toNat) = p2 at *
    generalize pvs (row.drop (at' + 2).toNat) = p3 at *
    simp [q1, q4, q5, rv, ad1, ad2]
    exact ⟨hq, g12⟩
  refine seq_sat (fun e m5 => m5 = m4' ∧ e = [some (.ref j), some pr, some (.int most), some (.int at'), some (.int way)]) (by simp [cw3]) ?_
  rintro e m5 ⟨rfl, rfl⟩
  clear q1 q2 q3 q4 q5 t1 e1 e2
  obtain ⟨z, hz, z0, z1⟩ : ∃ z : Int, z = (if (row.length : Int) - 1 < at' then (row.length : Int) - 1 else at') ∧ 0 ≤ z ∧ z < row.length := ⟨_, rfl, by split <;> omega, by split <;> omega⟩
  have hmin : ∀ μ, fMin [.int at', .int ((row.length : Int) - 1)] μ = .ok (.int z) μ := fun μ => by rw [hz]; rfl
  refine seq_sat (fun e m6 => m6 = m5 ∧ e = [some (.ref j), some pr, some (.int most), some (.int z), some (.int way)]) (by simp [hlr, hmin, -fMin_int]) ?_
  rintro e m6 ⟨rfl, rfl⟩
  have zi : z.toNat < row.length := by omega
  have hsplit : row = row.take z.toNat ++ row[z.toNat] :: row.drop (z.toNat + 1) := by
    have := List.take_append_drop z.toNat row
    rw [List.drop_eq_getElem_cons zi] at this
    exact this.symm
  have hix : ∀ μ, fIx [pr, .int z] μ = .ok row[z.toNat].pv μ := fun μ => by
    rw [← hpr, fIx_tup]
    exact ixOf_int μ z0 (by simp [zi])
  have hs1 : ∀ μ, fSl [pr, .non, .int z] μ = .ok (pvs (row.take z.toNat)) μ := fun μ => by rw [← hpr]; exact sl_t row z0 μ
  have hs2 : ∀ μ, fSl [pr, .int (z + 1), .non] μ = .ok (pvs (row.drop (z.toNat + 1))) μ := fun μ => by
    rw [← hpr, sl_f row (by omega) μ]
    have : (z + 1).toNat = z.toNat + 1 := by omega
    rw [this]
  have l1 : (row.take z.toNat).length ≤ 4 := by rw [List.length_take]; omega
  have l2 : (row.drop (z.toNat + 1)).length ≤ 4 := by rw [List.length_drop]; omega
  generalize row.take z.toNat = A at *
  generalize row.drop (z.toNat + 1) = D at *
  generalize row[z.toNat] = x at *
  subst hsplit
  have hx := hok x (by simp)
  have lAD : A.length + D.length ≤ 3 := by rw [List.length_append, List.length_cons] at hlen; omega
  have okA : ∀ y ∈ A, y.ok (B + 1) := fun y hy => ok_mono (hok y (by simp [hy])) (by omega)
  have okD : ∀ y ∈ D, y.ok (B + 1) := fun y hy => ok_mono (hok y (by simp [hy])) (by omega)
  have mk : ∀ L : List Part, L.length ≤ 2 → (∀ y ∈ L, y.ok (B + 1)) → IsRow 6 (B + 1) (pvs (A ++ L ++ D)) := fun L h1 h2 => IsRow.of (by rw [List.length_append, List.length_append]; omega) fun y hy => by
    rcases List.mem_append.mp hy with hy | hy
    · rcases List.mem_append.mp hy with hy | hy
      · exact okA y hy
      · exact h2 y hy
    · exact okD y hy
  have ad1 := fun (L : List Part) (h : L.length ≤ 2) => add_rows A L (by omega) (by omega)
  have ad2 := fun (L : List Part) (h : L.length ≤ 2) => add_rows (A ++ L) D (by rw [List.length_append]; omega) (by omega)
  have hx0 := hx.1
  have hx9 := hx.2
  by_cases cw4 : way = 4 ∧ x ≠ .turn
  · obtain ⟨rfl, ct⟩ := cw4
    obtain ⟨p, m7, e7, ⟨d, rfl, d0, d1⟩, g7⟩ := rsat_ex (draw_ev m6 g12.i 3 (by omega))
    have fin : ∀ (y : Part), y.ok (B + 1) → (∀ μ, fAdd [pvs A, .tup [y.pv]] μ = .ok (pvs (A ++ [y])) μ) ∧ (∀ μ, fAdd [pvs (A ++ [y]), pvs D] μ = .ok (pvs (A ++ [y] ++ D)) μ) ∧ IsRow 6 (B + 1) (pvs (A ++ [y] ++ D)) := fun y hy => ⟨ad1 [y] (by simp), ad2 [y] (by simp), mk [y] (by simp) (by simpa using hy)⟩
    have g8 := g12.trans g7
    cases x with
    | turn => exact absurd rfl ct
    | on k =>
      simp only [num_on] at hx0 hx9
      obtain ⟨f1, f2, f3⟩ := fin (.on (if 1 < k + d then k + d - 1 else 0)) ⟨by simp only [num_on]; split <;> omega, by simp only [num_on]; split <;> omega⟩
      rw [pv_on] at f1
      generalize pvs (A ++ [Part.on (if 1 < k + d then k + d - 1 else 0)] ++ D) = r1 at *
      generalize pvs (A ++ [Part.on (if 1 < k + d then k + d - 1 else 0)]) = r2 at *
      generalize pvs A = pA at *
      generalize pvs D = pD at *
      simp [hix, pv_on, hs1, hs2, e7, f1, f2]
      exact ⟨f3, g8⟩
    | off k =>
      simp only [num_off] at hx0 hx9
      obtain ⟨f1, f2, f3⟩ := fin (.off (if 1 < k + d then k + d - 1 else 0)) ⟨by simp only [num_off]; split <;> omega, by simp only [num_off]; split <;> omega⟩
      rw [pv_off] at f1
      generalize pvs (A ++ [Part.off (if 1 < k + d then k + d - 1 else 0)] ++ D) = r1 at *
      generalize pvs (A ++ [Part.off (if 1 < k + d then k + d - 1 else 0)]) = r2 at *
      generalize pvs A = pA at *
      generalize pvs D = pD at *
      simp [hix, pv_off, hs1, hs2, e7, f1, f2]
      exact ⟨f3, g8⟩
    | delay k =>
      simp only [num_delay] at hx0 hx9
      obtain ⟨f1, f2, f3⟩ := fin (.delay (if 1 < k + d then k + d - 1 else 0)) ⟨by simp only [num_delay]; split <;> omega, by simp only [num_delay]; split <;> omega⟩
      rw [pv_delay] at f1
      generalize pvs (A ++ [Part.delay (if 1 < k + d then k + d - 1 else 0)] ++ D) = r1 at *
      generalize pvs (A ++ [Part.delay (if 1 < k + d then k + d - 1 else 0)]) = r2 at *
      generalize pvs A = pA at *
      generalize pvs D = pD at *
      simp [hix, pv_delay, hs1, hs2, e7, f1, f2]
      exact ⟨f3, g8⟩
  refine seq_sat (fun e m7 => m7 = m6 ∧ e = [some (.ref j), some pr, some (.int most), some (.int z), some (.int way)]) ?_ ?_
  · by_cases c4 : way = 4
    · have : x = .turn := Classical.byContradiction fun h => cw4 ⟨c4, h⟩
      subst this
      simp [c4, hix, pv_turn]
    · simp [c4]
  rintro e m7 ⟨rfl, rfl⟩
  by_cases cw5 : way = 5 ∧ x ≠ .turn
  · obtain ⟨rfl, ct⟩ := cw5
    have dv : divOk 2 := by decide
    have fin : ∀ (y w : Part), y.ok (B + 1) → w.ok (B + 1) → (∀ μ, fAdd [pvs A, .tup [y.pv, w.pv]] μ = .ok (pvs (A ++ [y, w])) μ) ∧ (∀ μ, fAdd [pvs (A ++ [y, w]), pvs D] μ = .ok (pvs (A ++ [y, w] ++ D)) μ) ∧ IsRow 6 (B + 1) (pvs (A ++ [y, w] ++ D)) := fun y w hy hw => ⟨ad1 [y, w] (by simp), ad2 [y, w] (by simp), mk [y, w] (by simp) (by simp [hy, hw])⟩
    cases x with
    | turn => exact absurd rfl ct
    | on k =>
      simp only [num_on] at hx0 hx9
      obtain ⟨f1, f2, f3⟩ := fin (.on (k / 2)) (.on (k - k / 2)) ⟨by simp only [num_on]; omega, by simp only [num_on]; omega⟩ ⟨by simp only [num_on]; omega, by simp only [num_on]; omega⟩
      rw [pv_on, pv_on] at f1
      generalize pvs (A ++ [Part.on (k / 2), Part.on (k - k / 2)] ++ D) = r1 at *
      generalize pvs (A ++ [Part.on (k / 2), Part.on (k - k / 2)]) = r2 at *
      generalize pvs A = pA at *
      generalize pvs D = pD at *
      simp [hix, pv_on, hs1, hs2, dv, f1, f2]
      exact ⟨f3, g12⟩
    | off k =>
      simp only [num_off] at hx0 hx9
      obtain ⟨f1, f2, f3⟩ := fin (.off (k / 2)) (.off (k - k / 2)) ⟨by simp only [num_off]; omega, by simp only [num_off]; omega⟩ ⟨by simp only [num_off]; omega, by simp only [num_off]; omega⟩
      rw [pv_off, pv_off] at f1
      generalize pvs (A ++ [Part.off (k / 2), Part.off (k - k / 2)] ++ D) = r1 at *
      generalize pvs (A ++ [Part.off (k / 2), Part.off (k - k / 2)]) = r2 at *
      generalize pvs A = pA at *
      generalize pvs D = pD at *
      simp [hix, pv_off, hs1, hs2, dv, f1, f2]
      exact ⟨f3, g12⟩
    | delay k =>
      simp only [num_delay] at hx0 hx9
      obtain ⟨f1, f2, f3⟩ := fin (.delay (k / 2)) (.delay (k - k / 2)) ⟨by simp only [num_delay]; omega, by simp only [num_delay]; omega⟩ ⟨by simp only [num_delay]; omega, by simp only [num_delay]; omega⟩
      rw [pv_delay, pv_delay] at f1
      generalize pvs (A ++ [Part.delay (k / 2), Part.delay (k - k / 2)] ++ D) = r1 at *
      generalize pvs (A ++ [Part.delay (k / 2), Part.delay (k - k / 2)]) = r2 at *
      generalize pvs A = pA at *
      generalize pvs D = pD at *
      simp [hix, pv_delay, hs1, hs2, dv, f1, f2]
      exact ⟨f3, g12⟩
  refine seq_sat (fun e m8 => m8 = m7 ∧ e = [some (.ref j), some pr, some (.int most), some (.int z), some (.int way)]) ?_ ?_
  · by_cases c4 : way = 5
    · have : x = .turn := Classical.byContradiction fun h => cw5 ⟨c4, h⟩
      subst this
      simp [c4, hix, pv_turn]
    · simp [c4]
  rintro e m8 ⟨rfl, rfl⟩
  obtain ⟨p, m9, e9, ⟨d, rfl, d0, d1⟩, g9⟩ := rsat_ex (draw_ev m8 g12.i 3 (by omega))
  have hs3 : ∀ μ, fSl [.tup [.tup [.str ("on" : Str), .int 1], .tup [.str ("off" : Str), .int 1]], .non, .int d] μ = .ok (pvs ([Part.on 1, .off 1].take d.toNat)) μ := fun μ => sl_t [Part.on 1, .off 1] d0 μ
  have lt : ([Part.on 1, .off 1].take d.toNat).length ≤ 2 := by rw [List.length_take]; simp; omega
  have ad3 := add_rows (A ++ x :: D) ([Part.on 1, .off 1].take d.toNat) (by omega) (by omega)
  rw [hpr] at ad3
  have hq : IsRow 6 (B + 1) (pvs (A ++ x :: D ++ [Part.on 1, .off 1].take d.toNat)) := IsRow.of (by rw [List.length_append]; omega) fun y hy => by
    rcases List.mem_append.mp hy with hy | hy
    · exact ok_mono (hok y hy) (by omega)
    · have := List.mem_of_mem_take hy
      simp at this
      rcases this with rfl | rfl
      · exact ⟨by simp [Part.num], by simp only [num_on]; omega⟩
      · exact ⟨by simp [Part.num], by simp only [num_off]; omega⟩
  generalize pvs (A ++ x :: D ++ [Part.on 1, .off 1].take d.toNat) = r1 at *
  generalize pvs ([Part.on 1, .off 1].take d.toNat) = r2 at *
  simp [e9, hs3, ad3]
  exact ⟨hq, g12.trans g9⟩
end Law
end
section
set_option autoImplicit false
/-! What the laws' ends have in common. -/
namespace Law
open PySem PL
theorem seq_sat2 {a b : Sm} {env : PL.Env} {μ : Mem} {W : Wp} (P : PL.Env → Mem → Prop) (hA : (a env μ).sat { nx := P, rt := W.rt, bk := W.bk, ct := W.ct }) (hb : ∀ e m, P e m → (b e m).sat W) : (seq a b env μ).sat W := by
  rw [seq_ev]
  refine then_sat (sat_imp hA (fun e m h => hb e m h) (fun _ _ h => h) (fun _ _ h => h) (fun _ _ h => h))
theorem nx_only {o : Out} {P : PL.Env → Mem → Prop} {W : Wp} (h : o.sat { nx := P }) (i : ∀ e m, P e m → W.nx e m) : o.sat W := sat_imp h i (fun _ _ h => h.elim) (fun _ _ h => h.elim) (fun _ _ h => h.elim)
theorem fAdd_refs {μ : Mem} {a b : Nat} {l r : List PV} (ha : μ[a]? = some (.lst l)) (hb : μ[b]? = some (.lst r)) (hz : l.length + r.length ≤ SL) : fAdd [.ref a, .ref b] μ = .ok (.ref μ.length) (μ ++ [.lst (l ++ r)]) := by
  have : l.length + r.length ≤ 16777216 := hz
  simp [fAdd, ha, hb, newL, this]
theorem c28 : (10 : Int) ^ (28 : Nat) = 10000000000000000000000000000 := by decide
theorem c29 : (10 : Int) ^ (29 : Nat) = 100000000000000000000000000000 := by decide
theorem c30 : (10 : Int) ^ (30 : Nat) = 1000000000000000000000000000000 := by decide
theorem c12 : (10 : Int) ^ (12 : Nat) = 1000000000000 := by decide
theorem c20 : (10 : Int) ^ (20 : Nat) = 100000000000000000000 := by decide
theorem c40 : (10 : Int) ^ 40 = 10000000000000000000000000000000000000000 := by decide
theorem n40 : (10 : Nat) ^ 40 = 10000000000000000000000000000000000000000 := by decide
end Law
end
section
set_option autoImplicit false
/-! The first jar, and the late one. -/
namespace Law
open PySem PL
def St0 (ns : List Int) (j : Nat) (m : Mem) : Prop := (jarF j).inv m ∧ m[0]? = some (.ro (ns.map .int)) ∧ 1 ≤ j
theorem St0.go {ns : List Int} {j : Nat} {m m' : Mem} (h : St0 ns j m) (g : (jarF j).Go m m') : St0 ns j m' := ⟨g.i, g.get' h.2.1 (by have := h.2.2; simp [jarF]; omega), h.2.2⟩
theorem pick_ints {j : Nat} (m : Mem) (hp : (jarF j).inv m) (l : List Int) (h0 : 0 < l.length) (h1 : l.length < 1000) : (m__law_pick [.ref j, .ref m.length] (m ++ [.lst (l.map .int)])).sat fun p m' => (∃ z ∈ l, p = .int z) ∧ (jarF j).Go m m' := by
  refine rsat_imp (pick_lit m hp (l.map .int) (by simpa using h0) (by simp; omega)) ?_
  rintro p m' ⟨hq, g⟩
  obtain ⟨z, hz, rfl⟩ := List.mem_map.mp hq
  exact ⟨⟨z, hz, rfl⟩, g⟩
theorem late_jar (ns : List Int) {j : Nat} {m : Mem} (hn : ns.length ≤ 63) (h : St0 ns j m) (K : Int) (env : PL.Env) (h0 : env[0]? = some (some (.ref 0))) :
    ((app m__law_jar (ac (app2 fAdd (app fLst (ac (c (.int K)) an)) (app fList (ac (v 0) an))) an)) env m).sat fun p m' => ∃ j', p = .ref j' ∧ (jarF j').inv m' := by
  have c0 := h.2.1
  have c0' : (m ++ [PO.lst [.int K]])[0]? = some (.ro (ns.map .int)) := get_some c0
  have ad : fAdd [.ref m.length, .ref (m.length + 1)] (m ++ [.lst [.int K], .lst (ns.map .int)]) = .ok (.ref (m.length + 2)) (m ++ [.lst [.int K], .lst (ns.map .int), .lst ((K :: ns).map .int)]) := by
    have := fAdd_refs (μ := m ++ [PO.lst [.int K], .lst (ns.map .int)]) (a := m.length) (b := m.length + 1) (l := [.int K]) (r := ns.map .int) (by simp) (by simp) (by show _ ≤ 16777216; simp; omega)
    simpa using this
  obtain ⟨p, m3, e3, j3, rfl, hj3, hinv3, hx3⟩ := rsat_ex (jar_ev (m ++ [.lst [.int K], .lst (ns.map .int), .lst ((K :: ns).map .int)]) (m.length + 2) (K :: ns) (.inr (get_new _ _ 2)) (by simp; omega))
  have fl : fList [.ref 0] (m ++ [PO.lst [.int K]]) = .ok (.ref (m.length + 1)) (m ++ [.lst [.int K], .lst (ns.map .int)]) := by
    have gl : getL (m ++ [PO.lst [.int K]]) (.ref 0) = some (ns.map .int) := by simp only [getL]; rw [c0']
    simp only [fList, gl, newL]
    simp
  obtain ⟨e0, env', rfl⟩ : ∃ a l, env = a :: l := by
    cases env with
    | nil => simp at h0
    | cons a l => exact ⟨a, l, rfl⟩
  simp at h0
  subst h0
  simp only [List.map_cons] at ad e3
  generalize ns.map PV.int = pns at *
  simp [fl, ad, e3, -fList_ref, -fAdd_ref]
  exact hinv3
end Law
end
section
set_option autoImplicit false
/-! The walk behind a height and a depth: plain. -/
namespace Law
open PySem PL
def Wb (hi de : Int) : W := ⟨0, hi, -de, 0, 0, false, []⟩
abbrev wksB (hi de : Int) (row : List Part) : W := row.foldl wk (Wb hi de)
theorem wksB_snoc (hi de : Int) (l : List Part) (x : Part) : wksB hi de (l ++ [x]) = wk (wksB hi de l) x := by unfold wksB; rw [List.foldl_append]; rfl
theorem wksB_zero (row : List Part) : wksB 0 0 row = wks row := rfl
theorem Wb_inv {hi de : Int} (h1 : 0 ≤ hi) (h2 : 0 ≤ de) : (Wb hi de).inv := ⟨h1, by show -de ≤ 0; omega⟩
theorem wksB_inv {hi de : Int} (h1 : 0 ≤ hi) (h2 : 0 ≤ de) (row : List Part) : (wksB hi de row).inv := fold_inv _ _ (Wb_inv h1 h2)
theorem wksB_f (hi de : Int) (row : List Part) : (wksB hi de row).t = (wks row).t ∧ (wksB hi de row).at_ = (wks row).at_ ∧ (wksB hi de row).l0 = (wks row).l0 ∧ (wksB hi de row).l1 = (wks row).l1 := by
  induction row using rev_ind with
  | h0 => exact ⟨rfl, rfl, rfl, rfl⟩
  | hs l x ih =>
    obtain ⟨h1, h2, h3, h4⟩ := ih
    rw [wksB_snoc, wks_snoc]
    have a := wk_f (wksB hi de l) x
    have b := wk_f (wks l) x
    rw [a.1, a.2.1, a.2.2.1, a.2.2.2, b.1, b.2.1, b.2.2.1, b.2.2.2, h1, h2, h3, h4]
    exact ⟨rfl, rfl, rfl, rfl⟩
theorem mv_eq (s : W) (p : Part) : s.mv p = { s with at_ := s.at_ + p.up (p.flip s.t), l0 := (s.mv p).l0, l1 := (s.mv p).l1, t := p.flip s.t } := by
  cases p <;> cases h : s.t <;> simp [W.mv, Part.up, Part.flip, h] <;> try omega
theorem stgB {hi de : Int} (h1 : 0 ≤ hi) (h2 : 0 ≤ de) (row : List Part) : (∀ p ∈ row, 0 ≤ p.num) → stgs row hi de = ⟨(wksB hi de row).hi, -(wksB hi de row).lo, (wksB hi de row).st⟩ := by
  induction row using rev_ind with
  | h0 => intro _; show (⟨hi, de, []⟩ : SS) = ⟨hi, - -de, []⟩; rw [Int.neg_neg]
  | hs l x ih =>
    intro h
    have hp : ∀ p ∈ l, 0 ≤ p.num := fun p hp => h p (List.mem_append_left _ hp)
    have ih := ih hp
    have s := same_all l hp
    have f := wksB_f hi de l
    unfold stgs at ih ⊢
    rw [mvs_snoc]
    simp only
    rw [hts_snoc, List.foldl_append, ih, s.a, s.t, ← f.1, ← f.2.1]
    have g := stg_eq (wksB_inv h1 h2 l) (x.up (x.flip (wksB hi de l).t)) ((wksB hi de l).mv x).l0 ((wksB hi de l).mv x).l1 (x.flip (wksB hi de l).t)
    rw [← mv_eq] at g
    rw [wksB_snoc]
    exact g
theorem formB {hi de : Int} (h1 : 0 ≤ hi) (h2 : 0 ≤ de) {row : List Part} (h : ∀ p ∈ row, 0 ≤ p.num) : formP row hi de = shapeP (wksB hi de row) := by
  have s := same_all row h
  have f := wksB_f hi de row
  unfold formP shapeP
  rw [s.t, s.on, s.off, stgB h1 h2 row h, f.1, f.2.2.1, f.2.2.2]
theorem wksB_sml {row : List Part} (h : Fit row) (hi de : Int) (i : Nat) : (∀ x ∈ (wksB hi de (row.take i)).st, sml x.2) ∧ (wksB hi de (row.take i)).st.length ≤ 200 := by
  obtain ⟨B, hB, hok⟩ := h.ex
  have o := wks_ok (row.take i) (fun p hp => hok p (List.mem_of_mem_take hp)) (Wb hi de) 0 0 ⟨by simp [Wb], by simp [Wb], by simp [Wb]⟩
  have hl : (row.take i).length ≤ 100 := by have := h.len; simp; omega
  have hb : 0 + B * (row.take i).length < 10 ^ 200 := by
    have h2 := Nat.mul_le_mul hB hl
    have h3 : (10 ^ 100 * 100 : Nat) < 10 ^ 200 := by decide +kernel
    omega
  exact ⟨fun x hx => Nat.lt_of_le_of_lt (o.st x hx) hb, by have := o.len; change _ ≤ 0 + 2 * _ at this; exact Nat.le_trans this (by omega)⟩
theorem wksB_take {hi de : Int} {row : List Part} {i : Nat} {p : Part} (hx : row[i]? = some p) : wksB hi de (row.take (i + 1)) = wk (wksB hi de (row.take i)) p := by rw [take_succ' hx, wksB_snoc]
/-- numbers of stages are above what was come to -/
theorem wksB_above {hi de : Int} (h1 : 0 ≤ hi) (h2 : 0 ≤ de) (row : List Part) : (hi ≤ (wksB hi de row).hi ∧ (wksB hi de row).lo ≤ -de) ∧ ∀ s ∈ (wksB hi de row).st, if s.1 then hi < s.2 else de < s.2 := by
  induction row using rev_ind with
  | h0 => exact ⟨⟨Int.le_refl _, Int.le_refl _⟩, by simp [Wb]⟩
  | hs l x ih =>
    obtain ⟨⟨a, b⟩, ih⟩ := ih
    rw [wksB_snoc]
    generalize wksB hi de l = s at *
    have e : ∀ z : W, hi ≤ z.hi → z.lo ≤ -de → (∀ s ∈ z.st, if s.1 then hi < s.2 else de < s.2) → (hi ≤ z.upH.upL.hi ∧ z.upH.upL.lo ≤ -de) ∧ ∀ s ∈ z.upH.upL.st, if s.1 then hi < s.2 else de < s.2 := by
      intro z a b c
      have hH : hi ≤ z.upH.hi ∧ z.upH.lo ≤ -de ∧ ∀ s ∈ z.upH.st, if s.1 then hi < s.2 else de < s.2 := by
        unfold W.upH
        split
        · refine ⟨by simp only; omega, b, fun s hs => ?_⟩
          rcases ws_mem hs with hs | rfl
          · exact c s hs
          · simp only [if_true]; omega
        · exact ⟨a, b, c⟩
      generalize z.upH = y at *
      unfold W.upL
      split
      · refine ⟨⟨hH.1, by simp only; omega⟩, fun s hs => ?_⟩
        rcases ws_mem hs with hs | rfl
        · exact hH.2.2 s hs
        · simp only [Bool.false_eq_true, if_false]; omega
      · exact ⟨⟨hH.1, hH.2.1⟩, hH.2.2⟩
    have m : (s.mv x).hi = s.hi ∧ (s.mv x).lo = s.lo ∧ (s.mv x).st = s.st := by
      cases x with
      | turn => exact ⟨rfl, rfl, rfl⟩
      | delay k => exact ⟨rfl, rfl, rfl⟩
      | on k => unfold W.mv; simp only; split <;> exact ⟨rfl, rfl, rfl⟩
      | off k => unfold W.mv; simp only; split <;> exact ⟨rfl, rfl, rfl⟩
    exact e _ (by rw [m.1]; exact a) (by rw [m.2.1]; exact b) (by rw [m.2.2]; exact ih)
end Law
end
section
set_option autoImplicit false
/-! Numbers of stages; ticks multiplied: plain. -/
namespace Law
open PySem PL
def Part.scale (k : Int) : Part → Part
  | .turn => .turn
  | .on a => .on (a * k)
  | .off a => .off (a * k)
  | .delay a => .delay (a * k)
theorem scale_ok {B : Int} {k : Int} (hk : 0 ≤ k) {p : Part} (h : p.ok B) : (p.scale k).ok (B * k) := by
  have h1 := h.1
  have h2 := h.2
  cases p with
  | turn => exact ⟨Int.le_refl _, Int.mul_nonneg (by simp only [num_turn] at h2; omega) hk⟩
  | on a => exact ⟨Int.mul_nonneg h1 hk, Int.mul_le_mul_of_nonneg_right h2 hk⟩
  | off a => exact ⟨Int.mul_nonneg h1 hk, Int.mul_le_mul_of_nonneg_right h2 hk⟩
  | delay a => exact ⟨Int.mul_nonneg h1 hk, Int.mul_le_mul_of_nonneg_right h2 hk⟩
theorem fit_of {row : List Part} {B : Nat} (hB : B ≤ 10 ^ 100) (h : ∀ p ∈ row, p.ok B) (hl : row.length ≤ 100) : Fit row := ⟨fun p hp => (h p hp).1, ⟨B, hB, h⟩, hl⟩
theorem fit_int {row : List Part} {B : Int} (hB : B ≤ 10 ^ 100) (h : ∀ p ∈ row, p.ok B) (hl : row.length ≤ 100) : Fit row := by
  refine ⟨fun p hp => (h p hp).1, ⟨B.toNat, ?_, fun p hp => ⟨(h p hp).1, ?_⟩⟩, hl⟩
  · have : (10 ^ 100 : Nat) = ((10 : Int) ^ 100).toNat := by decide +kernel
    omega
  · have := (h p hp).1; have := (h p hp).2; omega
/-- numbers of stages with a word -/
def nums (b : Bool) (S : List Sg) : List Int := (S.filter fun s => s.1 == b).map (·.2)
theorem nums_mst (b : Bool) (S : List Sg) : ∀ z ∈ nums b S, z ≤ mst S b := by
  intro z hz
  unfold nums at hz
  obtain ⟨s, hs, rfl⟩ := List.mem_map.mp hz
  rw [List.mem_filter] at hs
  exact ((mst_le (mst_nn b S)).mp (Int.le_refl _)) s hs.1 (by simpa using hs.2)
theorem maxL_ge : ∀ (l : List Int) (m : Int), m ≤ maxL m l ∧ ∀ z ∈ l, z ≤ maxL m l
  | [], m => ⟨Int.le_refl _, by simp⟩
  | x :: xs, m => by
    unfold maxL
    by_cases h : x > m
    · rw [if_pos h]
      have a := maxL_ge xs x
      refine ⟨by omega, fun z hz => ?_⟩
      rcases List.mem_cons.mp hz with rfl | hz
      · exact a.1
      · exact a.2 z hz
    · rw [if_neg h]
      have a := maxL_ge xs m
      refine ⟨a.1, fun z hz => ?_⟩
      rcases List.mem_cons.mp hz with rfl | hz
      · omega
      · exact a.2 z hz
theorem maxL_mem : ∀ (l : List Int) (m : Int), maxL m l = m ∨ maxL m l ∈ l
  | [], m => .inl rfl
  | x :: xs, m => by
    unfold maxL
    by_cases h : x > m
    · rw [if_pos h]
      rcases maxL_mem xs x with e | e
      · rw [e]; exact .inr (List.mem_cons_self ..)
      · exact .inr (List.mem_cons_of_mem _ e)
    · rw [if_neg h]
      rcases maxL_mem xs m with e | e
      · exact .inl e
      · exact .inr (List.mem_cons_of_mem _ e)
theorem mst_in (b : Bool) (S : List Sg) : mst S b = 0 ∨ mst S b ∈ nums b S := by
  induction S using rev_ind with
  | h0 => exact .inl rfl
  | hs l x ih =>
    rw [mst_snoc]
    unfold nums at ih ⊢
    rw [List.filter_append, List.map_append]
    by_cases c : (x.1 == b) = true
    · rw [if_pos c]
      by_cases c2 : mst l b ≤ x.2
      · right
        rw [Int.max_eq_right c2]
        simp at c
        simp [c]
      · rw [Int.max_eq_left (by omega)]
        rcases ih with h | h
        · exact .inl h
        · exact .inr (List.mem_append_left _ h)
    · rw [if_neg c]
      rcases ih with h | h
      · exact .inl h
      · exact .inr (List.mem_append_left _ h)
theorem wk_more (s : W) (p : Part) : s.hi ≤ (wk s p).hi ∧ (wk s p).lo ≤ s.lo := by
  have m : (s.mv p).hi = s.hi ∧ (s.mv p).lo = s.lo := by
    cases p with
    | turn => exact ⟨rfl, rfl⟩
    | delay k => exact ⟨rfl, rfl⟩
    | on k => unfold W.mv; simp only; split <;> exact ⟨rfl, rfl⟩
    | off k => unfold W.mv; simp only; split <;> exact ⟨rfl, rfl⟩
  unfold wk
  generalize s.mv p = z at *
  have a : z.hi ≤ z.upH.hi ∧ z.upH.lo = z.lo := by
    unfold W.upH; split
    · exact ⟨by simp only; omega, rfl⟩
    · exact ⟨Int.le_refl _, rfl⟩
  generalize z.upH = y at *
  have b : y.hi = y.upL.hi ∧ y.upL.lo ≤ y.lo := by
    unfold W.upL; split
    · exact ⟨rfl, by simp only; omega⟩
    · exact ⟨rfl, Int.le_refl _⟩
  omega
theorem hi_mst {row : List Part} (h : ∀ p ∈ row, 0 ≤ p.num) : (wks row).hi = mst (wks row).st true ∧ -(wks row).lo = mst (wks row).st false := ⟨(lad_row h).md.symm, (lad_row h).mf.symm⟩
/-- a timer makes a stage -/
theorem st_ne {row : List Part} (h : ∀ p ∈ row, 0 ≤ p.num) {y : Part} (hy : y ∈ row) (ht : dA false y ≠ 0) : (wks row).st ≠ [] := by
  intro e
  have hm := hi_mst h
  rw [e] at hm
  have h1 : (wks row).hi = 0 := hm.1
  have h2 : (wks row).lo = 0 := by have : -(wks row).lo = 0 := hm.2; omega
  obtain ⟨i, hi, rfl⟩ := List.getElem_of_mem hy
  have hx : row[i]? = some row[i] := List.getElem?_eq_getElem hi
  have mono : ∀ (l : List Part) (s : W), s.hi ≤ (l.foldl wk s).hi ∧ (l.foldl wk s).lo ≤ s.lo := by
    intro l
    induction l with
    | nil => intro s; exact ⟨Int.le_refl _, Int.le_refl _⟩
    | cons p l ih =>
      intro s
      have a := ih (wk s p)
      have b := wk_more s p
      simp only [List.foldl_cons]
      omega
  have flat : ∀ n, (wks (row.take n)).at_ = 0 := by
    intro n
    have e : (row.drop n).foldl wk (wks (row.take n)) = wks row := by unfold wks; rw [← List.foldl_append, List.take_append_drop]
    have a : (wks (row.take n)).hi ≤ (wks row).hi ∧ (wks row).lo ≤ (wks (row.take n)).lo := by rw [← e]; exact mono _ _
    have i1 : (wks (row.take n)).at_ ≤ (wks (row.take n)).hi := (fold_inv (row.take n) _ W0_inv).h
    have i2 : (wks (row.take n)).lo ≤ (wks (row.take n)).at_ := (fold_inv (row.take n) _ W0_inv).l
    omega
  have a := flat i
  have b := flat (i + 1)
  rw [take_succ' hx, wks_snoc, (wk_f _ _).2.1, a] at b
  have c : dA (wks (row.take i)).t row[i] = dA false row[i] ∨ dA (wks (row.take i)).t row[i] = - dA false row[i] := by
    cases (wks (row.take i)).t <;> cases row[i] <;> simp [dA]
  omega
theorem nums_len (b : Bool) (S : List Sg) : (nums b S).length ≤ S.length := by unfold nums; rw [List.length_map]; exact List.length_filter_le _ _
theorem nums_sml {b : Bool} {S : List Sg} (h : ∀ x ∈ S, sml x.2) : ∀ z ∈ nums b S, sml z := by
  intro z hz
  unfold nums at hz
  obtain ⟨s, hs, rfl⟩ := List.mem_map.mp hz
  exact h s (List.mem_filter.mp hs).1
end Law
end
section
set_option autoImplicit false
/-! How many ticks all timers have. -/
namespace Law
open PySem PL
def Part.tk : Part → Option Int
  | .on k => some k
  | .off k => some k
  | _ => none
def tks (row : List Part) : Int := (row.filterMap Part.tk).sum
theorem tks_nn {row : List Part} (h : ∀ p ∈ row, 0 ≤ p.num) : 0 ≤ tks row := by
  induction row with
  | nil => simp [tks]
  | cons p row ih =>
    have h1 := ih fun q hq => h q (List.mem_cons_of_mem _ hq)
    have h2 := h p List.mem_cons_self
    unfold tks at h1 ⊢
    cases p <;> simp [Part.tk, List.filterMap_cons, Part.num] at h2 ⊢ <;> omega
theorem law_ticks_ev {row : List Part} (hl : row.length ≤ 1000) (μ : Mem) : m__law_ticks [pvs row] μ = .ok (.int (tks row)) μ := by
  apply fn_sat_data (by simp)
  apply run_sat
  unfold b__law_ticks
  simp only [List.map_cons, List.map_nil, List.length_cons, List.length_nil, List.replicate, List.cons_append, List.nil_append, Nat.reduceAdd, Nat.reduceSub]
  have hlc : lc (iVal (v 0)) (tn 1) (app2 fIn (app2 fIx (v 1) (c (.int 0))) (app fTup (ac (c (.str ("on" : Str))) (ac (c (.str ("off" : Str))) an)))) (app2 fIx (v 1) (c (.int 1))) [1] [some (pvs row), none] μ = .ok (.ref μ.length) (μ ++ [.lst ((row.filterMap Part.tk).map .int)]) := by
    rw [lc_pure Part.pv (fun p => p.tk.map PV.int) row (lk := []) (μ1 := μ) (by simp) (fun _ => locked_nil _) (by show _ < 16777216; omega)]
    · rw [List.map_filterMap]
    · intro p _ l
      refine ⟨_, by simp [wipe]; rfl, ?_⟩
      cases p <;> simp [Part.pv, Part.tk]
  have fs : fSum [.ref μ.length] (μ ++ [.lst ((row.filterMap Part.tk).map .int)]) = .ok (.int (tks row)) (μ ++ [.lst ((row.filterMap Part.tk).map .int)]) := by
    rw [fSum_ref]
    simp [getL, intsOf_mapI, tks, -List.map_filterMap]
  simp [hlc, fs, -List.map_filterMap, -fSum_ref]
end Law
end
section
set_option autoImplicit false
/-! while a row has more ticks than so many: its first part goes. Run. -/
namespace Law
open PySem PL
noncomputable def trimS (i : Nat) (K : Int) : Sm := whileS (app2 fGt (app m__law_ticks (ac (v i) an)) (c (.int K))) (setv i (sl (v i) (app1 fPart (c (.int 1))) (c .non)))
theorem trimN (i : Nat) (K : Int) (hK : 0 ≤ K) (μ : Mem) : ∀ (n : Nat) (row : List Part) (env : PL.Env), row.length < n → row.length ≤ 1000 → env[i]? = some (some (pvs row)) → ∃ d, whileN (app2 fGt (app m__law_ticks (ac (v i) an)) (c (.int K))) (setv i (sl (v i) (app1 fPart (c (.int 1))) (c .non))) n env μ = .nx (env.set i (some (pvs (row.drop d)))) μ
  | 0, _, _, h, _, _ => absurd h (Nat.not_lt_zero _)
  | n + 1, row, env, h, hl, he => by
    have ev : ∀ μ, v i env μ = .ok (pvs row) μ := fun μ => by unfold v; rw [he]
    have tk := fun μ => law_ticks_ev hl μ
    have s1 : ∀ μ, fSl [pvs row, .int 1, .non] μ = .ok (pvs (row.drop 1)) μ := fun μ => sl_f row (z := 1) (by decide) μ
    have hi : i < env.length := (List.getElem?_eq_some_iff.mp he).1
    have hgt : (app2 fGt (app m__law_ticks (ac (v i) an)) (c (.int K))) env μ = .ok (.bl (decide (tks row > K))) μ := by
      generalize pvs row = pr at *
      simp [ev, tk]
    have hset : (setv i (sl (v i) (app1 fPart (c (.int 1))) (c .non))) env μ = .nx (env.set i (some (pvs (row.drop 1)))) μ := by
      generalize pvs (row.drop 1) = p1 at *
      generalize pvs row = pr at *
      simp [ev, s1]
    unfold whileN
    rw [hgt]
    simp only [Out.of_ok]
    by_cases c : tks row > K
    · rw [decide_eq_true c, onS_true, hset]
      have hne : row ≠ [] := fun e => by subst e; simp [tks] at c; omega
      have hp : 0 < row.length := List.length_pos_iff.mpr hne
      obtain ⟨d, hd⟩ := trimN i K hK μ n (row.drop 1) (env.set i (some (pvs (row.drop 1)))) (by rw [List.length_drop]; omega) (by rw [List.length_drop]; omega) (by rw [List.getElem?_set_self hi])
      refine ⟨1 + d, ?_⟩
      simp only
      rw [hd, List.set_set, List.drop_drop]
    · rw [decide_eq_false c, onS_false]
      refine ⟨0, ?_⟩
      rw [List.drop_zero]
      congr 1
      refine (List.ext_getElem? fun k => ?_).symm
      by_cases hk : k = i
      · subst hk; rw [List.getElem?_set_self hi, he]
      · rw [List.getElem?_set_ne (fun e => hk e.symm)]
theorem trim_ev (i : Nat) (K : Int) (hK : 0 ≤ K) (μ : Mem) (row : List Part) (env : PL.Env) (hl : row.length ≤ 1000) (he : env[i]? = some (some (pvs row))) : ∃ d, trimS i K env μ = .nx (env.set i (some (pvs (row.drop d)))) μ :=
  trimN i K hK μ fuel row env (by unfold fuel; omega) hl he
end Law
end
section
set_option autoImplicit false
/-! k34: two rows of few ticks. -/
namespace Law
open PySem PL
def IsPair (p : PV) : Prop := ∃ a b : List Part, p = .tup [pvs a, pvs b] ∧ a.length ≤ 9 ∧ b.length ≤ 9 ∧ (∀ x ∈ a, x.ok 4) ∧ ∀ x ∈ b, x.ok 4
def E3 (j : Nat) (q1 q2 : Option PV) : PL.Env := [some (.ref j), q1, q2]
theorem pair_ev {j : Nat} (m : Mem) (hp : (jarF j).inv m) : (m__law_pair [.ref j] m).sat fun p m' => IsPair p ∧ (jarF j).Go m m' := by
  refine Fam.fn_go (P := IsPair) hp ?_
  apply run_sat
  unfold b__law_pair
  simp only [List.map_cons, List.map_nil, List.length_cons, List.length_nil, List.replicate, List.cons_append, List.nil_append, Nat.reduceAdd, Nat.reduceSub]
  obtain ⟨p, m1, e1, ⟨t, ht, rfl⟩, g1⟩ := rsat_ex (pick_ints m hp [0, 0, 3] (by decide) (by decide))
  simp at e1
  have ht' : t ≤ 1000 := by simp at ht; omega
  obtain ⟨p, m2, e2, ⟨a, rfl, al, ao⟩, g2⟩ := rsat_ex (row_ev m1 g1.i 4 (by decide) 3 t 3 (by decide) (by decide) (by decide) ht')
  have g12 := g1.trans g2
  refine seq_sat (fun e m' => m' = m2 ∧ e = E3 j (some (pvs a)) none) ?_ ?_
  · replace e2 : m__law_row [.ref j, .int 4, .int 3, .int t] m1 = .ok (pvs a) m2 := e2
    generalize pvs a = pa at *
    simp [E3, e1, e2]
  rintro e m' ⟨rfl, rfl⟩
  obtain ⟨d1, hd1⟩ := trim_ev 1 7 (by decide) m' a (E3 j (some (pvs a)) none) (by omega) rfl
  refine seq_sat (fun e m2 => m2 = m' ∧ e = E3 j (some (pvs (a.drop d1))) none) ?_ ?_
  · show (trimS 1 7 _ _).sat _
    rw [hd1]
    simp [E3]
  rintro e m3 ⟨rfl, rfl⟩
  have al1 : (a.drop d1).length ≤ 4 := by rw [List.length_drop]; omega
  have ao1 : ∀ x ∈ a.drop d1, x.ok 3 := fun x hx => ao x (List.mem_of_mem_drop hx)
  generalize a.drop d1 = a1 at *
  obtain ⟨p, m4, e4, ⟨b, rfl, bl, bo⟩, g4⟩ := rsat_ex (near_ev (B := 3) (most := 2) m3 g12.i (by decide) (by decide) (by decide) (by decide) a1 al1 ao1)
  have g14 := g12.trans g4
  refine seq_sat (fun e m' => m' = m4 ∧ e = E3 j (some (pvs a1)) (some (pvs b))) ?_ ?_
  · generalize pvs a1 = pa at *
    generalize pvs b = pb at *
    simp [E3, e4]
  rintro e m5 ⟨rfl, rfl⟩
  obtain ⟨d2, hd2⟩ := trim_ev 2 8 (by decide) m5 b (E3 j (some (pvs a1)) (some (pvs b))) (by omega) rfl
  refine seq_sat (fun e m' => m' = m5 ∧ e = E3 j (some (pvs a1)) (some (pvs (b.drop d2)))) ?_ ?_
  · show (trimS 2 8 _ _).sat _
    rw [hd2]
    simp [E3]
  rintro e m6 ⟨rfl, rfl⟩
  have bl1 : (b.drop d2).length ≤ 6 := by rw [List.length_drop]; omega
  have bo1 : ∀ x ∈ b.drop d2, x.ok 4 := fun x hx => bo x (List.mem_of_mem_drop hx)
  generalize b.drop d2 = b1 at *
  obtain ⟨p, m7, e7, ⟨r, rfl, r0, r1⟩, g7⟩ := rsat_ex (draw_ev m6 g14.i 2 (by omega))
  have g17 := g14.trans g7
  have ao4 : ∀ x ∈ a1, x.ok 4 := fun x hx => ok_mono (ao1 x hx) (by decide)
  have f1 : IsPair (.tup [pvs a1, pvs b1]) := ⟨a1, b1, rfl, by omega, by omega, ao4, bo1⟩
  have f2 : IsPair (.tup [pvs b1, pvs a1]) := ⟨b1, a1, rfl, by omega, by omega, bo1, ao4⟩
  generalize pvs a1 = pa at *
  generalize pvs b1 = pb at *
  by_cases c0 : r = 0
  · subst c0
    simp [E3, e7]
    exact ⟨f1, g17⟩
  · simp [E3, e7, c0]
    exact ⟨f2, g17⟩
theorem swapped_ev {j : Nat} (m : Mem) (hp : (jarF j).inv m) : (m__law_swapped [.ref j] m).sat fun p m' => IsPair p ∧ (jarF j).Go m m' := by
  refine Fam.fn_go (P := IsPair) hp ?_
  apply run_sat
  unfold b__law_swapped
  obtain ⟨p, m1, e1, ⟨r, rfl, r0, r1⟩, g1⟩ := rsat_ex (draw_ev m hp 2 (by omega))
  obtain ⟨p, m2, e2, ⟨s, rfl, s0, s1⟩, g2⟩ := rsat_ex (draw_ev m1 g1.i 2 (by omega))
  simp [e1, e2]
  refine ⟨⟨[.on (1 + r), .off (1 + r + (1 + s)), .on (1 + s)], [.off (1 + s), .on (1 + r + (1 + s)), .off (1 + r)], rfl, by simp, by simp, ?_, ?_⟩, g1.trans g2⟩
  · intro x hx
    simp at hx
    rcases hx with rfl | rfl | rfl
    · exact ⟨by simp only [num_on]; omega, by simp only [num_on]; omega⟩
    · exact ⟨by simp only [num_off]; omega, by simp only [num_off]; omega⟩
    · exact ⟨by simp only [num_on]; omega, by simp only [num_on]; omega⟩
  · intro x hx
    simp at hx
    rcases hx with rfl | rfl | rfl
    · exact ⟨by simp only [num_off]; omega, by simp only [num_off]; omega⟩
    · exact ⟨by simp only [num_on]; omega, by simp only [num_on]; omega⟩
    · exact ⟨by simp only [num_off]; omega, by simp only [num_off]; omega⟩
end Law
end
section
set_option autoImplicit false
/-! Signals in plain Lean: bursts, runs of ons, grouping from the left. -/
namespace Law
open PySem PL
structure Bu where
  tick : Int
  on : Int
  off : Int
  times : Int
deriving DecidableEq
abbrev Run := Int × Int
def Bu.end (b : Bu) : Int := b.tick + b.times * b.on + (b.times - 1) * b.off
/-- n runs of length on, gaps g, the first at t -/
def train (t on g : Int) : Nat → List Run
  | 0 => []
  | n + 1 => (t, t + on) :: train (t + on + g) on g n
def Bu.runs (b : Bu) : List Run := train b.tick b.on b.off b.times.toNat
structure Bu.ok (b : Bu) : Prop where
  times : 1 ≤ b.times
  off : b.times = 1 → b.off = 0
def one (r : Run) : Bu := ⟨r.1, r.2 - r.1, 0, 1⟩
def takes (u : Bu) (tick on : Int) : Bool := decide (u.on = on) && (decide (u.times = 1) || decide (u.off = tick - u.end))
def add (f : List Bu) (r : Run) : List Bu := match f.getLast? with
  | none => f ++ [one r]
  | some u => if takes u r.1 (r.2 - r.1) then f.dropLast ++ [⟨u.tick, u.on, r.1 - u.end, u.times + 1⟩] else f ++ [one r]
def adds (f : List Bu) (rs : List Run) : List Bu := rs.foldl add f
def group (rs : List Run) : List Bu := adds [] rs
theorem adds_nil (f : List Bu) : adds f [] = f := rfl
theorem adds_cons (f : List Bu) (r : Run) (rs : List Run) : adds f (r :: rs) = adds (add f r) rs := rfl
theorem adds_app (f : List Bu) (a b : List Run) : adds f (a ++ b) = adds (adds f a) b := by unfold adds; rw [List.foldl_append]
theorem add_snoc (f : List Bu) (u : Bu) (r : Run) : add (f ++ [u]) r = if takes u r.1 (r.2 - r.1) then f ++ [⟨u.tick, u.on, r.1 - u.end, u.times + 1⟩] else f ++ [u] ++ [one r] := by
  unfold add
  rw [List.getLast?_append]
  simp
/-- a run of like gaps behind a burst that takes it -/
theorem adds_train (f : List Bu) (on g : Int) : ∀ (n : Nat) (t off k : Int), 1 ≤ k → (k = 1 ∨ off = g) →
    adds (f ++ [⟨t, on, off, k⟩]) (train ((⟨t, on, off, k⟩ : Bu).end + g) on g n) = f ++ [⟨t, on, if n = 0 then off else g, k + n⟩]
  | 0, t, off, k, _, _ => by simp [train, adds_nil]
  | n + 1, t, off, k, hk, h => by
    unfold train
    rw [adds_cons, add_snoc]
    have ht : takes ⟨t, on, off, k⟩ ((⟨t, on, off, k⟩ : Bu).end + g) ((⟨t, on, off, k⟩ : Bu).end + g + on - ((⟨t, on, off, k⟩ : Bu).end + g)) = true := by
      unfold takes
      rcases h with h | h
      · simp [h]; omega
      · simp [h]; omega
    rw [if_pos ht]
    have e1 : (⟨t, on, off, k⟩ : Bu).end + g - (⟨t, on, off, k⟩ : Bu).end = g := by omega
    simp only [e1]
    have e2 : (⟨t, on, off, k⟩ : Bu).end + g + on + g = (⟨t, on, g, k + 1⟩ : Bu).end + g := by
      unfold Bu.end
      rcases h with h | h
      · subst h; simp only; grind
      · subst h; simp only; grind
    rw [e2, adds_train f on g n t g (k + 1) (by omega) (.inr rfl)]
    simp
    omega
theorem train_one (t on g : Int) : train t on g 1 = [(t, t + on)] := rfl
/-- a burst put behind as a new one -/
theorem adds_new (f : List Bu) (b : Bu) (hb : b.ok) (h : ∀ u, f.getLast? = some u → takes u b.tick b.on = false) : adds f b.runs = f ++ [b] := by
  have h1 := hb.times
  have e : b.times.toNat = (b.times.toNat - 1) + 1 := by omega
  unfold Bu.runs
  rw [e]
  unfold train
  rw [adds_cons]
  have ha : add f (b.tick, b.tick + b.on) = f ++ [⟨b.tick, b.on, 0, 1⟩] := by
    unfold add
    have e1 : b.tick + b.on - b.tick = b.on := by omega
    cases hf : f.getLast? with
    | none => simp [one, e1]
    | some u => simp only [e1, h u hf]; simp [one, e1]
  rw [ha]
  have e2 : b.tick + b.on + b.off = (⟨b.tick, b.on, 0, 1⟩ : Bu).end + b.off := by unfold Bu.end; simp
  rw [e2, adds_train f b.on b.off _ b.tick 0 1 (by omega) (.inl rfl)]
  rcases b with ⟨t, on, off, k⟩
  have h2 := hb.off
  simp only at *
  by_cases hk : k.toNat - 1 = 0
  · have : k = 1 := by omega
    subst this
    simp [h2 rfl]
  · rw [if_neg hk]
    have : 1 + ((k.toNat - 1 : Nat) : Int) = k := by omega
    rw [this]
/-- .. taken by the last one: so many of its runs -/
theorem adds_takes (f : List Bu) (u b : Bu) (hu : 1 ≤ u.times) (ht : takes u b.tick b.on = true) (n : Nat) (hg : n = 1 ∨ b.off = b.tick - u.end) (hn : 1 ≤ n) :
    adds (f ++ [u]) (train b.tick b.on b.off n) = f ++ [⟨u.tick, u.on, b.tick - u.end, u.times + n⟩] := by
  unfold takes at ht
  simp only [Bool.and_eq_true, decide_eq_true_eq, Bool.or_eq_true] at ht
  rcases u with ⟨t, on, off, k⟩
  simp only at *
  have e0 : b.tick = (⟨t, on, off, k⟩ : Bu).end + (b.tick - (⟨t, on, off, k⟩ : Bu).end) := by omega
  rcases hg with rfl | hg
  · have := adds_train f on (b.tick - (⟨t, on, off, k⟩ : Bu).end) 1 t off k hu ht.2
    rw [← e0] at this
    rw [← ht.1]
    simpa [train] using this
  · have := adds_train f on (b.tick - (⟨t, on, off, k⟩ : Bu).end) n t off k hu ht.2
    rw [← e0] at this
    rw [← ht.1, hg, this, if_neg (by omega)]
theorem train_succ (t on g : Int) (n : Nat) : train t on g (n + 1) = (t, t + on) :: train (t + on + g) on g n := rfl
theorem train_split (t on g : Int) : ∀ (a b : Nat), train t on g (a + b) = train t on g a ++ train (t + a * (on + g)) on g b
  | 0, b => by simp [train]
  | a + 1, b => by
    have e : a + 1 + b = (a + b) + 1 := by omega
    rw [e, train_succ, train_succ, train_split (t + on + g) on g a b]
    have e2 : t + on + g + a * (on + g) = t + ((a + 1 : Nat) : Int) * (on + g) := by push_cast; grind
    rw [e2, List.cons_append]
theorem train_len (t on g : Int) : ∀ n, (train t on g n).length = n
  | 0 => rfl
  | n + 1 => by simp [train, train_len]
def mkb (t on off k : Int) : Bu := ⟨t, on, if k > 1 then off else 0, k⟩
theorem mkb_ok {t on off k : Int} (h : 1 ≤ k) : (mkb t on off k).ok := ⟨h, fun e => by simp [mkb] at e ⊢; omega⟩
theorem mkb_runs {t on off k : Int} (h : 1 ≤ k) : (mkb t on off k).runs = train t on off k.toNat := by
  unfold Bu.runs mkb
  simp only
  by_cases h1 : k > 1
  · rw [if_pos h1]
  · have : k = 1 := by omega
    subst this
    simp [train]
/-- a burst put behind: what is put, what is left -/
def put (f : List Bu) (b : Bu) : List Bu × Option Bu := match f.getLast? with
  | none => (f ++ [b], none)
  | some u => if takes u b.tick b.on then
      (f.dropLast ++ [⟨u.tick, b.on, b.tick - u.end, u.times + (if b.times = 1 ∨ b.off = b.tick - u.end then b.times else 1)⟩],
        if b.times = 1 ∨ b.off = b.tick - u.end then none else some (mkb (b.tick + b.on + b.off) b.on b.off (b.times - 1)))
    else (f ++ [b], none)
def restRuns : Option Bu → List Run
  | none => []
  | some b => b.runs
def OkB (f : List Bu) : Prop := ∀ b ∈ f, b.ok
theorem put_adds (f : List Bu) (b : Bu) (hf : OkB f) (hb : b.ok) : adds (put f b).1 (restRuns (put f b).2) = adds f b.runs := by
  rcases List.eq_nil_or_concat f with rfl | ⟨f', u, rfl⟩
  · rw [adds_new [] b hb (by simp)]; rfl
  · rw [List.concat_eq_append] at *
    have hu := hf u (by simp)
    unfold put
    simp only [List.getLast?_append, List.getLast?_singleton, Option.some_or]
    by_cases ht : takes u b.tick b.on = true
    · rw [if_pos ht]
      have e1 : u.on = b.on := by
        unfold takes at ht
        simp only [Bool.and_eq_true, decide_eq_true_eq] at ht
        exact ht.1
      simp only [List.dropLast_concat]
      have h1 := hb.times
      by_cases hg : b.times = 1 ∨ b.off = b.tick - u.end
      · rw [if_pos hg, if_pos hg]
        have := adds_takes f' u b hu.times ht b.times.toNat (by rcases hg with h | h; left; omega; right; exact h) (by omega)
        unfold Bu.runs
        rw [this]
        have e : ((b.times.toNat : Nat) : Int) = b.times := by omega
        rw [e, e1]; rfl
      · rw [if_neg hg, if_neg hg]
        have e : b.times.toNat = 1 + (b.times.toNat - 1) := by omega
        have h2 : 1 ≤ b.times - 1 := by omega
        unfold restRuns
        simp only
        rw [mkb_runs h2]
        unfold Bu.runs
        rw [e, train_split, adds_app]
        have := adds_takes f' u b hu.times ht 1 (.inl rfl) (by omega)
        rw [this, e1]
        have e3 : (b.times - 1).toNat = b.times.toNat - 1 := by omega
        have e4 : b.tick + ((1 : Nat) : Int) * (b.on + b.off) = b.tick + b.on + b.off := by push_cast; omega
        rw [e3, e4]; rfl
    · have ht' : takes u b.tick b.on = false := by simpa using ht
      rw [if_neg ht]
      rw [adds_new (f' ++ [u]) b hb (by simp [ht'])]; rfl
/-- how often it may be put -/
def left (f : List Bu) : Option Bu → Nat
  | none => 0
  | some b => match f.getLast? with | none => 1 | some u => if takes u b.tick b.on then 2 else 1
theorem put_left (f : List Bu) (b : Bu) (hf : OkB f) : left (put f b).1 (put f b).2 < left f (some b) := by
  rcases List.eq_nil_or_concat f with rfl | ⟨f', u, rfl⟩
  · simp [put, left]
  · rw [List.concat_eq_append] at *
    have hu := hf u (by simp)
    unfold put left
    simp only [List.getLast?_append, List.getLast?_singleton, Option.some_or]
    by_cases ht : takes u b.tick b.on = true
    · simp only [ht, if_true]
      by_cases hg : b.times = 1 ∨ b.off = b.tick - u.end
      · simp [hg]
      · simp only [if_neg hg, List.getLast?_append, List.getLast?_singleton, Option.some_or]
        have e1 : u.on = b.on := by
          unfold takes at ht
          simp only [Bool.and_eq_true, decide_eq_true_eq] at ht
          exact ht.1
        unfold takes at ht
        simp only [Bool.and_eq_true, decide_eq_true_eq, Bool.or_eq_true] at ht
        have h1 := hu.times
        have hn : takes ⟨u.tick, b.on, b.tick - u.end, u.times + 1⟩ (mkb (b.tick + b.on + b.off) b.on b.off (b.times - 1)).tick (mkb (b.tick + b.on + b.off) b.on b.off (b.times - 1)).on = false := by
          unfold takes mkb
          simp only [decide_true, Bool.true_and, Bool.or_eq_false_iff, decide_eq_false_iff_not]
          refine ⟨by omega, fun h => hg (.inr ?_)⟩
          have e2 : (⟨u.tick, b.on, b.tick - u.end, u.times + 1⟩ : Bu).end = b.tick + b.on := by
            have h3 : u.end = u.tick + u.times * u.on + (u.times - 1) * u.off := rfl
            unfold Bu.end
            simp only
            rcases ht.2 with h4 | h4
            · rw [h4]; grind
            · rw [h3] at h4; rw [← e1]; grind
          omega
        simp only [hn, Bool.false_eq_true, if_false]
        decide
    · have ht' : takes u b.tick b.on = false := by simpa using ht
      simp [ht']
theorem put_ok (f : List Bu) (b : Bu) (hf : OkB f) (hb : b.ok) : OkB (put f b).1 ∧ ∀ r, (put f b).2 = some r → r.ok := by
  have h1 := hb.times
  rcases List.eq_nil_or_concat f with rfl | ⟨f', u, rfl⟩
  · exact ⟨fun x hx => by simp [put] at hx; subst hx; exact hb, fun r h => by simp [put] at h⟩
  · rw [List.concat_eq_append] at *
    have hu := hf u (by simp)
    have hu1 := hu.times
    unfold put
    simp only [List.getLast?_append, List.getLast?_singleton, Option.some_or]
    split
    · constructor
      · intro x hx
        simp only [List.dropLast_concat] at hx
        rcases List.mem_append.mp hx with hx | hx
        · exact hf x (List.mem_append_left _ hx)
        · simp at hx; subst hx
          refine ⟨by simp only; split <;> omega, fun e => ?_⟩
          simp only at e
          split at e <;> omega
      · intro r hr
        simp only at hr
        split at hr
        · cases hr
        · rename_i hg
          cases hr
          exact mkb_ok (by omega)
    · constructor
      · intro x hx
        rcases List.mem_append.mp hx with hx | hx
        · exact hf x hx
        · simp at hx; subst hx; exact hb
      · intro r hr; cases hr
def Bu.pv (b : Bu) : PV := .tup [.int b.tick, .int b.on, .int b.off, .int b.times]
theorem Bu_data (b : Bu) : b.pv.data = true := by simp [Bu.pv]
structure Bu.fit (M : Int) (b : Bu) : Prop where
  ok : b.ok
  on : 1 ≤ b.on
  off : 0 ≤ b.off
  lo : -M ≤ b.tick
  hi : b.end ≤ M
theorem fit_more {M : Int} {b : Bu} (h : b.fit M) : b.times ≤ 2 * M ∧ b.on ≤ 2 * M ∧ b.off ≤ 2 * M ∧ b.tick + b.on ≤ b.end ∧ -M ≤ b.end ∧ b.tick ≤ M := by
  have h1 := h.ok.times
  have h2 := h.on
  have h3 := h.off
  have h4 := h.lo
  have h5 := h.hi
  unfold Bu.end at *
  have a1 : 0 ≤ (b.times - 1) * b.off := Int.mul_nonneg (by omega) h3
  have a2 : b.times ≤ b.times * b.on := by have := Int.mul_le_mul_of_nonneg_left h2 (by omega : 0 ≤ b.times); omega
  have a3 : b.on ≤ b.times * b.on := by have := Int.mul_le_mul_of_nonneg_right h1 (by omega : 0 ≤ b.on); omega
  have a4 : b.off ≤ (b.times - 1) * b.off ∨ b.off = 0 := by
    by_cases e : b.times = 1
    · right; exact h.ok.off e
    · left; have := Int.mul_le_mul_of_nonneg_right (by omega : 1 ≤ b.times - 1) h3; omega
  refine ⟨by omega, by omega, by omega, by omega, by omega, by omega⟩
abbrev Big (M : Int) : Prop := 0 ≤ M ∧ M ≤ 10 ^ 100
theorem end_put {u b : Bu} (ht : takes u b.tick b.on = true) (k : Int) : (⟨u.tick, b.on, b.tick - u.end, u.times + k⟩ : Bu).end = b.tick + k * b.on + (k - 1) * (b.tick - u.end) := by
  unfold takes at ht
  simp only [Bool.and_eq_true, decide_eq_true_eq, Bool.or_eq_true] at ht
  have h3 : u.end = u.tick + u.times * u.on + (u.times - 1) * u.off := rfl
  rw [ht.1] at h3
  have h4 : u.end = u.tick + u.times * b.on + (u.times - 1) * (b.tick - u.end) := by
    rcases ht.2 with h | h
    · rw [h] at h3 ⊢; grind
    · rw [h] at h3; exact h3
  show u.tick + (u.times + k) * b.on + (u.times + k - 1) * (b.tick - u.end) = _
  grind
structure PutFit (M : Int) (t : Int) (f : List Bu) (r : Option Bu) : Prop where
  fs : ∀ x ∈ f, x.fit M
  r : ∀ x, r = some x → x.fit M ∧ x.end = t ∧ ∀ u, f.getLast? = some u → u.end ≤ x.tick
  l : ∀ u, f.getLast? = some u → u.end ≤ t
theorem put_fit {M : Int} {f : List Bu} {b : Bu} {t : Int} (h : PutFit M t f (some b)) : PutFit M t (put f b).1 (put f b).2 := by
  obtain ⟨hb, hbt, ho⟩ := h.r b rfl
  have hm := fit_more hb
  rcases List.eq_nil_or_concat f with rfl | ⟨f', u, rfl⟩
  · refine ⟨fun x hx => ?_, fun x hx => ?_, fun u hu => ?_⟩
    · simp [put] at hx; subst hx; exact hb
    · simp [put] at hx
    · simp [put] at hu; subst hu; omega
  · rw [List.concat_eq_append] at *
    have hu := h.fs u (by simp)
    have hol := ho u (by simp)
    unfold put
    simp only [List.getLast?_append, List.getLast?_singleton, Option.some_or]
    by_cases ht : takes u b.tick b.on = true
    · simp only [ht, if_true, List.dropLast_concat]
      have e := end_put ht
      have hut := hu.ok.times
      have hbt1 := hb.ok.times
      have hbon := hb.on
      have hboff := hb.off
      by_cases hg : b.times = 1 ∨ b.off = b.tick - u.end
      · simp only [if_pos hg]
        have e1 : (⟨u.tick, b.on, b.tick - u.end, u.times + b.times⟩ : Bu).end = b.end := by
          rw [e]
          rcases hg with h | h
          · unfold Bu.end; rw [h]; simp
          · rw [← h]; rfl
        have nf : (⟨u.tick, b.on, b.tick - u.end, u.times + b.times⟩ : Bu).fit M := ⟨⟨by simp only; omega, fun e => by simp only at e; omega⟩, hbon, by simp only; omega, hu.lo, by rw [e1]; exact hb.hi⟩
        refine ⟨fun x hx => ?_, fun x hx => (nomatch hx), fun x hx => ?_⟩
        · rcases List.mem_append.mp hx with hx | hx
          · exact h.fs x (List.mem_append_left _ hx)
          · simp at hx; subst hx; exact nf
        · simp at hx; subst hx; rw [e1]; omega
      · simp only [if_neg hg]
        have e1 : (⟨u.tick, b.on, b.tick - u.end, u.times + 1⟩ : Bu).end = b.tick + b.on := by rw [e]; omega
        have h1 : 1 < b.times := by omega
        have nf : (⟨u.tick, b.on, b.tick - u.end, u.times + 1⟩ : Bu).fit M := ⟨⟨by simp only; omega, fun e => by simp only at e; omega⟩, hbon, by simp only; omega, hu.lo, by rw [e1]; have := hb.hi; omega⟩
        have e2 : (mkb (b.tick + b.on + b.off) b.on b.off (b.times - 1)).end = b.end := by
          unfold mkb Bu.end
          simp only
          by_cases h2 : b.times - 1 > 1
          · rw [if_pos h2]; grind
          · have h3 : b.times = 2 := by omega
            rw [if_neg h2, h3]; grind
        have rf : (mkb (b.tick + b.on + b.off) b.on b.off (b.times - 1)).fit M := ⟨mkb_ok (by omega), hbon, by unfold mkb; simp only; split <;> omega, by have := hb.lo; unfold mkb; simp only; omega, by rw [e2]; exact hb.hi⟩
        refine ⟨fun x hx => ?_, fun x hx => ?_, fun x hx => ?_⟩
        · rcases List.mem_append.mp hx with hx | hx
          · exact h.fs x (List.mem_append_left _ hx)
          · simp at hx; subst hx; exact nf
        · simp only [Option.some.injEq] at hx; subst hx
          refine ⟨rf, by rw [e2]; exact hbt, fun v hv => ?_⟩
          simp at hv; subst hv; rw [e1]; unfold mkb; simp only; omega
        · simp at hx; subst hx; rw [e1]; omega
    · have ht' : takes u b.tick b.on = false := by simpa using ht
      simp only [ht', Bool.false_eq_true, if_false]
      refine ⟨fun x hx => ?_, fun x hx => (nomatch hx), fun x hx => ?_⟩
      · rcases List.mem_append.mp hx with hx | hx
        · exact h.fs x hx
        · simp at hx; subst hx; exact hb
      · simp at hx; subst hx; omega
theorem put_len (f : List Bu) (b : Bu) : (put f b).1.length ≤ f.length + 1 := by
  rcases List.eq_nil_or_concat f with rfl | ⟨f', u, rfl⟩
  · simp [put]
  · rw [List.concat_eq_append]
    unfold put
    simp only [List.getLast?_append, List.getLast?_singleton, Option.some_or]
    split <;> simp
/-- bursts one behind the other -/
def Chain (bs : List Bu) : Prop := ∀ i x y, bs[i]? = some x → bs[i + 1]? = some y → x.end ≤ y.tick
theorem runs_one (r : Run) : (one r).runs = [r] := by
  rcases r with ⟨a, b⟩
  unfold Bu.runs one
  simp [train]
  omega
theorem add_runs (f : List Bu) (r : Run) (hf : OkB f) : (add f r).flatMap Bu.runs = f.flatMap Bu.runs ++ [r] ∧ OkB (add f r) := by
  rcases List.eq_nil_or_concat f with rfl | ⟨f', u, rfl⟩
  · refine ⟨by simp [add, runs_one], fun b hb => ?_⟩
    simp [add] at hb; subst hb; exact ⟨by simp [one], by simp [one]⟩
  · rw [List.concat_eq_append] at *
    rw [add_snoc]
    have hu := hf u (by simp)
    by_cases ht : takes u r.1 (r.2 - r.1) = true
    · rw [if_pos ht]
      have ht0 := ht
      unfold takes at ht
      simp only [Bool.and_eq_true, decide_eq_true_eq, Bool.or_eq_true] at ht
      have h1 := hu.times
      constructor
      · rw [List.flatMap_append, List.flatMap_append]
        simp only [List.flatMap_cons, List.flatMap_nil, List.append_nil, List.append_assoc]
        congr 1
        unfold Bu.runs
        simp only
        have e : (u.times + 1).toNat = u.times.toNat + 1 := by omega
        rw [e, train_split]
        have h3 : u.end = u.tick + u.times * u.on + (u.times - 1) * u.off := rfl
        have e2 : ((u.times.toNat : Nat) : Int) = u.times := by omega
        have e3 : u.tick + (u.times.toNat : Nat) * (u.on + (r.1 - u.end)) = r.1 := by
          rw [e2]
          rcases ht.2 with h | h
          · rw [h] at h3 ⊢; grind
          · rw [h] at h3; grind
        have e4 : train u.tick u.on (r.1 - u.end) u.times.toNat = train u.tick u.on u.off u.times.toNat := by
          rcases ht.2 with h | h
          · rw [h]; rfl
          · rw [h]
        rw [e3, e4]
        have e5 : r.1 + (r.2 - r.1) = r.2 := by omega
        simp [train, ht.1, e5]
      · intro b hb
        rcases List.mem_append.mp hb with hb | hb
        · exact hf b (List.mem_append_left _ hb)
        · simp at hb; subst hb; exact ⟨by simp only; omega, fun e => by simp only at e; omega⟩
    · rw [if_neg ht]
      refine ⟨by simp [runs_one], fun b hb => ?_⟩
      rcases List.mem_append.mp hb with hb | hb
      · exact hf b hb
      · simp at hb; subst hb; exact ⟨by simp [one], by simp [one]⟩
theorem adds_runs (rs : List Run) : ∀ f : List Bu, OkB f → (adds f rs).flatMap Bu.runs = f.flatMap Bu.runs ++ rs ∧ OkB (adds f rs) := by
  induction rs with
  | nil => intro f hf; simp [adds_nil]; exact hf
  | cons r rs ih =>
    intro f hf
    obtain ⟨h1, h2⟩ := add_runs f r hf
    obtain ⟨h3, h4⟩ := ih (add f r) h2
    rw [adds_cons]
    exact ⟨by rw [h3, h1]; simp, h4⟩
/-- the runs of what is grouped are what was grouped -/
theorem group_runs (rs : List Run) : (group rs).flatMap Bu.runs = rs := by
  have := (adds_runs rs [] (fun _ h => (nomatch h))).1
  simp at this
  exact this
/-- runs in order, between -M and M -/
structure RunOk (M : Int) (r : Run) : Prop where
  len : r.1 < r.2
  lo : -M ≤ r.1
  hi : r.2 ≤ M
def RunsOk (M : Int) (rs : List Run) : Prop := (∀ r ∈ rs, RunOk M r) ∧ rs.Pairwise fun x y => x.2 ≤ y.1
structure AddFit (M : Int) (t : Int) (f : List Bu) : Prop where
  fs : ∀ x ∈ f, x.fit M
  ch : f.Pairwise fun x y => x.end ≤ y.tick
  l : ∀ u, f.getLast? = some u → u.end ≤ t
theorem add_fit {M t : Int} {f : List Bu} {r : Run} (h : AddFit M t f) (hr : RunOk M r) (ht : t ≤ r.1) : AddFit M r.2 (add f r) := by
  have h1 := hr.len
  rcases List.eq_nil_or_concat f with rfl | ⟨f', u, rfl⟩
  · have hx : add [] r = [one r] := rfl
    rw [hx]
    refine ⟨fun x hx => ?_, by simp, fun u hu => ?_⟩
    · simp at hx; subst hx
      exact ⟨⟨by simp [one], by simp [one]⟩, by simp [one]; omega, by simp [one], hr.lo, by simp [one, Bu.end]; have := hr.hi; omega⟩
    · simp at hu; subst hu; simp [one, Bu.end]; omega
  · rw [List.concat_eq_append] at *
    rw [add_snoc]
    have hu := h.fs u (by simp)
    have hul := h.l u (by simp)
    have hch := List.pairwise_append.mp h.ch
    by_cases htk : takes u r.1 (r.2 - r.1) = true
    · rw [if_pos htk]
      have e := end_put (b := ⟨r.1, r.2 - r.1, 0, 1⟩) htk 1
      simp only at e
      have hon : u.on = r.2 - r.1 := by
        unfold takes at htk
        simp only [Bool.and_eq_true, decide_eq_true_eq] at htk
        exact htk.1
      rw [← hon] at e
      have e1 : (⟨u.tick, u.on, r.1 - u.end, u.times + 1⟩ : Bu).end = r.2 := by rw [e]; omega
      have hut := hu.ok.times
      have nf : (⟨u.tick, u.on, r.1 - u.end, u.times + 1⟩ : Bu).fit M := ⟨⟨by simp only; omega, fun e => by simp only at e; omega⟩, hu.on, by simp only; omega, hu.lo, by rw [e1]; exact hr.hi⟩
      refine ⟨fun x hx => ?_, ?_, fun x hx => ?_⟩
      · rcases List.mem_append.mp hx with hx | hx
        · exact h.fs x (List.mem_append_left _ hx)
        · simp at hx; subst hx; exact nf
      · refine List.pairwise_append.mpr ⟨hch.1, by simp, fun x hx y hy => ?_⟩
        simp at hy; subst hy
        exact hch.2.2 x hx u (by simp)
      · simp at hx; subst hx; rw [e1]; omega
    · rw [if_neg htk]
      have nf : (one r).fit M := ⟨⟨by simp [one], by simp [one]⟩, by simp [one]; omega, by simp [one], hr.lo, by simp [one, Bu.end]; have := hr.hi; omega⟩
      refine ⟨fun x hx => ?_, ?_, fun x hx => ?_⟩
      · rcases List.mem_append.mp hx with hx | hx
        · exact h.fs x hx
        · simp at hx; subst hx; exact nf
      · refine List.pairwise_append.mpr ⟨h.ch, by simp, fun x hx y hy => ?_⟩
        simp at hy; subst hy
        rcases List.mem_append.mp hx with hx | hx
        · have a := hch.2.2 x hx u (by simp)
          have b := fit_more hu
          have := hu.on
          show x.end ≤ r.1
          omega
        · simp at hx; subst hx; show x.end ≤ r.1; omega
      · simp at hx; subst hx; simp [one, Bu.end]; omega
theorem group_fit {M : Int} {rs : List Run} (h : RunsOk M rs) : ∃ t, AddFit M t (group rs) := by
  have : ∀ (rs : List Run) (t : Int) (f : List Bu), (∀ r ∈ rs, RunOk M r) → rs.Pairwise (fun x y => x.2 ≤ y.1) → (∀ r ∈ rs, t ≤ r.1) → AddFit M t f → ∃ t', AddFit M t' (adds f rs) := by
    intro rs
    induction rs with
    | nil => intro t f _ _ _ h; exact ⟨t, h⟩
    | cons r rs ih =>
      intro t f h1 h2 h3 h4
      rw [adds_cons]
      have hp := List.pairwise_cons.mp h2
      exact ih r.2 (add f r) (fun x hx => h1 x (List.mem_cons_of_mem _ hx)) hp.2 hp.1 (add_fit h4 (h1 r List.mem_cons_self) (h3 r List.mem_cons_self))
  exact this rs (-M) [] h.1 h.2 (fun r hr => (h.1 r hr).lo) ⟨by simp, by simp, by simp⟩
theorem chain_of {bs : List Bu} (h : bs.Pairwise fun x y => x.end ≤ y.tick) : Chain bs := by
  intro i x y hx hy
  obtain ⟨h1, e1⟩ := List.getElem?_eq_some_iff.mp hx
  obtain ⟨h2, e2⟩ := List.getElem?_eq_some_iff.mp hy
  rw [← e1, ← e2]
  exact List.pairwise_iff_getElem.mp h i (i + 1) h1 h2 (by omega)
end Law
end
section
set_option autoImplicit false
/-! Dropping and filling runs. -/
namespace Law
open PySem PL
structure Tri where
  u : Option Int
  R : List Run
  s : Option Int
def opt : Option Int → PV
  | none => .non
  | some i => .int i
def sigP (u : Option Int) (bs : List Bu) (s : Option Int) : PV := .tup [opt u, .tup (bs.map Bu.pv), opt s]
def Tri.pv (t : Tri) : PV := sigP t.u (group t.R) t.s
abbrev Z := Option Int × List Run
def lastEnd (z : Z) : Option Int := match z.2.getLast? with
  | some r => some r.2
  | none => z.1
def flR (n : Int) (z : Z) (r : Run) : Z := match lastEnd z with
  | none => (z.1, z.2 ++ [r])
  | some e => if r.1 - e ≤ n then (match z.2.getLast? with
      | none => (some r.2, [])
      | some l => (z.1, z.2.dropLast ++ [(l.1, r.2)])) else (z.1, z.2 ++ [r])
def fill (n : Int) (t : Tri) : Tri :=
  let z := t.R.foldl (flR n) (t.u, [])
  match t.s, lastEnd z with
  | some v, some e => if v - e ≤ n then (match z.2.getLast? with
      | none => ⟨some 0, [], some 0⟩
      | some l => ⟨z.1, z.2.dropLast, some l.1⟩) else ⟨z.1, z.2, some v⟩
  | s, _ => ⟨z.1, z.2, s⟩
def drop (n : Int) (t : Tri) : Tri := ⟨t.u, t.R.filter (fun r => decide (r.2 - r.1 > n)), t.s⟩
theorem lastEnd_snoc (u : Option Int) (l : List Run) (r : Run) : lastEnd (u, l ++ [r]) = some r.2 := by unfold lastEnd; simp
theorem lastEnd_nil (u : Option Int) : lastEnd (u, []) = u := rfl
theorem flR_none (n : Int) (r : Run) : flR n (none, []) r = (none, [r]) := rfl
theorem flR_nil (n e : Int) (r : Run) : flR n (some e, []) r = if r.1 - e ≤ n then (some r.2, []) else (some e, [r]) := rfl
theorem flR_snoc (n : Int) (u : Option Int) (l : List Run) (x r : Run) : flR n (u, l ++ [x]) r = if r.1 - x.2 ≤ n then (u, l ++ [(x.1, r.2)]) else (u, l ++ [x] ++ [r]) := by
  unfold flR
  rw [lastEnd_snoc]
  simp
theorem flR_last (n : Int) (z : Z) (r : Run) : lastEnd (flR n z r) = some r.2 := by
  rcases z with ⟨u, l⟩
  rcases List.eq_nil_or_concat l with rfl | ⟨l', x, rfl⟩
  · cases u with
    | none => rfl
    | some e => rw [flR_nil]; split <;> rfl
  · rw [List.concat_eq_append, flR_snoc]
    split
    · rw [lastEnd_snoc]
    · rw [lastEnd_snoc]
theorem flR_far {n : Int} {z : Z} {r : Run} (h : ∀ e, lastEnd z = some e → n < r.1 - e) : flR n z r = (z.1, z.2 ++ [r]) := by
  rcases z with ⟨u, l⟩
  rcases List.eq_nil_or_concat l with rfl | ⟨l', x, rfl⟩
  · cases u with
    | none => rfl
    | some e => rw [flR_nil, if_neg (by have := h e rfl; omega)]; rfl
  · rw [List.concat_eq_append] at *
    rw [flR_snoc, if_neg (by have := h x.2 (lastEnd_snoc _ _ _); omega)]
theorem flR_ext {n : Int} (z : Z) (a e : Int) (r : Run) (h : r.1 - e ≤ n) : flR n (flR n z (a, e)) r = flR n z (a, r.2) := by
  rcases z with ⟨u, l⟩
  rcases List.eq_nil_or_concat l with rfl | ⟨l', x, rfl⟩
  · cases u with
    | none =>
      rw [flR_none, flR_none]
      have := flR_snoc n none [] (a, e) r
      simp only [List.nil_append] at this
      rw [this, if_pos h]
    | some e' =>
      rw [flR_nil, flR_nil]
      by_cases c : a - e' ≤ n
      · rw [if_pos c, if_pos c, flR_nil, if_pos h]
      · rw [if_neg c, if_neg c]
        have := flR_snoc n (some e') [] (a, e) r
        simp only [List.nil_append] at this
        rw [this, if_pos h]
  · rw [List.concat_eq_append, flR_snoc, flR_snoc]
    by_cases c : a - x.2 ≤ n
    · rw [if_pos c, if_pos c, flR_snoc, if_pos h]
    · rw [if_neg c, if_neg c, flR_snoc, if_pos h]
/-- a train whose gaps are filled -/
theorem fl_whole {n on g : Int} (hg : g ≤ n) : ∀ (k : Nat) (z : Z) (a e : Int), (train (e + g) on g k).foldl (flR n) (flR n z (a, e)) = flR n z (a, e + k * (on + g))
  | 0, z, a, e => by simp [train]
  | k + 1, z, a, e => by
    rw [train_succ, List.foldl_cons, flR_ext z a e _ (by simp only; omega), fl_whole hg k z a (e + g + on)]
    congr 2
    push_cast
    grind
/-- a train whose gaps stay -/
theorem fl_stay {n on g : Int} (hg : n < g) : ∀ (k : Nat) (z : Z) (e : Int), lastEnd z = some e → (train (e + g) on g k).foldl (flR n) z = (z.1, z.2 ++ train (e + g) on g k)
  | 0, z, e, _ => by simp [train]
  | k + 1, z, e, h => by
    rw [train_succ, List.foldl_cons, flR_far (by intro e' h'; rw [h] at h'; cases h'; simp only; omega)]
    rw [fl_stay hg k (z.1, z.2 ++ [(e + g, e + g + on)]) (e + g + on) (lastEnd_snoc _ _ _)]
    simp
/-- a burst's runs, the first one apart -/
def Bu.rest (b : Bu) : Option Bu := if b.times = 1 then none else some (mkb (b.tick + b.on + b.off) b.on b.off (b.times - 1))
theorem runs_first {b : Bu} (h : b.ok) : b.runs = (b.tick, b.tick + b.on) :: restRuns b.rest := by
  have h1 := h.times
  have e : b.times.toNat = (b.times.toNat - 1) + 1 := by omega
  unfold Bu.runs Bu.rest
  rw [e, train_succ]
  by_cases h2 : b.times = 1
  · rw [if_pos h2]
    have : b.times.toNat - 1 = 0 := by omega
    rw [this]; rfl
  · rw [if_neg h2]
    unfold restRuns
    simp only
    rw [mkb_runs (by omega)]
    have : (b.times - 1).toNat = b.times.toNat - 1 := by omega
    rw [this]
def wholeB (n : Int) (b : Bu) : Bu := if b.times > 1 ∧ b.off ≤ n then ⟨b.tick, b.end - b.tick, 0, 1⟩ else b
theorem whole_fl {n : Int} {b : Bu} (h : b.ok) (z : Z) : (wholeB n b).runs.foldl (flR n) z = b.runs.foldl (flR n) z := by
  unfold wholeB
  by_cases c : b.times > 1 ∧ b.off ≤ n
  · rw [if_pos c]
    have e : b.times.toNat = (b.times.toNat - 1) + 1 := by omega
    have r1 : (⟨b.tick, b.end - b.tick, 0, 1⟩ : Bu).runs = [(b.tick, b.end)] := by unfold Bu.runs; simp [train]; omega
    rw [r1]
    have r2 : b.runs = (b.tick, b.tick + b.on) :: train (b.tick + b.on + b.off) b.on b.off (b.times.toNat - 1) := by
      unfold Bu.runs; rw [e, train_succ]; rfl
    rw [r2, List.foldl_cons, List.foldl_cons, List.foldl_nil, fl_whole c.2]
    congr 2
    have e2 : ((b.times.toNat - 1 : Nat) : Int) = b.times - 1 := by omega
    rw [e2]
    unfold Bu.end
    grind
  · rw [if_neg c]
/-- what is left of it goes behind -/
theorem first_fl {n : Int} {b : Bu} (h : b.ok) (z : Z) : (wholeB n b).runs.foldl (flR n) z = ((flR n z ((wholeB n b).tick, (wholeB n b).tick + (wholeB n b).on)).1, (flR n z ((wholeB n b).tick, (wholeB n b).tick + (wholeB n b).on)).2 ++ restRuns (wholeB n b).rest) := by
  have hok : (wholeB n b).ok := by unfold wholeB; split; exact ⟨by simp, by simp⟩; exact h
  have hc : (wholeB n b).times = 1 ∨ n < (wholeB n b).off := by
    unfold wholeB
    by_cases c : b.times > 1 ∧ b.off ≤ n
    · rw [if_pos c]; exact .inl rfl
    · rw [if_neg c]
      have := h.times
      by_cases e : b.times = 1
      · exact .inl e
      · right; omega
  generalize wholeB n b = w at *
  rw [runs_first hok, List.foldl_cons]
  unfold Bu.rest
  rcases hc with hc | hc
  · rw [if_pos hc]; simp [restRuns]
  · by_cases h2 : w.times = 1
    · rw [if_pos h2]; simp [restRuns]
    · rw [if_neg h2]
      have := hok.times
      unfold restRuns
      simp only
      rw [mkb_runs (by omega)]
      exact fl_stay hc _ _ _ (flR_last _ _ _)
/-- the last run taken away -/
def wlast (f : List Bu) (u : Bu) : List Bu := if u.times = 1 then f else f ++ [mkb u.tick u.on u.off (u.times - 1)]
theorem wlast_runs (f : List Bu) (u : Bu) (h : u.ok) : (f ++ [u]).flatMap Bu.runs = (wlast f u).flatMap Bu.runs ++ [(u.end - u.on, u.end)] := by
  have h1 := h.times
  unfold wlast
  by_cases h2 : u.times = 1
  · rw [if_pos h2]
    have e1 : u.runs = [(u.tick, u.tick + u.on)] := by unfold Bu.runs; rw [h2]; rfl
    have e2 : u.end = u.tick + u.on := by unfold Bu.end; rw [h2]; simp
    rw [List.flatMap_append, e2]
    have e3 : u.tick + u.on - u.on = u.tick := by omega
    simp [e1, e3]
  · rw [if_neg h2, List.flatMap_append, List.flatMap_append]
    simp only [List.flatMap_cons, List.flatMap_nil, List.append_nil]
    rw [mkb_runs (by omega), List.append_assoc]
    congr 1
    unfold Bu.runs
    have e : u.times.toNat = (u.times - 1).toNat + 1 := by omega
    rw [e, train_split]
    congr 1
    have e2 : (((u.times - 1).toNat : Nat) : Int) = u.times - 1 := by omega
    simp only [train, e2]
    congr 1
    unfold Bu.end
    refine Prod.ext ?_ ?_
    · simp only; grind
    · simp only; grind
def aheadOf (z : Option Int × List Bu) : Option Int := match z.2.getLast? with | some u => some u.end | none => z.1
/-- the program's filling, step by step -/
def fstep (n : Int) (z : Option Int × List Bu) (b : Bu) : Option Int × List Bu :=
  let w := wholeB n b
  match aheadOf z with
  | none => (z.1, z.2 ++ [w])
  | some e => if w.tick - e > n then (z.1, z.2 ++ [w]) else match z.2.getLast? with
      | none => (some (w.tick + w.on), w.rest.toList)
      | some u => (z.1, wlast z.2.dropLast u ++ [⟨u.end - u.on, w.tick + w.on - (u.end - u.on), 0, 1⟩] ++ w.rest.toList)
theorem fstep_none {n : Int} {z : Option Int × List Bu} {b : Bu} (h : aheadOf z = none) : fstep n z b = (z.1, z.2 ++ [wholeB n b]) := by unfold fstep; simp only; rw [h]
theorem fstep_far {n e : Int} {z : Option Int × List Bu} {b : Bu} (h : aheadOf z = some e) (c : (wholeB n b).tick - e > n) : fstep n z b = (z.1, z.2 ++ [wholeB n b]) := by unfold fstep; simp only; rw [h]; simp only; rw [if_pos c]
theorem fstep_nil {n e : Int} {u : Option Int} {b : Bu} (h : aheadOf (u, []) = some e) (c : ¬ (wholeB n b).tick - e > n) : fstep n (u, []) b = (some ((wholeB n b).tick + (wholeB n b).on), (wholeB n b).rest.toList) := by unfold fstep; simp only; rw [h]; simp only; rw [if_neg c]; rfl
theorem fstep_snoc {n e : Int} {u : Option Int} {f : List Bu} {x b : Bu} (h : aheadOf (u, f ++ [x]) = some e) (c : ¬ (wholeB n b).tick - e > n) : fstep n (u, f ++ [x]) b = (u, wlast f x ++ [⟨x.end - x.on, (wholeB n b).tick + (wholeB n b).on - (x.end - x.on), 0, 1⟩] ++ (wholeB n b).rest.toList) := by unfold fstep; simp only; rw [h]; simp only; rw [if_neg c]; simp
def zOf (z : Option Int × List Bu) : Z := (z.1, z.2.flatMap Bu.runs)
theorem last_runs (u : Option Int) (f : List Bu) (x : Bu) (h : x.ok) : lastEnd (zOf (u, f ++ [x])) = some x.end := by
  unfold zOf
  simp only
  rw [wlast_runs f x h, lastEnd_snoc]
theorem toList_runs (r : Option Bu) : r.toList.flatMap Bu.runs = restRuns r := by cases r <;> simp [restRuns]
theorem fstep_eq {n : Int} {z : Option Int × List Bu} {b : Bu} (hz : OkB z.2) (hb : b.ok) : zOf (fstep n z b) = b.runs.foldl (flR n) (zOf z) := by
  rw [← whole_fl hb, first_fl hb]
  have hok : (wholeB n b).ok := by unfold wholeB; split; exact ⟨by simp, by simp⟩; exact hb
  unfold fstep aheadOf
  simp only
  generalize wholeB n b = w at *
  have rf := runs_first hok
  rcases z with ⟨u, f⟩
  rcases List.eq_nil_or_concat f with rfl | ⟨f', x, rfl⟩
  · cases u with
    | none => simp [zOf, flR_none, rf]
    | some e =>
      simp only [List.getLast?_nil]
      by_cases c : w.tick - e > n
      · rw [if_pos c]
        have : flR n (zOf (some e, [])) (w.tick, w.tick + w.on) = (some e, [(w.tick, w.tick + w.on)]) := by
          show flR n (some e, []) _ = _
          rw [flR_nil, if_neg (by simp only; omega)]
        rw [this]
        simp [zOf, rf]
      · rw [if_neg c]
        have : flR n (zOf (some e, [])) (w.tick, w.tick + w.on) = (some (w.tick + w.on), []) := by
          show flR n (some e, []) _ = _
          rw [flR_nil, if_pos (by simp only; omega)]
        rw [this]
        simp [zOf, toList_runs]
  · rw [List.concat_eq_append] at *
    have hx := hz x (by simp)
    simp only [List.getLast?_append, List.getLast?_singleton, Option.some_or, List.dropLast_concat]
    have e1 : zOf (u, f' ++ [x]) = (u, (wlast f' x).flatMap Bu.runs ++ [(x.end - x.on, x.end)]) := by unfold zOf; simp only; rw [wlast_runs f' x hx]
    by_cases c : w.tick - x.end > n
    · rw [if_pos c, e1, flR_snoc, if_neg (by simp only; omega)]
      unfold zOf
      simp only
      rw [List.flatMap_append, wlast_runs f' x hx]
      simp [rf]
    · rw [if_neg c, e1, flR_snoc, if_pos (by simp only; omega)]
      unfold zOf
      simp only
      rw [List.flatMap_append, List.flatMap_append, toList_runs]
      have r1 : (⟨x.end - x.on, w.tick + w.on - (x.end - x.on), 0, 1⟩ : Bu).runs = [(x.end - x.on, w.tick + w.on)] := by unfold Bu.runs; simp [train]; omega
      simp [r1]
theorem mkb_end (b : Bu) (h : 1 < b.times) : (mkb (b.tick + b.on + b.off) b.on b.off (b.times - 1)).end = b.end := by
  unfold mkb Bu.end
  simp only
  by_cases h2 : b.times - 1 > 1
  · rw [if_pos h2]; grind
  · have h3 : b.times = 2 := by omega
    rw [if_neg h2, h3]; grind
theorem mkb_end' (b : Bu) (h : 1 < b.times) : (mkb b.tick b.on b.off (b.times - 1)).end = b.end - b.on - b.off := by
  unfold mkb Bu.end
  simp only
  by_cases h2 : b.times - 1 > 1
  · rw [if_pos h2]; grind
  · have h3 : b.times = 2 := by omega
    rw [if_neg h2, h3]; grind
theorem rest_fit {M : Int} {b r : Bu} (h : b.fit M) (e : b.rest = some r) : r.fit M ∧ r.end = b.end ∧ b.tick + b.on ≤ r.tick := by
  unfold Bu.rest at e
  have h1 := h.ok.times
  have h2 := h.on
  have h3 := h.off
  have h4 := h.lo
  split at e
  · cases e
  · cases e
    have e2 := mkb_end b (by omega)
    exact ⟨⟨mkb_ok (by omega), h2, by unfold mkb; simp only; split <;> omega, by unfold mkb; simp only; omega, by rw [e2]; exact h.hi⟩, e2, by unfold mkb; simp only; omega⟩
theorem whole_fit {M n : Int} {b : Bu} (h : b.fit M) : (wholeB n b).fit M ∧ (wholeB n b).end = b.end ∧ (wholeB n b).tick = b.tick := by
  unfold wholeB
  split
  · have hm := fit_more h
    have h2 := h.on
    have e : (⟨b.tick, b.end - b.tick, 0, 1⟩ : Bu).end = b.end := by simp only [Bu.end]; omega
    exact ⟨⟨⟨by simp, by simp⟩, by simp only; omega, by simp, h.lo, by rw [e]; exact h.hi⟩, e, rfl⟩
  · exact ⟨h, rfl, rfl⟩
theorem wlast_fit {M t : Int} {f : List Bu} {u : Bu} (h : AddFit M t (f ++ [u])) : AddFit M (u.end - u.on) (wlast f u) ∧ -M ≤ u.end - u.on := by
  have hu := h.fs u (by simp)
  have hm := fit_more hu
  have h1 := hu.ok.times
  have h2 := hu.on
  have h3 := hu.off
  have hch := List.pairwise_append.mp h.ch
  have hlo := hu.lo
  refine ⟨?_, by omega⟩
  unfold wlast
  split
  · refine ⟨fun x hx => h.fs x (List.mem_append_left _ hx), hch.1, fun x hx => ?_⟩
    have := hch.2.2 x (List.mem_of_getLast? hx) u (by simp)
    omega
  · have e := mkb_end' u (by omega)
    have nf : (mkb u.tick u.on u.off (u.times - 1)).fit M := ⟨mkb_ok (by omega), h2, by unfold mkb; simp only; split <;> omega, hlo, by rw [e]; have := hu.hi; omega⟩
    refine ⟨fun x hx => ?_, List.pairwise_append.mpr ⟨hch.1, by simp, fun x hx y hy => ?_⟩, fun x hx => ?_⟩
    · rcases List.mem_append.mp hx with hx | hx
      · exact h.fs x (List.mem_append_left _ hx)
      · simp at hx; subst hx; exact nf
    · simp at hy; subst hy
      exact hch.2.2 x hx u (by simp)
    · simp at hx; subst hx; rw [e]; omega
theorem addFit_snoc {M t : Int} {f : List Bu} {b : Bu} (h : AddFit M t f) (hb : b.fit M) (ht : t ≤ b.tick) : AddFit M b.end (f ++ [b]) := by
  refine ⟨fun x hx => ?_, List.pairwise_append.mpr ⟨h.ch, by simp, fun x hx y hy => ?_⟩, fun x hx => ?_⟩
  · rcases List.mem_append.mp hx with hx | hx
    · exact h.fs x hx
    · simp at hx; subst hx; exact hb
  · simp at hy; subst hy
    rcases List.eq_nil_or_concat f with rfl | ⟨f', u, rfl⟩
    · simp at hx
    · rw [List.concat_eq_append] at *
      have hul := h.l u (by simp)
      rcases List.mem_append.mp hx with hx | hx
      · have a := (List.pairwise_append.mp h.ch).2.2 x hx u (by simp)
        have b := fit_more (h.fs u (by simp))
        have := (h.fs u (by simp)).on
        omega
      · simp at hx; subst hx; omega
  · simp at hx; subst hx; omega
theorem addFit_rest {M : Int} {f : List Bu} {b : Bu} (h : AddFit M (b.tick + b.on) f) (hb : b.fit M) : AddFit M b.end (f ++ b.rest.toList) := by
  cases e : b.rest with
  | none =>
    have hm := fit_more hb
    simp
    exact ⟨h.fs, h.ch, fun u hu => Int.le_trans (h.l u hu) (by omega)⟩
  | some r =>
    obtain ⟨h1, h2, h3⟩ := rest_fit hb e
    have := addFit_snoc h h1 h3
    rw [h2] at this
    simpa using this
theorem fstep_fit {M n t : Int} {z : Option Int × List Bu} {b : Bu} (h : AddFit M t z.2) (hb : b.fit M) (ht : t ≤ b.tick) : AddFit M b.end (fstep n z b).2 := by
  obtain ⟨hw, hwe, hwt⟩ := whole_fit (n := n) hb
  have hm := fit_more hw
  have hon := hw.on
  unfold fstep aheadOf
  simp only
  rw [← hwe]
  rw [← hwt] at ht
  generalize wholeB n b = w at *
  rcases z with ⟨u, f⟩
  simp only at *
  split
  · exact addFit_snoc h hw ht
  · rename_i e he
    split
    · exact addFit_snoc h hw ht
    · rcases List.eq_nil_or_concat f with rfl | ⟨f', x, rfl⟩
      · simp only [List.getLast?_nil]
        have := addFit_rest (f := []) (b := w) ⟨by simp, by simp, by simp⟩ hw
        simpa using this
      · rw [List.concat_eq_append] at *
        simp only [List.getLast?_append, List.getLast?_singleton, Option.some_or, List.dropLast_concat]
        have hx := h.fs x (by simp)
        have hxl := h.l x (by simp)
        have hxm := fit_more hx
        have hxon := hx.on
        obtain ⟨h1, h2⟩ := wlast_fit h
        have e1 : (⟨x.end - x.on, w.tick + w.on - (x.end - x.on), 0, 1⟩ : Bu).end = w.tick + w.on := by unfold Bu.end; simp only; omega
        have nf : (⟨x.end - x.on, w.tick + w.on - (x.end - x.on), 0, 1⟩ : Bu).fit M := ⟨⟨by simp, by simp⟩, by simp only; omega, by simp, h2, by rw [e1]; have := hw.hi; omega⟩
        have s1 := addFit_snoc h1 nf (by simp)
        rw [e1] at s1
        exact addFit_rest s1 hw
theorem fstep_len (n : Int) (z : Option Int × List Bu) (b : Bu) : (fstep n z b).2.length ≤ z.2.length + 2 := by
  have hr : ∀ r : Option Bu, r.toList.length ≤ 1 := fun r => by cases r <;> simp
  unfold fstep aheadOf
  simp only
  split
  · simp
  · split
    · simp
    · rcases z with ⟨u, f⟩
      rcases List.eq_nil_or_concat f with rfl | ⟨f', x, rfl⟩
      · simp only [List.getLast?_nil]; have := hr (wholeB n b).rest; simp; omega
      · rw [List.concat_eq_append]
        simp only [List.getLast?_append, List.getLast?_singleton, Option.some_or, List.dropLast_concat]
        have := hr (wholeB n b).rest
        have : (wlast f' x).length ≤ f'.length + 1 := by unfold wlast; split <;> simp
        simp; omega
end Law
end
section
set_option autoImplicit false
/-! Signals that are in order stay so. -/
namespace Law
open PySem PL
def AO : Tri := ⟨some 0, [], some 0⟩
structure ZF (M : Int) (z : Z) : Prop where
  runs : ∀ r ∈ z.2, RunOk M r
  pw : z.2.Pairwise fun x y => x.2 < y.1
  u : ∀ v, z.1 = some v → -M ≤ v ∧ v ≤ M ∧ ∀ r ∈ z.2, v < r.1
structure WF (M : Int) (t : Tri) : Prop where
  z : ZF M (t.u, t.R)
  s : ∀ w, t.s = some w → -M ≤ w ∧ w ≤ M ∧ ∀ r ∈ t.R, r.2 < w
  us : ∀ v w, t.u = some v → t.s = some w → v < w
theorem zf_snoc {M : Int} {u : Option Int} {l : List Run} {r : Run} : ZF M (u, l ++ [r]) ↔ ZF M (u, l) ∧ RunOk M r ∧ (∀ x ∈ l, x.2 < r.1) ∧ ∀ v, u = some v → v < r.1 := by
  constructor
  · intro h
    have hp := List.pairwise_append.mp h.pw
    exact ⟨⟨fun x hx => h.runs x (List.mem_append_left _ hx), hp.1, fun v hv => ⟨(h.u v hv).1, (h.u v hv).2.1, fun x hx => (h.u v hv).2.2 x (List.mem_append_left _ hx)⟩⟩, h.runs r (by simp), fun x hx => hp.2.2 x hx r (by simp), fun v hv => (h.u v hv).2.2 r (by simp)⟩
  · rintro ⟨h, h1, h2, h3⟩
    refine ⟨fun x hx => ?_, List.pairwise_append.mpr ⟨h.pw, by simp, fun x hx y hy => ?_⟩, fun v hv => ⟨(h.u v hv).1, (h.u v hv).2.1, fun x hx => ?_⟩⟩
    · rcases List.mem_append.mp hx with hx | hx
      · exact h.runs x hx
      · simp at hx; subst hx; exact h1
    · simp at hy; subst hy; exact h2 x hx
    · rcases List.mem_append.mp hx with hx | hx
      · exact (h.u v hv).2.2 x hx
      · simp at hx; subst hx; exact h3 v hv
theorem flR_zf {M n : Int} {z : Z} {r : Run} (h : ZF M z) (hr : RunOk M r) (ho : ∀ e, lastEnd z = some e → e < r.1) : ZF M (flR n z r) := by
  rcases z with ⟨u, l⟩
  have hl := hr.len
  have hlo := hr.lo
  have hhi := hr.hi
  rcases List.eq_nil_or_concat l with rfl | ⟨l', x, rfl⟩
  · cases u with
    | none => rw [flR_none]; exact ⟨by simp; exact hr, by simp, fun v hv => (nomatch hv)⟩
    | some e =>
      have := ho e rfl
      rw [flR_nil]
      split
      · exact ⟨by simp, by simp, fun v hv => by cases hv; exact ⟨by omega, by omega, by simp⟩⟩
      · have hu := h.u e rfl
        exact ⟨by simp; exact hr, by simp, fun v hv => by cases hv; exact ⟨hu.1, hu.2.1, by simp; omega⟩⟩
  · rw [List.concat_eq_append] at *
    have hx := ho x.2 (lastEnd_snoc _ _ _)
    obtain ⟨h1, h2, h3, h4⟩ := zf_snoc.mp h
    have hxl := h2.len
    rw [flR_snoc]
    split
    · exact zf_snoc.mpr ⟨h1, ⟨by simp only; omega, h2.lo, hhi⟩, h3, h4⟩
    · refine zf_snoc.mpr ⟨h, hr, fun y hy => ?_, fun v hv => ?_⟩
      · rcases List.mem_append.mp hy with hy | hy
        · have := h3 y hy; omega
        · simp at hy; subst hy; exact hx
      · have := h4 v hv; omega
theorem fl_zf {M n : Int} (rs : List Run) : ∀ z : Z, ZF M z → (∀ r ∈ rs, RunOk M r) → rs.Pairwise (fun x y => x.2 < y.1) → (∀ e, lastEnd z = some e → ∀ r ∈ rs, e < r.1) →
    ZF M (rs.foldl (flR n) z) ∧ ∀ w, (∀ e, lastEnd z = some e → e < w) → (∀ r ∈ rs, r.2 < w) → ∀ e, lastEnd (rs.foldl (flR n) z) = some e → e < w := by
  induction rs with
  | nil => intro z h _ _ _; exact ⟨h, fun w h _ => h⟩
  | cons r rs ih =>
    intro z h h1 h2 h3
    have hp := List.pairwise_cons.mp h2
    have hz := flR_zf (n := n) h (h1 r List.mem_cons_self) (fun e he => h3 e he r List.mem_cons_self)
    obtain ⟨a, b⟩ := ih (flR n z r) hz (fun x hx => h1 x (List.mem_cons_of_mem _ hx)) hp.2 (fun e he x hx => by rw [flR_last] at he; cases he; exact hp.1 x hx)
    exact ⟨a, fun w _ hw => b w (fun e he => by rw [flR_last] at he; cases he; exact hw r List.mem_cons_self) fun x hx => hw x (List.mem_cons_of_mem _ hx)⟩
theorem lastEnd_mem {z : Z} {e : Int} (h : lastEnd z = some e) : (z.2 = [] ∧ z.1 = some e) ∨ ∃ r ∈ z.2, r.2 = e := by
  rcases z with ⟨u, l⟩
  rcases List.eq_nil_or_concat l with rfl | ⟨l', x, rfl⟩
  · exact .inl ⟨rfl, h⟩
  · rw [List.concat_eq_append] at *
    rw [lastEnd_snoc] at h
    cases h
    exact .inr ⟨x, by simp, rfl⟩
theorem all_lt_last {M : Int} {z : Z} (h : ZF M z) {e : Int} (he : lastEnd z = some e) : ∀ r ∈ z.2, r.2 ≤ e := by
  rcases z with ⟨u, l⟩
  rcases List.eq_nil_or_concat l with rfl | ⟨l', x, rfl⟩
  · simp
  · rw [List.concat_eq_append] at *
    rw [lastEnd_snoc] at he
    cases he
    obtain ⟨_, h2, h3, _⟩ := zf_snoc.mp h
    have := h2.len
    intro r hr
    rcases List.mem_append.mp hr with hr | hr
    · have := h3 r hr; omega
    · simp at hr; subst hr; omega
theorem u_le_last {M : Int} {z : Z} (h : ZF M z) {e v : Int} (he : lastEnd z = some e) (hv : z.1 = some v) : v ≤ e := by
  rcases lastEnd_mem he with ⟨_, h2⟩ | ⟨r, hr, rfl⟩
  · rw [hv] at h2; cases h2; omega
  · have := (h.u v hv).2.2 r hr
    have := (h.runs r hr).len
    omega
theorem lastEnd_some {z : Z} {r : Run} (h : r ∈ z.2) : ∃ e, lastEnd z = some e := by
  rcases z with ⟨u, l⟩
  rcases List.eq_nil_or_concat l with rfl | ⟨l', x, rfl⟩
  · simp at h
  · rw [List.concat_eq_append]; exact ⟨_, lastEnd_snoc _ _ _⟩
theorem lastEnd_some' {u : Option Int} {l : List Run} {v : Int} (h : u = some v) : ∃ e, lastEnd (u, l) = some e := by
  rcases List.eq_nil_or_concat l with rfl | ⟨l', x, rfl⟩
  · exact ⟨v, h⟩
  · rw [List.concat_eq_append]; exact ⟨_, lastEnd_snoc _ _ _⟩
theorem fill_wf {M n : Int} {t : Tri} (h : WF M t) : WF M (fill n t) ∨ fill n t = AO := by
  have h0 : ZF M (t.u, []) := ⟨by simp, by simp, fun v hv => ⟨(h.z.u v hv).1, (h.z.u v hv).2.1, by simp⟩⟩
  obtain ⟨hz, hw⟩ := fl_zf (n := n) t.R (t.u, []) h0 h.z.runs h.z.pw (fun e he r hr => (h.z.u e he).2.2 r hr)
  unfold fill
  simp only
  have hs2 : ∀ w, t.s = some w → ∀ e, lastEnd (t.R.foldl (flR n) (t.u, [])) = some e → e < w := fun w hs => hw w (fun e he => h.us e w he hs) (fun r hr => (h.s w hs).2.2 r hr)
  generalize t.R.foldl (flR n) (t.u, []) = z at *
  have keep : WF M ⟨z.1, z.2, t.s⟩ := by
    refine ⟨hz, fun w hs => ⟨(h.s w hs).1, (h.s w hs).2.1, fun r hr => ?_⟩, fun v w hv hs => ?_⟩
    · obtain ⟨e, he⟩ := lastEnd_some hr
      have a := all_lt_last hz he r hr
      have b := hs2 w hs e he
      omega
    · obtain ⟨e, he⟩ := lastEnd_some' (l := z.2) hv
      have a := u_le_last hz he hv
      have b := hs2 w hs e he
      omega
  cases hs : t.s with
  | none => rw [hs] at keep; left; cases lastEnd z <;> exact keep
  | some w =>
    rw [hs] at keep
    cases he : lastEnd z with
    | none => exact .inl keep
    | some e =>
      simp only
      by_cases c : w - e ≤ n
      · rw [if_pos c]
        rcases z with ⟨u, l⟩
        rcases List.eq_nil_or_concat l with rfl | ⟨l', x, rfl⟩
        · exact .inr rfl
        · rw [List.concat_eq_append] at *
          left
          obtain ⟨h1, h2, h3, h4⟩ := zf_snoc.mp hz
          have := h2.len
          have := h2.lo
          have := h2.hi
          simp only [List.getLast?_append, List.getLast?_singleton, Option.some_or, List.dropLast_concat]
          exact ⟨h1, fun w' hw' => by cases hw'; exact ⟨by omega, by omega, h3⟩, fun v w' hv hw' => by cases hw'; exact h4 v hv⟩
      · rw [if_neg c]
        exact .inl keep
theorem drop_wf {M n : Int} {t : Tri} (h : WF M t) : WF M (drop n t) := by
  refine ⟨⟨fun r hr => h.z.runs r (List.mem_filter.mp hr).1, h.z.pw.filter _, fun v hv => ⟨(h.z.u v hv).1, (h.z.u v hv).2.1, fun r hr => (h.z.u v hv).2.2 r (List.mem_filter.mp hr).1⟩⟩, fun w hw => ⟨(h.s w hw).1, (h.s w hw).2.1, fun r hr => (h.s w hw).2.2 r (List.mem_filter.mp hr).1⟩, h.us⟩
theorem fill_AO {n : Int} (hn : 0 ≤ n) : fill n AO = AO := by
  unfold fill AO
  simp only [List.foldl_nil]
  have e : lastEnd (some 0, []) = some 0 := rfl
  simp [e, hn]
theorem drop_AO (n : Int) : drop n AO = AO := rfl
theorem wf_ok {M : Int} {t : Tri} (h : WF M t) : RunsOk M t.R := ⟨h.z.runs, h.z.pw.imp fun h => Int.le_of_lt h⟩
end Law
end
section
set_option autoImplicit false
/-! Signals as flips: whether it is on at first, and the ticks at which it turns. -/
namespace Law
open PySem PL
abbrev Fl := Bool × List Int
/-- what is taken out: each first and second, if no further apart -/
def rm (n : Int) : List Int → List Int
  | [] => []
  | [a] => [a]
  | a :: b :: l => if b - a ≤ n then rm n l else a :: b :: rm n l
def rm' (n : Int) : List Int → List Int
  | [] => []
  | v :: l => v :: rm n l
def sh (a b : Int) : List Int → List Int
  | [] => []
  | x :: l => (x + a) :: sh b a l
def fD (n : Int) (x : Fl) : Fl := (x.1, if x.1 then rm' n x.2 else rm n x.2)
def fF (n : Int) (x : Fl) : Fl := (x.1, if x.1 then rm n x.2 else rm' n x.2)
def fM (a b : Int) (x : Fl) : Fl := (x.1, if x.1 then sh b a x.2 else sh a b x.2)
def fT (x : Fl) : Fl := (!x.1, x.2)
theorem fD_T (n : Int) (x : Fl) : fD n (fT x) = fT (fF n x) := by rcases x with ⟨b, l⟩; cases b <;> rfl
theorem fF_T (n : Int) (x : Fl) : fF n (fT x) = fT (fD n x) := by rcases x with ⟨b, l⟩; cases b <;> rfl
theorem fM_T (a b : Int) (x : Fl) : fM a b (fT x) = fT (fM b a x) := by rcases x with ⟨c, l⟩; cases c <;> rfl
theorem fT_T (x : Fl) : fT (fT x) = x := by rcases x with ⟨c, l⟩; simp [fT]
/-- apart by more than p and more than q, by turns -/
def alt (p q : Int) : List Int → Prop
  | [] => True
  | [_] => True
  | a :: b :: l => p < b - a ∧ alt q p (b :: l)
def Wd (p q : Int) (x : Fl) : Prop := if x.1 then alt q p x.2 else alt p q x.2
theorem Wd_T {p q : Int} {x : Fl} : Wd p q (fT x) ↔ Wd q p x := by rcases x with ⟨c, l⟩; cases c <;> simp [Wd, fT]
theorem alt_tail {p q a : Int} {l : List Int} (h : alt p q (a :: l)) : alt q p l := by
  cases l with
  | nil => trivial
  | cons b l => exact h.2
theorem alt_cons {p q a : Int} {l : List Int} (h : alt q p l) (h2 : ∀ b r, l = b :: r → p < b - a) : alt p q (a :: l) := by
  cases l with
  | nil => trivial
  | cons b l => exact ⟨h2 b l rfl, h⟩
theorem alt_mono {p q p' q' : Int} (hp : p' ≤ p) (hq : q' ≤ q) : ∀ {l : List Int}, alt p q l → alt p' q' l
  | [], _ => trivial
  | [_], _ => trivial
  | a :: b :: l, h => ⟨by have := h.1; omega, alt_mono hq hp (l := b :: l) h.2⟩
theorem alt_sh {p q : Int} (a b : Int) : ∀ {l : List Int}, alt p q l → alt (p + b - a) (q + a - b) (sh a b l)
  | [], _ => trivial
  | [_], _ => trivial
  | x :: y :: l, h => ⟨by have := h.1; show p + b - a < (y + b) - (x + a); omega, alt_sh b a (l := y :: l) h.2⟩
theorem Wd_M {p q : Int} {x : Fl} (a b : Int) (h : Wd p q x) : Wd (p + b - a) (q + a - b) (fM a b x) := by
  rcases x with ⟨c, l⟩
  cases c
  · exact alt_sh a b h
  · exact alt_sh b a h
theorem rm_sh (n a b : Int) : ∀ l : List Int, rm n (sh a b l) = sh a b (rm (n + a - b) l)
  | [] => rfl
  | [_] => rfl
  | x :: y :: l => by
    have ih := rm_sh n a b l
    have e : sh a b (x :: y :: l) = (x + a) :: (y + b) :: sh a b l := rfl
    rw [e, rm, rm]
    by_cases c : y - x ≤ n + a - b
    · rw [if_pos c, if_pos (by omega), ih]
    · rw [if_neg c, if_neg (by omega), ih]; rfl
theorem rm'_sh (n a b : Int) (l : List Int) : rm' n (sh a b l) = sh a b (rm' (n + b - a) l) := by
  cases l with
  | nil => rfl
  | cons x l => simp only [sh, rm', rm_sh]
theorem fD_M (n a b : Int) (x : Fl) : fD n (fM a b x) = fM a b (fD (n + a - b) x) := by
  rcases x with ⟨c, l⟩
  cases c
  · simp [fD, fM, rm_sh]
  · simp [fD, fM, rm'_sh]
theorem fF_M (n a b : Int) (x : Fl) : fF n (fM a b x) = fM a b (fF (n + b - a) x) := by
  rcases x with ⟨c, l⟩
  cases c
  · simp [fF, fM, rm'_sh]
  · simp [fF, fM, rm_sh]
theorem sh_sh (a b c d : Int) : ∀ l : List Int, sh a b (sh c d l) = sh (a + c) (b + d) l
  | [] => rfl
  | x :: l => by simp only [sh, sh_sh b a d c l]; congr 1; omega
theorem fM_M (a b c d : Int) (x : Fl) : fM a b (fM c d x) = fM (a + c) (b + d) x := by
  rcases x with ⟨e, l⟩
  cases e <;> simp [fM, sh_sh]
theorem sh_zero : ∀ l : List Int, sh 0 0 l = l
  | [] => rfl
  | x :: l => by simp [sh, sh_zero l]
theorem fM_zero (x : Fl) : fM 0 0 x = x := by rcases x with ⟨e, l⟩; cases e <;> simp [fM, sh_zero]
theorem rm_noop {n p q : Int} (h : n ≤ p) : ∀ {l : List Int}, alt p q l → rm n l = l
  | [], _ => rfl
  | [_], _ => rfl
  | a :: b :: l, hl => by
    have h1 := hl.1
    rw [rm, if_neg (by omega), rm_noop h (alt_tail (alt_tail hl))]
theorem rm'_noop {n p q : Int} (h : n ≤ q) {l : List Int} (hl : alt p q l) : rm' n l = l := by
  cases l with
  | nil => rfl
  | cons v l => rw [rm', rm_noop h (alt_tail hl)]
theorem fD_noop {n p q : Int} (h : n ≤ p) {x : Fl} (hx : Wd p q x) : fD n x = x := by
  rcases x with ⟨c, l⟩
  cases c
  · simp only [fD, Bool.false_eq_true, if_false]; rw [rm_noop h hx]
  · simp only [fD, if_true]; rw [rm'_noop h hx]
theorem fF_noop {n p q : Int} (h : n ≤ q) {x : Fl} (hx : Wd p q x) : fF n x = x := by
  have := fD_noop (n := n) h (Wd_T.mpr hx)
  rw [fD_T] at this
  have := congrArg fT this
  rwa [fT_T, fT_T] at this
theorem rm_rm {m n : Int} (h : m ≤ n) : ∀ l : List Int, rm n (rm m l) = rm n l
  | [] => rfl
  | [_] => rfl
  | a :: b :: l => by
    have ih := rm_rm h l
    rw [rm.eq_3 m, rm.eq_3 n]
    by_cases c : b - a ≤ m
    · rw [if_pos c, if_pos (by omega), ih]
    · rw [if_neg c, rm.eq_3 n, ih]
theorem fD_D {m n : Int} (h : m ≤ n) (x : Fl) : fD n (fD m x) = fD n x := by
  rcases x with ⟨c, l⟩
  cases c
  · simp [fD, rm_rm h]
  · cases l with
    | nil => rfl
    | cons v l => simp [fD, rm', rm_rm h]
theorem fF_F {m n : Int} (h : m ≤ n) (x : Fl) : fF n (fF m x) = fF n x := by
  have := fD_D h (fT x)
  rw [fD_T, fD_T, fD_T] at this
  have := congrArg fT this
  rwa [fT_T, fT_T] at this
/-- the first of what stays lies no further to the left -/
theorem rm_head {n p q : Int} (hp : 0 ≤ p) (hq : 0 ≤ q) : ∀ {l : List Int}, alt p q l → ∀ a r b s, l = a :: r → rm n l = b :: s → a ≤ b
  | [], _, a, r, b, s, h, _ => nomatch h
  | [x], _, a, r, b, s, h, h2 => by cases h; cases h2; exact Int.le_refl _
  | x :: y :: l, hl, a, r, b, s, h, h2 => by
    cases h
    rw [rm] at h2
    have h1 := hl.1
    split at h2
    · cases l with
      | nil => simp [rm] at h2
      | cons z l =>
        have := rm_head hp hq (l := z :: l) (alt_tail (alt_tail hl)) z l b s rfl h2
        have h3 := hl.2.1
        omega
    · cases h2; exact Int.le_refl _
theorem rm_alt {n p q : Int} (hp : 0 ≤ p) (hq : 0 ≤ q) (hn : p ≤ n) : ∀ {l : List Int}, alt p q l → alt n q (rm n l)
  | [], _ => trivial
  | [x], _ => trivial
  | x :: y :: l, hl => by
    have ih := rm_alt hp hq hn (alt_tail (alt_tail hl))
    have h1 := hl.1
    rw [rm]
    split
    · exact ih
    · refine ⟨by omega, alt_cons ih ?_⟩
      intro b r hb
      cases l with
      | nil => simp [rm] at hb
      | cons z l =>
        have := rm_head (n := n) hp hq (alt_tail (alt_tail hl)) z l b r rfl hb
        have h3 := hl.2.1
        omega
theorem Wd_D {n p q : Int} (hp : 0 ≤ p) (hq : 0 ≤ q) (hn : p ≤ n) {x : Fl} (h : Wd p q x) : Wd n q (fD n x) := by
  rcases x with ⟨c, l⟩
  cases c
  · exact rm_alt hp hq hn h
  · cases l with
    | nil => trivial
    | cons v l =>
      have h2 : alt p q l := alt_tail h
      refine alt_cons (rm_alt hp hq hn h2) ?_
      intro b r hb
      cases l with
      | nil => simp [rm] at hb
      | cons z l =>
        have := rm_head (n := n) hp hq h2 z l b r rfl hb
        have h3 := h.1
        omega
theorem Wd_F {n p q : Int} (hp : 0 ≤ p) (hq : 0 ≤ q) (hn : q ≤ n) {x : Fl} (h : Wd p q x) : Wd p n (fF n x) := by
  have := Wd_D (x := fT x) hq hp hn (Wd_T.mpr h)
  rw [fD_T] at this
  exact Wd_T.mp this
end Law
end
section
set_option autoImplicit false
/-! What a row's form means is what the row answers. -/
namespace Law
open PySem PL
def fStep (x : Fl) (s : Sg) : Fl := if s.1 then fD s.2 x else fF s.2 x
def fcl (steps : List Sg) (x : Fl) : Fl := steps.foldl fStep x
def fbp (x : Fl) : Part → Fl
  | .turn => fT x
  | .delay k => fM k k x
  | .on k => fM k 0 (fD k x)
  | .off k => fM 0 k (fF k x)
def fans (row : List Part) (x : Fl) : Fl := row.foldl fbp x
def fbare (s : W) (x : Fl) : Fl := fM s.l0 s.l1 (fcl s.st x)
def fmeant (s : W) (x : Fl) : Fl := if s.t then fT (fbare s x) else fbare s x
structure CI (s : W) (x : Fl) : Prop where
  at_ : s.at_ = s.l0 - s.l1
  inv : s.inv
  hi : 0 ≤ s.hi
  lo : s.lo ≤ 0
  wd : Wd s.hi (-s.lo) (fcl s.st x)
  last : ∀ b n, s.st.getLast? = some (b, n) → n ≤ if b then s.hi else -s.lo
theorem fcl_snoc (f : List Sg) (s : Sg) (x : Fl) : fcl (f ++ [s]) x = fStep (fcl f x) s := by unfold fcl; rw [List.foldl_append]; rfl
theorem fcl_ws (f : List Sg) (b : Bool) (n : Int) (x : Fl) (h : ∀ m, f.getLast? = some (b, m) → m ≤ n) : fcl (ws f b n) x = fStep (fcl f x) (b, n) := by
  unfold ws
  rcases List.eq_nil_or_concat f with rfl | ⟨g, ⟨c, m⟩, rfl⟩
  · rfl
  · rw [List.concat_eq_append] at *
    by_cases hc : c = b
    · subst hc
      have hm := h m (by simp)
      simp only [List.getLast?_append, List.getLast?_singleton, Option.some_or, Option.map_some, if_true, List.dropLast_concat]
      rw [fcl_snoc, fcl_snoc]
      cases c
      · exact (fF_F hm _).symm
      · exact (fD_D hm _).symm
    · rw [if_neg (by simpa using hc), fcl_snoc]
theorem getLast_ws (f : List Sg) (b : Bool) (n : Int) : (ws f b n).getLast? = some (b, n) := by unfold ws; simp
theorem U_step {s : W} {x : Fl} (h : CI s x) {k : Int} (hk : 0 ≤ k) : CI (s.U k) x ∧ fbare (s.U k) x = fM k 0 (fD k (fbare s x)) := by
  have h1 := h.inv.h
  have h2 := h.inv.l
  have h3 := h.at_
  have hinv := U_inv h.inv hk
  unfold fbare
  rw [fD_M, fM_M]
  have e1 : k + s.l0 - s.l1 = s.at_ + k := by omega
  rw [e1]
  unfold W.U at hinv ⊢
  by_cases c : s.at_ + k > s.hi
  · rw [if_pos c] at hinv ⊢
    simp only
    have e2 : fcl (ws s.st true (s.at_ + k)) x = fD (s.at_ + k) (fcl s.st x) := fcl_ws _ _ _ _ fun m hm => by have := h.last true m hm; simp at this; omega
    rw [e2]
    refine ⟨⟨by simp only; omega, hinv, by have := h.hi; simp only; omega, h.lo, ?_, ?_⟩, by congr 1 <;> omega⟩
    · simp only; rw [e2]; exact Wd_D h.hi (by have := h.lo; omega) (by omega) h.wd
    · intro b n hb
      simp only [getLast_ws] at hb
      cases hb; simp
  · rw [if_neg c] at hinv ⊢
    simp only
    rw [fD_noop (by omega) h.wd]
    exact ⟨⟨by simp only; omega, hinv, h.hi, h.lo, h.wd, h.last⟩, by congr 1 <;> omega⟩
theorem D_step {s : W} {x : Fl} (h : CI s x) {k : Int} (hk : 0 ≤ k) : CI (s.D k) x ∧ fbare (s.D k) x = fM 0 k (fF k (fbare s x)) := by
  have h1 := h.inv.h
  have h2 := h.inv.l
  have h3 := h.at_
  have hinv := D_inv h.inv hk
  unfold fbare
  rw [fF_M, fM_M]
  have e1 : k + s.l1 - s.l0 = -(s.at_ - k) := by omega
  rw [e1]
  unfold W.D at hinv ⊢
  by_cases c : s.at_ - k < s.lo
  · rw [if_pos c] at hinv ⊢
    simp only
    have e2 : fcl (ws s.st false (-(s.at_ - k))) x = fF (-(s.at_ - k)) (fcl s.st x) := fcl_ws _ _ _ _ fun m hm => by have := h.last false m hm; simp at this; omega
    rw [e2]
    refine ⟨⟨by simp only; omega, hinv, h.hi, by have := h.lo; simp only; omega, ?_, ?_⟩, by congr 1 <;> omega⟩
    · simp only; rw [e2]; exact Wd_F h.hi (by have := h.lo; omega) (by omega) h.wd
    · intro b n hb
      simp only [getLast_ws] at hb
      cases hb; simp
  · rw [if_neg c] at hinv ⊢
    simp only
    rw [fF_noop (by omega) h.wd]
    exact ⟨⟨by simp only; omega, hinv, h.hi, h.lo, h.wd, h.last⟩, by congr 1 <;> omega⟩
theorem W0_CI {x : Fl} (h : Wd 0 0 x) : CI W0 x := ⟨rfl, W0_inv, Int.le_refl _, Int.le_refl _, h, fun _ _ hb => nomatch hb⟩
theorem wk_step {s : W} {x : Fl} (h : CI s x) {p : Part} (hp : 0 ≤ p.num) : CI (wk s p) x ∧ fmeant (wk s p) x = fbp (fmeant s x) p := by
  cases p with
  | turn =>
    rw [wk_turn h.inv]
    refine ⟨⟨h.at_, ⟨h.inv.h, h.inv.l⟩, h.hi, h.lo, h.wd, h.last⟩, ?_⟩
    have e : fbare { s with t := !s.t } x = fbare s x := rfl
    unfold fmeant
    rw [e]
    cases s.t <;> simp [fbp, fT_T]
  | delay k =>
    rw [wk_delay h.inv]
    refine ⟨⟨by have := h.at_; simp only; omega, ⟨h.inv.h, h.inv.l⟩, h.hi, h.lo, h.wd, h.last⟩, ?_⟩
    have e : fbare { s with l0 := s.l0 + k, l1 := s.l1 + k } x = fM k k (fbare s x) := by
      unfold fbare
      rw [fM_M]
      simp only
      congr 1 <;> omega
    unfold fmeant
    rw [e]
    cases s.t <;> simp [fbp, fM_T]
  | on k =>
    simp only [num_on] at hp
    rw [wk_on h.inv hp]
    unfold fmeant
    cases ht : s.t
    · obtain ⟨a, b⟩ := U_step h hp
      have e := U_t s k
      rw [ht] at e
      simp only [Bool.false_eq_true, if_false, fbp, e]
      exact ⟨a, b⟩
    · obtain ⟨a, b⟩ := D_step h hp
      have e := D_t s k
      rw [ht] at e
      simp only [if_true, fbp, e]
      exact ⟨a, by rw [b, fD_T, fM_T]⟩
  | off k =>
    simp only [num_off] at hp
    rw [wk_off h.inv hp]
    unfold fmeant
    cases ht : s.t
    · obtain ⟨a, b⟩ := D_step h hp
      have e := D_t s k
      rw [ht] at e
      simp only [Bool.false_eq_true, if_false, fbp, e]
      exact ⟨a, b⟩
    · obtain ⟨a, b⟩ := U_step h hp
      have e := U_t s k
      rw [ht] at e
      simp only [if_true, fbp, e]
      exact ⟨a, by rw [b, fF_T, fM_T]⟩
theorem meaning {row : List Part} (hr : ∀ p ∈ row, 0 ≤ p.num) {x : Fl} (hx : Wd 0 0 x) : CI (wks row) x ∧ fmeant (wks row) x = fans row x := by
  revert hr
  refine rev_ind (P := fun row => (∀ p ∈ row, 0 ≤ p.num) → CI (wks row) x ∧ fmeant (wks row) x = fans row x) ?_ ?_ row
  · intro _
    exact ⟨W0_CI hx, by show fM 0 0 x = x; exact fM_zero x⟩
  · intro l p ih h
    obtain ⟨a, b⟩ := ih fun q hq => h q (List.mem_append_left _ hq)
    rw [wks_snoc]
    obtain ⟨c, d⟩ := wk_step a (h p (by simp))
    exact ⟨c, by rw [d, b]; unfold fans; rw [List.foldl_append]; rfl⟩
end Law
end
section
set_option autoImplicit false
/-! Flips and triples. -/
namespace Law
open PySem PL
def isAO (t : Tri) : Bool := t.u == some 0 && t.R.isEmpty && t.s == some 0
/-- in order, or always on -/
def Fit2 (M : Int) (t : Tri) : Prop := WF M t ∨ t = AO
theorem wf_notAO {M : Int} {t : Tri} (h : WF M t) : isAO t = false := by
  unfold isAO
  by_cases h1 : t.u = some 0
  · by_cases h2 : t.s = some 0
    · have := h.us 0 0 h1 h2; omega
    · simp [h2]
  · simp [h1]
theorem AO_is : isAO AO = true := rfl
def pair : List Int → List Run × Option Int
  | [] => ([], none)
  | [a] => ([], some a)
  | a :: b :: l => ((a, b) :: (pair l).1, (pair l).2)
def ofF : Fl → Tri
  | (false, l) => ⟨none, (pair l).1, (pair l).2⟩
  | (true, []) => AO
  | (true, v :: l) => ⟨some v, (pair l).1, (pair l).2⟩
def flat : List Run → Option Int → List Int
  | [], none => []
  | [], some w => [w]
  | r :: R, s => r.1 :: r.2 :: flat R s
theorem pair_flat : ∀ (R : List Run) (s : Option Int), pair (flat R s) = (R, s)
  | [], none => rfl
  | [], some w => rfl
  | r :: R, s => by simp only [flat, pair, pair_flat R s]
theorem flat_pair : ∀ l : List Int, flat (pair l).1 (pair l).2 = l
  | [] => rfl
  | [a] => rfl
  | a :: b :: l => by simp only [pair, flat, flat_pair l]
theorem flat_snoc : ∀ (R : List Run) (r : Run) (s : Option Int), flat (R ++ [r]) s = flat R none ++ r.1 :: r.2 :: s.toList
  | [], r, none => rfl
  | [], r, some w => rfl
  | x :: R, r, s => by simp only [List.cons_append, flat, flat_snoc R r s]
theorem flat_some : ∀ (R : List Run) (w : Int), flat R (some w) = flat R none ++ [w]
  | [], w => rfl
  | x :: R, w => by simp only [List.cons_append, flat, flat_some R w]
/-! dropping and filling -/
theorem pair_rm (n : Int) : ∀ l : List Int, pair (rm n l) = ((pair l).1.filter (fun r => decide (r.2 - r.1 > n)), (pair l).2)
  | [] => rfl
  | [a] => rfl
  | a :: b :: l => by
    have ih := pair_rm n l
    rw [rm]
    by_cases c : b - a ≤ n
    · rw [if_pos c, ih]
      simp only [pair, List.filter_cons]
      rw [if_neg (by simp; omega)]
    · rw [if_neg c]
      simp only [pair, ih, List.filter_cons]
      rw [if_pos (by simp; omega)]
theorem drop_ofF (n : Int) (x : Fl) : drop n (ofF x) = ofF (fD n x) := by
  rcases x with ⟨b, l⟩
  cases b
  · simp [fD, ofF, drop, pair_rm]
  · cases l with
    | nil => rfl
    | cons v l => simp [fD, ofF, drop, pair_rm, rm']
/-- what is told of runs, filled up to here, and of the last on -/
def fin (n : Int) (z : Z) (s : Option Int) : Tri := match s with
  | none => ⟨z.1, z.2, none⟩
  | some w => match lastEnd z with
    | none => ⟨z.1, z.2, some w⟩
    | some e => if w - e ≤ n then (match z.2.getLast? with | none => AO | some r => ⟨z.1, z.2.dropLast, some r.1⟩) else ⟨z.1, z.2, some w⟩
theorem fill_fin (n : Int) (t : Tri) : fill n t = fin n (t.R.foldl (flR n) (t.u, [])) t.s := by
  unfold fill fin
  simp only
  generalize t.R.foldl (flR n) (t.u, []) = z
  rcases z with ⟨u, l⟩
  rcases t with ⟨tu, tR, ts⟩
  simp only
  cases ts with
  | none => cases lastEnd (u, l) <;> rfl
  | some w =>
    cases lastEnd (u, l) with
    | none => rfl
    | some e =>
      simp only
      cases l.getLast? <;> rfl
/-- what a beginning is -/
def zF (z : Z) (m : List Int) : Fl := (z.1.isSome, z.1.toList ++ flat z.2 none ++ m)
theorem flat_app : ∀ (R R' : List Run) (s : Option Int), flat R none ++ flat R' s = flat (R ++ R') s
  | [], R', s => rfl
  | x :: R, R', s => by simp only [List.cons_append, flat, flat_app R R' s]
theorem ofF_z (u : Option Int) (R : List Run) (s : Option Int) (h : u.isSome = true ∨ u = none) : ofF (u.isSome, u.toList ++ flat R s) = ⟨u, R, s⟩ := by
  cases u with
  | none => simp [ofF, pair_flat]
  | some v => simp [ofF, pair_flat]
theorem ofF_t (u : Option Int) (R : List Run) (s : Option Int) : ofF (u.isSome, u.toList ++ flat R s) = ⟨u, R, s⟩ := ofF_z u R s (by cases u <;> simp)
theorem fin_snoc (n : Int) (u : Option Int) (l : List Run) (x : Run) (R : List Run) (s : Option Int) : fin n (R.foldl (flR n) (u, l ++ [x])) s = ofF (u.isSome, u.toList ++ flat l none ++ x.1 :: rm n (x.2 :: flat R s)) := by
  induction R generalizing l x with
  | nil =>
    cases s with
    | none =>
      have := ofF_t u (l ++ [x]) none
      rw [flat_snoc] at this
      simp only [Option.toList_none] at this
      simp only [List.foldl_nil, flat, rm, fin]
      rw [List.append_assoc, this]
    | some w =>
      simp only [List.foldl_nil, fin, lastEnd_snoc, flat]
      rw [rm]
      by_cases c : w - x.2 ≤ n
      · rw [if_pos c, if_pos c]
        have := ofF_t u l (some x.1)
        rw [flat_some, ← List.append_assoc] at this
        simp only [List.getLast?_append, List.getLast?_singleton, Option.some_or, List.dropLast_concat]
        rw [← this]; rfl
      · rw [if_neg c, if_neg c]
        have := ofF_t u (l ++ [x]) (some w)
        rw [flat_snoc] at this
        rw [← this]
        simp [rm]
  | cons r R ih =>
    rw [List.foldl_cons, flR_snoc]
    have e : flat (r :: R) s = r.1 :: r.2 :: flat R s := rfl
    rw [e, rm]
    by_cases c : r.1 - x.2 ≤ n
    · rw [if_pos c, if_pos c, ih]
    · rw [if_neg c, if_neg c, ih, flat_snoc]
      simp
theorem fin_head (n : Int) (v : Int) (R : List Run) (s : Option Int) : fin n (R.foldl (flR n) (some v, [])) s = ofF (true, rm n (v :: flat R s)) := by
  induction R generalizing v with
  | nil =>
    cases s with
    | none => rfl
    | some w =>
      simp only [List.foldl_nil, fin, lastEnd_nil, flat]
      rw [rm]
      by_cases c : w - v ≤ n
      · rw [if_pos c, if_pos c]; rfl
      · rw [if_neg c, if_neg c]; rfl
  | cons r R ih =>
    rw [List.foldl_cons, flR_nil]
    have e : flat (r :: R) s = r.1 :: r.2 :: flat R s := rfl
    rw [e, rm]
    by_cases c : r.1 - v ≤ n
    · rw [if_pos c, if_pos c, ih]
    · rw [if_neg c, if_neg c]
      have := fin_snoc n (some v) [] r R s
      simp only [List.nil_append] at this
      rw [this]; rfl
theorem fill_ofF {n : Int} (hn : 0 ≤ n) (x : Fl) : fill n (ofF x) = ofF (fF n x) := by
  rcases x with ⟨b, l⟩
  cases b
  · rw [fill_fin]
    show fin n ((pair l).1.foldl (flR n) (none, [])) (pair l).2 = ofF (false, rm' n l)
    cases l with
    | nil => rfl
    | cons a l =>
      cases l with
      | nil => rfl
      | cons b l =>
        have := fin_snoc n none [] (a, b) (pair l).1 (pair l).2
        rw [flat_pair] at this
        simp only [pair, List.foldl_cons, flR_none]
        exact this
  · cases l with
    | nil => exact fill_AO hn
    | cons v l =>
      rw [fill_fin]
      have := fin_head n v (pair l).1 (pair l).2
      rw [flat_pair] at this
      exact this
/-! in order -/
structure FOk (M : Int) (x : Fl) : Prop where
  wd : Wd 0 0 x
  bd : ∀ v ∈ x.2, -M ≤ v ∧ v ≤ M
theorem alt_asc {p q : Int} (hp : 0 ≤ p) (hq : 0 ≤ q) : ∀ {l : List Int}, alt p q l → l.Pairwise (· < ·)
  | [], _ => List.Pairwise.nil
  | [x], _ => List.pairwise_singleton _ _
  | x :: y :: l, h => by
    have ih := alt_asc hq hp (l := y :: l) h.2
    have h1 := h.1
    refine List.pairwise_cons.mpr ⟨fun z hz => ?_, ih⟩
    rcases List.mem_cons.mp hz with rfl | hz
    · omega
    · have := (List.pairwise_cons.mp ih).1 z hz
      omega
theorem Wd_asc {p q : Int} (hp : 0 ≤ p) (hq : 0 ≤ q) {x : Fl} (h : Wd p q x) : x.2.Pairwise (· < ·) := by
  unfold Wd at h
  split at h
  · exact alt_asc hq hp h
  · exact alt_asc hp hq h
theorem pair_mem : ∀ {l : List Int}, (∀ r ∈ (pair l).1, r.1 ∈ l ∧ r.2 ∈ l) ∧ ∀ w, (pair l).2 = some w → w ∈ l
  | [] => ⟨fun r h => (nomatch h), fun w h => (nomatch h)⟩
  | [a] => ⟨fun r h => (by simp [pair] at h), fun w h => by simp [pair] at h; simp [h]⟩
  | a :: b :: l => by
    obtain ⟨h1, h2⟩ := pair_mem (l := l)
    refine ⟨fun r hr => ?_, fun w hw => ?_⟩
    · simp only [pair, List.mem_cons] at hr
      rcases hr with rfl | hr
      · simp
      · have := h1 r hr
        exact ⟨by simp [this.1], by simp [this.2]⟩
    · simp [h2 w hw]
theorem pair_wf {M : Int} : ∀ {l : List Int}, l.Pairwise (· < ·) → (∀ v ∈ l, -M ≤ v ∧ v ≤ M) → (∀ r ∈ (pair l).1, RunOk M r) ∧ ((pair l).1.Pairwise fun x y => x.2 < y.1) ∧ ∀ w, (pair l).2 = some w → ∀ r ∈ (pair l).1, r.2 < w
  | [], _, _ => ⟨by simp [pair], by simp [pair], fun w hw => nomatch hw⟩
  | [a], _, _ => ⟨by simp [pair], by simp [pair], fun w hw r hr => by simp [pair] at hr⟩
  | a :: b :: l, h, hb => by
    have p1 := List.pairwise_cons.mp h
    have p2 := List.pairwise_cons.mp p1.2
    obtain ⟨h1, h2, h3⟩ := pair_wf p2.2 fun v hv => hb v (by simp [hv])
    obtain ⟨m1, m2⟩ := pair_mem (l := l)
    refine ⟨fun r hr => ?_, ?_, fun w hw r hr => ?_⟩
    · simp only [pair, List.mem_cons] at hr
      rcases hr with rfl | hr
      · exact ⟨p1.1 b (by simp), (hb a (by simp)).1, (hb b (by simp)).2⟩
      · exact h1 r hr
    · exact List.pairwise_cons.mpr ⟨fun r hr => p2.1 _ (m1 r hr).1, h2⟩
    · simp only [pair, List.mem_cons] at hr
      rcases hr with rfl | hr
      · exact p2.1 w (m2 w hw)
      · exact h3 w hw r hr
theorem fok_fit {M : Int} {x : Fl} (h : FOk M x) : Fit2 M (ofF x) := by
  have ha := Wd_asc (Int.le_refl 0) (Int.le_refl 0) h.wd
  have hb := h.bd
  rcases x with ⟨b, l⟩
  simp only at ha hb
  cases b
  · obtain ⟨h1, h2, h3⟩ := pair_wf (M := M) ha hb
    exact .inl ⟨⟨h1, h2, fun v hv => (nomatch hv)⟩, fun w hw => ⟨(hb w (pair_mem.2 w hw)).1, (hb w (pair_mem.2 w hw)).2, h3 w hw⟩, fun v w hv => nomatch hv⟩
  · cases l with
    | nil => exact .inr rfl
    | cons v l =>
      have p1 := List.pairwise_cons.mp ha
      obtain ⟨h1, h2, h3⟩ := pair_wf (M := M) p1.2 fun z hz => hb z (by simp [hz])
      exact .inl ⟨⟨h1, h2, fun z hz => by cases hz; exact ⟨(hb v (by simp)).1, (hb v (by simp)).2, fun r hr => p1.1 _ (pair_mem.1 r hr).1⟩⟩, fun w hw => ⟨(hb w (by simp [pair_mem.2 w hw])).1, (hb w (by simp [pair_mem.2 w hw])).2, h3 w hw⟩, fun z w hz hw => by cases hz; exact p1.1 w (pair_mem.2 w hw)⟩
theorem flat_alt : ∀ (R : List Run) (s : Option Int), (∀ r ∈ R, r.1 < r.2) → (R.Pairwise fun x y => x.2 < y.1) → (∀ w, s = some w → ∀ r ∈ R, r.2 < w) → alt 0 0 (flat R s) ∧ ∀ v, (∀ r ∈ R, v < r.1) → (∀ w, s = some w → v < w) → alt 0 0 (v :: flat R s)
  | [], none, _, _, _ => ⟨trivial, fun _ _ _ => trivial⟩
  | [], some w, _, _, _ => ⟨trivial, fun v _ h => ⟨by have := h w rfl; omega, trivial⟩⟩
  | r :: R, s, h1, h2, h3 => by
    have p := List.pairwise_cons.mp h2
    obtain ⟨a, b⟩ := flat_alt R s (fun x hx => h1 x (by simp [hx])) p.2 fun w hw x hx => h3 w hw x (by simp [hx])
    have c := b r.2 p.1 fun w hw => h3 w hw r (by simp)
    have d : alt 0 0 (flat (r :: R) s) := ⟨by have := h1 r (by simp); omega, c⟩
    exact ⟨d, fun v hv _ => ⟨by have := hv r (by simp); show 0 < r.1 - v; omega, d⟩⟩
theorem flat_mem : ∀ (R : List Run) (s : Option Int) (v : Int), v ∈ flat R s → (∃ r ∈ R, v = r.1 ∨ v = r.2) ∨ s = some v
  | [], none, v, h => nomatch h
  | [], some w, v, h => by simp [flat] at h; exact .inr (by rw [h])
  | r :: R, s, v, h => by
    simp only [flat, List.mem_cons] at h
    rcases h with rfl | rfl | h
    · exact .inl ⟨r, by simp⟩
    · exact .inl ⟨r, by simp⟩
    · rcases flat_mem R s v h with ⟨x, hx, hv⟩ | hs
      · exact .inl ⟨x, by simp [hx], hv⟩
      · exact .inr hs
theorem fit_fok {M : Int} {t : Tri} (h : Fit2 M t) : ∃ x, ofF x = t ∧ FOk M x := by
  rcases h with h | rfl
  · refine ⟨(t.u.isSome, t.u.toList ++ flat t.R t.s), ofF_t _ _ _, ?_, ?_⟩
    · obtain ⟨a, b⟩ := flat_alt t.R t.s (fun r hr => (h.z.runs r hr).len) h.z.pw fun w hw => (h.s w hw).2.2
      cases hu : t.u with
      | none => exact a
      | some v => exact b v (h.z.u v hu).2.2 fun w hw => h.us v w hu hw
    · intro v hv
      rcases List.mem_append.mp hv with hv | hv
      · cases hu : t.u with
        | none => rw [hu] at hv; nomatch hv
        | some u => rw [hu] at hv; simp at hv; subst hv; have := h.z.u v hu; exact ⟨this.1, this.2.1⟩
      · rcases flat_mem _ _ _ hv with ⟨r, hr, rfl | rfl⟩ | hs
        · have := h.z.runs r hr; have := this.len; have := (h.z.runs r hr).lo; have := (h.z.runs r hr).hi; omega
        · have := h.z.runs r hr; have := this.len; have := (h.z.runs r hr).lo; have := (h.z.runs r hr).hi; omega
        · have := h.s v hs; exact ⟨this.1, this.2.1⟩
  · exact ⟨(true, []), rfl, trivial, fun v hv => nomatch hv⟩
end Law
end
section
set_option autoImplicit false
/-! The law's runs: pairs of a beginning and an end, None where there is none. -/
namespace Law
open PySem PL
abbrev ER := Option Int × Option Int
def ER.pv (r : ER) : PV := .tup [opt r.1, opt r.2]
def er (r : Run) : ER := (some r.1, some r.2)
def headE : Option Int → List ER
  | none => []
  | some u => [(none, some u)]
def tailE : Option Int → List ER
  | none => []
  | some s => [(some s, none)]
def lawT (t : Tri) : List ER := headE t.u ++ t.R.map er ++ tailE t.s
def lawL (t : Tri) : List ER := if isAO t then [(none, none)] else lawT t
/-- filling of such lists -/
def lf (n : Int) (acc : List ER) (r : ER) : List ER := match acc.getLast? with
  | none => acc ++ [r]
  | some l => match r.1, l.2 with
    | some b, some e => if b - e ≤ n then acc.dropLast ++ [(l.1, r.2)] else acc ++ [r]
    | _, _ => acc ++ [r]
theorem lf_snoc (n : Int) (acc : List ER) (l r : ER) : lf n (acc ++ [l]) r = (match r.1, l.2 with
    | some b, some e => if b - e ≤ n then acc ++ [(l.1, r.2)] else acc ++ [l] ++ [r]
    | _, _ => acc ++ [l] ++ [r]) := by
  unfold lf
  simp
def accE (z : Z) : List ER := headE z.1 ++ z.2.map er
theorem accE_snoc (u : Option Int) (l : List Run) (r : Run) : accE (u, l ++ [r]) = accE (u, l) ++ [er r] := by simp [accE]
theorem lf_flR (n : Int) (z : Z) (r : Run) : lf n (accE z) (er r) = accE (flR n z r) := by
  rcases z with ⟨u, l⟩
  rcases List.eq_nil_or_concat l with rfl | ⟨l', x, rfl⟩
  · cases u with
    | none => rfl
    | some e =>
      rw [flR_nil]
      have : accE (some e, []) = [] ++ [(none, some e)] := rfl
      rw [this, lf_snoc]
      simp only [er]
      split <;> rfl
  · rw [List.concat_eq_append, flR_snoc, accE_snoc, lf_snoc]
    simp only [er]
    split
    · rw [accE_snoc]; rfl
    · rw [accE_snoc, accE_snoc]; rfl
theorem lf_fold (n : Int) (rs : List Run) : ∀ z : Z, (rs.map er).foldl (lf n) (accE z) = accE (rs.foldl (flR n) z) := by
  induction rs with
  | nil => intro z; rfl
  | cons r rs ih => intro z; rw [List.map_cons, List.foldl_cons, lf_flR, ih, List.foldl_cons]
theorem lf_fill {M n : Int} (hn : 0 ≤ n) {t : Tri} (h : WF M t) : (lawT t).foldl (lf n) [] = lawL (fill n t) := by
  have e0 : (headE t.u).foldl (lf n) [] = accE (t.u, []) := by cases t.u <;> rfl
  unfold lawT
  rw [List.foldl_append, List.foldl_append, e0, lf_fold]
  have h0 : ZF M (t.u, []) := ⟨by simp, by simp, fun v hv => ⟨(h.z.u v hv).1, (h.z.u v hv).2.1, by simp⟩⟩
  obtain ⟨hz, _⟩ := fl_zf (n := n) t.R (t.u, []) h0 h.z.runs h.z.pw (fun e he r hr => (h.z.u e he).2.2 r hr)
  unfold fill
  simp only
  generalize t.R.foldl (flR n) (t.u, []) = z at *
  cases hs : t.s with
  | none =>
    cases lastEnd z <;> simp [tailE, lawL, isAO, lawT, accE]
  | some w =>
    simp only [tailE, List.foldl_cons, List.foldl_nil]
    rcases z with ⟨u, l⟩
    rcases List.eq_nil_or_concat l with rfl | ⟨l', x, rfl⟩
    · cases u with
      | none => simp [accE, headE, lf, lastEnd, lawL, isAO, lawT, tailE]
      | some e =>
        have e2 : accE (some e, []) = [] ++ [(none, some e)] := rfl
        have e3 : lastEnd (some e, []) = some e := rfl
        rw [e2, lf_snoc, e3]
        simp only
        by_cases c : w - e ≤ n
        · rw [if_pos c, if_pos c]; rfl
        · rw [if_neg c, if_neg c]
          have hne : ¬ (e = 0 ∧ w = 0) := by omega
          have : isAO ⟨some e, [], some w⟩ = false := by
            unfold isAO
            by_cases h1 : e = 0
            · have : ¬ w = 0 := fun h2 => hne ⟨h1, h2⟩
              simp [this]
            · simp [h1]
          simp [lawL, this, lawT, headE, tailE]
    · rw [List.concat_eq_append] at *
      obtain ⟨h1, h2, h3, h4⟩ := zf_snoc.mp hz
      rw [accE_snoc, lf_snoc, lastEnd_snoc]
      simp only [er, List.getLast?_append, List.getLast?_singleton, Option.some_or, List.dropLast_concat]
      by_cases c : w - x.2 ≤ n
      · rw [if_pos c, if_pos c]
        have : isAO ⟨u, l', some x.1⟩ = false := by
          unfold isAO
          by_cases a1 : u = some 0
          · have := h4 0 a1
            have a2 : ¬ x.1 = 0 := by omega
            simp [a2]
          · simp [a1]
        simp [lawL, this, lawT, accE, tailE]
      · rw [if_neg c, if_neg c]
        have : isAO ⟨u, l' ++ [x], some w⟩ = false := by unfold isAO; simp
        simp [lawL, this, lawT, accE, tailE, er]
theorem ER_data (r : ER) : (ER.pv r).data = true := by
  rcases r with ⟨a, b⟩
  cases a <;> cases b <;> simp [ER.pv, opt]
def Small (M : Int) (r : ER) : Prop := (∀ v, r.1 = some v → -M ≤ v ∧ v ≤ M) ∧ ∀ v, r.2 = some v → -M ≤ v ∧ v ≤ M
structure LOk (M : Int) (L : List ER) : Prop where
  sm : ∀ r ∈ L, Small M r
  nx : ∀ i x y, L[i]? = some x → L[i + 1]? = some y → (∃ e, x.2 = some e) ∧ ∃ b, y.1 = some b
theorem ER_sm {M : Int} (hM : Big M) {r : ER} (h : Small M r) : (ER.pv r).pd.sm = true := by
  have hm := hM.2
  have e2 : (10 ^ 100 : Int) < 10 ^ 200 := by decide +kernel
  have s : ∀ z : Int, -M ≤ z → z ≤ M → z.natAbs.log2 < 1920 := fun z a b => log_sml (by show z.natAbs < 10 ^ 200; omega)
  rcases r with ⟨a, b⟩
  cases a with
  | none =>
    cases b with
    | none => simp [ER.pv, opt]
    | some b => have := h.2 b rfl; simp [ER.pv, opt, s b this.1 this.2]
  | some a =>
    have ha := h.1 a rfl
    cases b with
    | none => simp [ER.pv, opt, s a ha.1 ha.2]
    | some b => have := h.2 b rfl; simp [ER.pv, opt, s b this.1 this.2, s a ha.1 ha.2]
theorem ER_dp (r : ER) : (ER.pv r).pd.depth = 1 := by
  rcases r with ⟨a, b⟩
  cases a <;> cases b <;> simp [ER.pv, opt]
theorem ER_wt (r : ER) : (ER.pv r).pd.wt = 3 := by
  rcases r with ⟨a, b⟩
  cases a <;> cases b <;> simp [ER.pv, opt]
theorem ers_ne {M : Int} (hM : Big M) {f : List ER} (hf : ∀ b ∈ f, Small M b) {μ : Mem} {a n : Nat} (ha : μ[a]? = some (.lst (f.map ER.pv))) (hn : μ[n]? = some (.lst [])) : fNe [.ref a, .ref n] μ = .ok (.bl (!f.isEmpty)) μ := by
  rw [fNe_nil ha hn (datas_map _ ER_data f) (sms_map _ _ fun b hb => ER_sm hM (hf b hb)) (dps_map _ _ _ fun b _ => by rw [ER_dp b]; decide)]
  simp
theorem lf_last (n : Int) (acc : List ER) (r : ER) : ∃ l, (lf n acc r).getLast? = some l ∧ l.2 = r.2 := by
  rcases List.eq_nil_or_concat acc with rfl | ⟨acc', l, rfl⟩
  · exact ⟨r, rfl, rfl⟩
  · rw [List.concat_eq_append, lf_snoc]
    split
    · split
      · exact ⟨(l.1, r.2), by simp, rfl⟩
      · exact ⟨r, by simp, rfl⟩
    · exact ⟨r, by simp, rfl⟩
theorem lf_small {M n : Int} {acc : List ER} {r : ER} (h : ∀ x ∈ acc, Small M x) (hr : Small M r) : ∀ x ∈ lf n acc r, Small M x := by
  rcases List.eq_nil_or_concat acc with rfl | ⟨acc', l, rfl⟩
  · intro x hx; simp [lf] at hx; subst hx; exact hr
  · rw [List.concat_eq_append] at *
    have hl := h l (by simp)
    have h' : ∀ x ∈ acc', Small M x := fun x hx => h x (List.mem_append_left _ hx)
    have hn : ∀ x ∈ acc' ++ [l] ++ [r], Small M x := fun x hx => by
      rcases List.mem_append.mp hx with hx | hx
      · exact h x hx
      · simp at hx; subst hx; exact hr
    rw [lf_snoc]
    split
    · split
      · intro x hx
        rcases List.mem_append.mp hx with hx | hx
        · exact h' x hx
        · simp at hx; subst hx; exact ⟨hl.1, hr.2⟩
      · exact hn
    · exact hn
theorem lf_len (n : Int) (acc : List ER) (r : ER) : (lf n acc r).length ≤ acc.length + 1 := by
  unfold lf
  split
  · simp
  · split
    · split
      · simp
      · simp
    · simp
theorem tt_er (r : Tgs) (x : ER) (env : PL.Env) (μ : Mem) : tt 2 r (ER.pv x) env μ = r [opt x.1, opt x.2] env μ := by simp [ER.pv]
theorem ix_er1 (x : ER) (μ : Mem) : fIx [ER.pv x, .int 1] μ = .ok (opt x.2) μ := by simp [ER.pv]
theorem ix_er0 (x : ER) (μ : Mem) : fIx [ER.pv x, .int 0] μ = .ok (opt x.1) μ := by simp [ER.pv]
/-- what a dropping step keeps -/
def keepE (n : Int) (r : ER) : Bool := match r.1, r.2 with
  | some b, some e => decide (n < e - b)
  | _, _ => true
theorem lawT_drop {n : Int} (t : Tri) : (lawT t).filter (keepE n) = lawT (drop n t) := by
  unfold lawT drop
  rw [List.filter_append, List.filter_append]
  have h1 : (headE t.u).filter (keepE n) = headE t.u := by cases t.u <;> rfl
  have h3 : (tailE t.s).filter (keepE n) = tailE t.s := by cases t.s <;> rfl
  have h2 : (t.R.map er).filter (keepE n) = (t.R.filter fun r => decide (r.2 - r.1 > n)).map er := by
    rw [List.filter_map]
    rfl
  rw [h1, h2, h3]
theorem lawT_LOk {M : Int} {t : Tri} (h : WF M t) : LOk M (lawT t) := by
  constructor
  · intro r hr
    unfold lawT at hr
    rcases List.mem_append.mp hr with hr | hr
    · rcases List.mem_append.mp hr with hr | hr
      · cases hu : t.u with
        | none => rw [hu] at hr; simp [headE] at hr
        | some u =>
          rw [hu] at hr
          simp [headE] at hr
          subst hr
          have := h.z.u u hu
          exact ⟨fun v hv => (nomatch hv), fun v hv => by cases hv; exact ⟨this.1, this.2.1⟩⟩
      · obtain ⟨x, hx, rfl⟩ := List.mem_map.mp hr
        have := h.z.runs x hx
        have h1 := this.len
        have h2 := this.lo
        have h3 := this.hi
        exact ⟨fun v hv => by cases hv; omega, fun v hv => by cases hv; omega⟩
    · cases hs : t.s with
      | none => rw [hs] at hr; simp [tailE] at hr
      | some w =>
        rw [hs] at hr
        simp [tailE] at hr
        subst hr
        have := h.s w hs
        exact ⟨fun v hv => by cases hv; exact ⟨this.1, this.2.1⟩, fun v hv => (nomatch hv)⟩
  · intro i x y hx hy
    have hH : (headE t.u).length ≤ 1 := by cases t.u <;> simp [headE]
    have hT : (tailE t.s).length ≤ 1 := by cases t.s <;> simp [tailE]
    unfold lawT at hx hy
    have hlt := (List.getElem?_eq_some_iff.mp hy).1
    rw [List.length_append] at hlt
    constructor
    · rw [List.getElem?_append_left (by omega)] at hx
      have hm := List.mem_of_getElem? hx
      rcases List.mem_append.mp hm with hm | hm
      · cases hu : t.u with
        | none => rw [hu] at hm; simp [headE] at hm
        | some u => rw [hu] at hm; simp [headE] at hm; subst hm; exact ⟨u, rfl⟩
      · obtain ⟨r, _, rfl⟩ := List.mem_map.mp hm
        exact ⟨r.2, rfl⟩
    · rw [List.append_assoc, List.getElem?_append_right (by omega)] at hy
      have hm := List.mem_of_getElem? hy
      rcases List.mem_append.mp hm with hm | hm
      · obtain ⟨r, _, rfl⟩ := List.mem_map.mp hm
        exact ⟨r.1, rfl⟩
      · cases hs : t.s with
        | none => rw [hs] at hm; simp [tailE] at hm
        | some u => rw [hs] at hm; simp [tailE] at hm; subst hm; exact ⟨u, rfl⟩
theorem lawL_len (t : Tri) : (lawL t).length ≤ t.R.length + 2 := by
  unfold lawL
  split
  · simp
  · unfold lawT
    have hH : (headE t.u).length ≤ 1 := by cases t.u <;> simp [headE]
    have hT : (tailE t.s).length ≤ 1 := by cases t.s <;> simp [tailE]
    simp; omega
theorem lawL_LOk {M : Int} (hM : 0 ≤ M) {t : Tri} (h : Fit2 M t) : LOk M (lawL t) := by
  rcases h with h | rfl
  · unfold lawL; rw [wf_notAO h]; exact lawT_LOk h
  · refine ⟨fun r hr => ?_, fun i x y hx hy => ?_⟩
    · simp [lawL, AO_is] at hr; subst hr; exact ⟨fun v hv => (nomatch hv), fun v hv => (nomatch hv)⟩
    · have := (List.getElem?_eq_some_iff.mp hy).1
      simp [lawL, AO_is] at this
theorem lf_lawL {M n : Int} (hn : 0 ≤ n) {t : Tri} (h : Fit2 M t) : (lawL t).foldl (lf n) [] = lawL (fill n t) := by
  rcases h with h | rfl
  · have : lawL t = lawT t := by unfold lawL; rw [wf_notAO h]; rfl
    rw [this]; exact lf_fill hn h
  · rw [fill_AO hn]; rfl
theorem drop_lawL {M n : Int} {t : Tri} (h : Fit2 M t) : (lawL t).filter (keepE n) = lawL (drop n t) := by
  rcases h with h | rfl
  · have e1 : lawL t = lawT t := by unfold lawL; rw [wf_notAO h]; rfl
    have e2 : lawL (drop n t) = lawT (drop n t) := by unfold lawL; rw [wf_notAO (drop_wf h)]; rfl
    rw [e1, e2, lawT_drop]
  · rw [drop_AO]; rfl
end Law
end
section
set_option autoImplicit false
/-! The program's moves of signals, in flips: plain part. -/
namespace Law
open PySem PL
theorem pair_len : ∀ l : List Int, 2 * (pair l).1.length ≤ l.length
  | [] => by simp [pair]
  | [a] => by simp [pair]
  | a :: b :: l => by have := pair_len l; simp [pair]; omega
theorem ofF_len (x : Fl) : 2 * (ofF x).R.length ≤ x.2.length := by
  rcases x with ⟨b, l⟩
  cases b
  · exact pair_len l
  · cases l with
    | nil => simp [ofF, AO]
    | cons v l => have := pair_len l; simp [ofF]; omega
theorem rm_len (n : Int) : ∀ l : List Int, (rm n l).length ≤ l.length
  | [] => Nat.le_refl _
  | [_] => Nat.le_refl _
  | a :: b :: l => by
    have := rm_len n l
    rw [rm]
    split <;> simp <;> omega
theorem fD_len (n : Int) (x : Fl) : (fD n x).2.length ≤ x.2.length := by
  rcases x with ⟨b, l⟩
  cases b
  · exact rm_len n l
  · cases l with
    | nil => exact Nat.le_refl _
    | cons v l => have := rm_len n l; simp [fD, rm']; omega
theorem fF_len (n : Int) (x : Fl) : (fF n x).2.length ≤ x.2.length := by
  have := fD_len n (fT x)
  rw [fD_T] at this
  exact this
theorem sh_len : ∀ (a b : Int) (l : List Int), (sh a b l).length = l.length
  | _, _, [] => rfl
  | a, b, x :: l => by simp [sh, sh_len b a l]
theorem fM_len (a b : Int) (x : Fl) : (fM a b x).2.length = x.2.length := by rcases x with ⟨c, l⟩; cases c <;> simp [fM, sh_len]
theorem fbp_len (x : Fl) (p : Part) : (fbp x p).2.length ≤ x.2.length := by
  cases p with
  | turn => exact Nat.le_refl _
  | delay k => simp [fbp, fM_len]
  | on k => simp only [fbp, fM_len]; exact fD_len _ _
  | off k => simp only [fbp, fM_len]; exact fF_len _ _
theorem fStep_len (x : Fl) (s : Sg) : (fStep x s).2.length ≤ x.2.length := by
  unfold fStep; split
  · exact fD_len _ _
  · exact fF_len _ _
theorem fcl_len (st : List Sg) : ∀ x : Fl, (fcl st x).2.length ≤ x.2.length := by
  induction st with
  | nil => intro x; exact Nat.le_refl _
  | cons s st ih => intro x; exact Nat.le_trans (ih (fStep x s)) (fStep_len x s)
/-! bounds -/
theorem rm_mem (n : Int) : ∀ {l : List Int} {v : Int}, v ∈ rm n l → v ∈ l
  | [], _, h => h
  | [_], _, h => h
  | a :: b :: l, v, h => by
    rw [rm] at h
    split at h
    · have := rm_mem n h; simp [this]
    · simp only [List.mem_cons] at h ⊢
      rcases h with h | h | h
      · exact .inl h
      · exact .inr (.inl h)
      · exact .inr (.inr (rm_mem n h))
theorem rm'_mem (n : Int) {l : List Int} {v : Int} (h : v ∈ rm' n l) : v ∈ l := by
  cases l with
  | nil => exact h
  | cons a l =>
    simp only [rm', List.mem_cons] at h ⊢
    rcases h with h | h
    · exact .inl h
    · exact .inr (rm_mem n h)
theorem fD_mem {n : Int} {x : Fl} {v : Int} (h : v ∈ (fD n x).2) : v ∈ x.2 := by
  rcases x with ⟨b, l⟩
  cases b
  · exact rm_mem n h
  · exact rm'_mem n h
theorem fF_mem {n : Int} {x : Fl} {v : Int} (h : v ∈ (fF n x).2) : v ∈ x.2 := by
  have : v ∈ (fT (fF n x)).2 := h
  rw [← fD_T] at this
  exact fD_mem (x := fT x) this
theorem sh_bd {M K : Int} : ∀ {a b : Int} {l : List Int}, (-K ≤ a ∧ a ≤ K) → (-K ≤ b ∧ b ≤ K) → (∀ v ∈ l, -M ≤ v ∧ v ≤ M) → ∀ v ∈ sh a b l, -(M + K) ≤ v ∧ v ≤ M + K
  | _, _, [], _, _, _, v, h => (nomatch h)
  | a, b, x :: l, ha, hb, h, v, hv => by
    simp only [sh, List.mem_cons] at hv
    rcases hv with rfl | hv
    · have := h x (by simp); omega
    · exact sh_bd hb ha (fun z hz => h z (by simp [hz])) v hv
theorem Wd_mono {p q p' q' : Int} {x : Fl} (h : Wd p q x) (hp : p' ≤ p) (hq : q' ≤ q) : Wd p' q' x := by
  unfold Wd at *
  split at h
  · rw [if_pos ‹_›]; exact alt_mono hq hp h
  · rw [if_neg ‹_›]; exact alt_mono hp hq h
theorem fM_bd {M K a b : Int} {x : Fl} (ha : -K ≤ a ∧ a ≤ K) (hb : -K ≤ b ∧ b ≤ K) (h : ∀ v ∈ x.2, -M ≤ v ∧ v ≤ M) : ∀ v ∈ (fM a b x).2, -(M + K) ≤ v ∧ v ≤ M + K := by
  rcases x with ⟨c, l⟩
  cases c
  · exact sh_bd ha hb h
  · exact sh_bd hb ha h
theorem FOk.mono {M N : Int} {x : Fl} (h : FOk M x) (l : M ≤ N) : FOk N x := ⟨h.wd, fun v hv => by have := h.bd v hv; omega⟩
theorem fD_ok {M n : Int} {x : Fl} (h : FOk M x) (hn : 0 ≤ n) : FOk M (fD n x) := ⟨Wd_mono (Wd_D (Int.le_refl 0) (Int.le_refl 0) hn h.wd) hn (Int.le_refl 0), fun v hv => h.bd v (fD_mem hv)⟩
theorem fF_ok {M n : Int} {x : Fl} (h : FOk M x) (hn : 0 ≤ n) : FOk M (fF n x) := ⟨Wd_mono (Wd_F (Int.le_refl 0) (Int.le_refl 0) hn h.wd) (Int.le_refl 0) hn, fun v hv => h.bd v (fF_mem hv)⟩
theorem fStep_ok {M : Int} {x : Fl} {s : Sg} (h : FOk M x) (hn : 0 ≤ s.2) : FOk M (fStep x s) := by
  unfold fStep; split
  · exact fD_ok h hn
  · exact fF_ok h hn
theorem fcl_ok {M : Int} (st : List Sg) : ∀ {x : Fl}, FOk M x → (∀ s ∈ st, 0 ≤ s.2) → FOk M (fcl st x) := by
  induction st with
  | nil => intro x h _; exact h
  | cons s st ih => intro x h hs; exact ih (fStep_ok h (hs s (by simp))) fun z hz => hs z (by simp [hz])
theorem fM_same {M K k : Int} {x : Fl} (h : FOk M x) (hk : -K ≤ k ∧ k ≤ K) : FOk (M + K) (fM k k x) := ⟨by have := Wd_M k k h.wd; exact Wd_mono this (by omega) (by omega), fM_bd hk hk h.bd⟩
theorem fT_ok {M : Int} {x : Fl} (h : FOk M x) : FOk M (fT x) := ⟨Wd_T.mpr h.wd, h.bd⟩
theorem on1_ok {M n : Int} {x : Fl} (h : FOk M x) (hn : 0 ≤ n) : FOk (M + n) (fM 0 (-n) (fD n x)) := ⟨by have := Wd_M 0 (-n) (Wd_D (Int.le_refl 0) (Int.le_refl 0) hn h.wd); exact Wd_mono this (by omega) (by omega), fM_bd (by omega) (by omega) (fD_ok h hn).bd⟩
theorem off1_ok {M n : Int} {x : Fl} (h : FOk M x) (hn : 0 ≤ n) : FOk (M + n) (fM 0 n (fF n x)) := ⟨by have := Wd_M 0 n (Wd_F (Int.le_refl 0) (Int.le_refl 0) hn h.wd); exact Wd_mono this (by omega) (by omega), fM_bd (by omega) (by omega) (fF_ok h hn).bd⟩
theorem fbp_ok {M B : Int} {x : Fl} {p : Part} (h : FOk M x) (hp : p.ok B) : FOk (M + B) (fbp x p) := by
  have h1 := hp.1
  have h2 := hp.2
  cases p with
  | turn => exact (fT_ok h).mono (by simp only [num_turn] at h2; omega)
  | delay k => simp only [num_delay] at h1 h2; exact (fM_same (K := k) h (by omega)).mono (by omega)
  | on k =>
    simp only [num_on] at h1 h2
    have := Wd_M k 0 (Wd_D (Int.le_refl 0) (Int.le_refl 0) h1 h.wd)
    exact ⟨Wd_mono this (by omega) (by omega), fun v hv => by have := fM_bd (K := k) (by omega) (by omega) (fD_ok h h1).bd v hv; omega⟩
  | off k => simp only [num_off] at h1 h2; exact (off1_ok h h1).mono (by omega)
theorem fans_ok {B : Int} (hB : 0 ≤ B) (row : List Part) : ∀ {M : Int} {x : Fl}, FOk M x → (∀ p ∈ row, p.ok B) → FOk (M + row.length * B) (fans row x) := by
  induction row with
  | nil => intro M x h _; simpa [fans] using h
  | cons p row ih =>
    intro M x h hr
    have h2 := ih (fbp_ok h (hr p (by simp))) fun q hq => hr q (by simp [hq])
    have e : (M + B) + (row.length : Int) * B = M + ((p :: row).length : Int) * B := by simp only [List.length_cons]; push_cast; grind
    rw [e] at h2
    exact h2
theorem fans_len (row : List Part) : ∀ x : Fl, (fans row x).2.length ≤ x.2.length := by
  induction row with
  | nil => intro x; exact Nat.le_refl _
  | cons p row ih => intro x; exact Nat.le_trans (ih (fbp x p)) (fbp_len x p)
/-! bursts that are moved -/
def mvB (a b : Int) (u : Bu) : Bu := mkb (u.tick + a) (u.on + b - a) (u.off + a - b) u.times
def mvR (a b : Int) (r : Run) : Run := (r.1 + a, r.2 + b)
theorem mvB_end (a b : Int) {u : Bu} (h : u.ok) : (mvB a b u).end = u.end + b := by
  have h1 := h.times
  unfold mvB mkb Bu.end
  simp only
  by_cases c : u.times > 1
  · rw [if_pos c]; grind
  · have e : u.times = 1 := by omega
    rw [if_neg c, e]; omega
theorem mvB_takes (a b : Int) {u : Bu} (h : u.ok) (t n : Int) : takes (mvB a b u) (t + a) (n + b - a) = takes u t n := by
  have h1 := h.times
  unfold takes
  rw [mvB_end a b h]
  have e1 : (mvB a b u).on = u.on + b - a := rfl
  have e2 : (mvB a b u).times = u.times := rfl
  have e3 : (mvB a b u).off = if u.times > 1 then u.off + a - b else 0 := rfl
  rw [e1, e2, e3]
  have d1 : decide (u.on + b - a = n + b - a) = decide (u.on = n) := by congr 1; simp only [eq_iff_iff]; omega
  rw [d1]
  by_cases c : u.times > 1
  · rw [if_pos c]
    have d2 : decide (u.off + a - b = t + a - (u.end + b)) = decide (u.off = t - u.end) := by congr 1; simp only [eq_iff_iff]; omega
    rw [d2]
  · have e : u.times = 1 := by omega
    simp [e]
theorem add_mv (a b : Int) (f : List Bu) (hf : OkB f) (r : Run) : add (f.map (mvB a b)) (mvR a b r) = (add f r).map (mvB a b) := by
  rcases List.eq_nil_or_concat f with rfl | ⟨f', u, rfl⟩
  · show [one (mvR a b r)] = [mvB a b (one r)]
    simp only [one, mvR, mvB, mkb]
    congr 2
    omega
  · rw [List.concat_eq_append] at *
    have hu := hf u (by simp)
    rw [List.map_append, List.map_cons, List.map_nil, add_snoc, add_snoc]
    have e : (mvR a b r).2 - (mvR a b r).1 = (r.2 - r.1) + b - a := by simp only [mvR]; omega
    have e2 : (mvR a b r).1 = r.1 + a := rfl
    rw [e, e2, mvB_takes a b hu]
    have h1 := hu.times
    by_cases c : takes u r.1 (r.2 - r.1) = true
    · rw [if_pos c, if_pos c, mvB_end a b hu]
      simp only [List.map_append, List.map_cons, List.map_nil]
      congr 2
      simp only [mvB, mkb]
      rw [if_pos (by omega : u.times + 1 > 1)]
      congr 1
      omega
    · rw [if_neg c, if_neg c]
      simp only [List.map_append, List.map_cons, List.map_nil]
      congr 2
      simp only [one, mvR, mvB, mkb]
      congr 1
      all_goals omega
theorem adds_mv (a b : Int) (rs : List Run) : ∀ f : List Bu, OkB f → adds (f.map (mvB a b)) (rs.map (mvR a b)) = (adds f rs).map (mvB a b) := by
  induction rs with
  | nil => intro f _; rfl
  | cons r rs ih =>
    intro f hf
    rw [List.map_cons, adds_cons, adds_cons, add_mv a b f hf, ih _ (add_runs f r hf).2]
theorem group_mv (a b : Int) (rs : List Run) : group (rs.map (mvR a b)) = (group rs).map (mvB a b) := adds_mv a b rs [] (fun _ h => (nomatch h))
theorem pair_sh : ∀ (a b : Int) (l : List Int), pair (sh a b l) = ((pair l).1.map (mvR a b), (pair l).2.map (· + a))
  | _, _, [] => rfl
  | _, _, [_] => rfl
  | a, b, x :: y :: l => by simp only [sh, pair, pair_sh a b l, List.map_cons, mvR]
/-- what is moved, as triples -/
def mvT (a b : Int) (t : Tri) : Tri := ⟨t.u.map (· + b), t.R.map (mvR a b), t.s.map (· + a)⟩
theorem ofF_M (a b : Int) {x : Fl} (h : x ≠ (true, [])) : ofF (fM a b x) = mvT a b (ofF x) := by
  rcases x with ⟨c, l⟩
  cases c
  · simp [fM, ofF, mvT, pair_sh]
  · cases l with
    | nil => exact absurd rfl h
    | cons v l => simp [fM, ofF, mvT, sh, pair_sh]
theorem notAO {M : Int} {x : Fl} (h : FOk M x) (hx : x ≠ (true, [])) : isAO (ofF x) = false := by
  rcases x with ⟨c, l⟩
  cases c
  · rfl
  · cases l with
    | nil => exact absurd rfl hx
    | cons v l =>
      rcases fok_fit h with h0 | h0
      · exact wf_notAO h0
      · simp only [ofF, AO] at h0
        obtain ⟨h1, h2, h3⟩ := Tri.mk.inj h0
        cases h1
        have : l = [0] := by
          have := flat_pair l
          rw [h2, h3] at this
          exact this.symm
        subst this
        have hw : alt 0 0 [0, 0] := h.wd
        have := hw.1
        omega
end Law
end
section
set_option autoImplicit false
/-! What the law's runs become, in plain Lean: by flips. -/
namespace Law
open PySem PL
def eL : List Int → List ER
  | [] => []
  | [a] => [(some a, none)]
  | a :: b :: l => (some a, some b) :: eL l
def eT : List Int → List ER
  | [] => [(none, none)]
  | v :: l => (none, some v) :: eL l
def eF (x : Fl) : List ER := if x.1 then eT x.2 else eL x.2
theorem eL_pair : ∀ l : List Int, eL l = (pair l).1.map er ++ tailE (pair l).2
  | [] => rfl
  | [a] => rfl
  | a :: b :: l => by simp [eL, pair, eL_pair l, er]
theorem lawL_eF {M : Int} {x : Fl} (h : FOk M x) : lawL (ofF x) = eF x := by
  by_cases hx : x = (true, [])
  · subst hx; rfl
  · unfold lawL
    rw [notAO h hx]
    rcases x with ⟨c, l⟩
    cases c
    · simp [lawT, ofF, eF, eL_pair, headE]
    · cases l with
      | nil => exact absurd rfl hx
      | cons v l => simp [lawT, ofF, eF, eT, eL_pair, headE]
/-! turned -/
def tstep (z : List ER × Option Int × Bool) (r : ER) : List ER × Option Int × Bool := (if r.1.isSome then z.1 ++ [(z.2.1, r.1)] else z.1, r.2, r.2.isSome)
def tfin (z : List ER × Option Int × Bool) : List ER := if z.2.2 then z.1 ++ [(z.2.1, none)] else z.1
def gG (o : Option Int) : List Int → List ER
  | [] => [(o, none)]
  | a :: l => (o, some a) :: eL l
theorem gG_some (v : Int) : ∀ l : List Int, gG (some v) l = eL (v :: l)
  | [] => rfl
  | a :: l => rfl
theorem t_fold : ∀ (l : List Int) (acc : List ER) (o : Option Int), tfin ((eL l).foldl tstep (acc, o, true)) = acc ++ gG o l
  | [], acc, o => rfl
  | [a], acc, o => by simp [eL, tstep, tfin, gG]
  | a :: b :: l, acc, o => by
    have ih := t_fold l (acc ++ [(o, some a)]) (some b)
    simp only [eL, List.foldl_cons]
    have e : tstep (acc, o, true) (some a, some b) = (acc ++ [(o, some a)], some b, true) := rfl
    rw [e, ih, gG_some]
    simp [gG]
theorem turned_eF (x : Fl) : tfin ((eF x).foldl tstep ([], none, true)) = eF (fT x) := by
  rcases x with ⟨c, l⟩
  cases c
  · have := t_fold l [] none
    simp only [eF, fT, Bool.false_eq_true, if_false, Bool.not_false, if_true]
    rw [this]
    cases l <;> rfl
  · cases l with
    | nil => rfl
    | cons v l =>
      have := t_fold l [] (some v)
      simp only [eF, fT, if_true, Bool.not_true, Bool.false_eq_true, if_false, eT, List.foldl_cons]
      have e : tstep ([], none, true) (none, some v) = ([], some v, true) := rfl
      rw [e, this, gG_some]; rfl
/-! moved -/
def mvE (a b : Int) (r : ER) : ER := (r.1.map (· + a), r.2.map (· + b))
def ltE (r : ER) : Bool := match r.1, r.2 with
  | some b, some e => decide (b < e)
  | _, _ => true
def joins (acc : List ER) (r : ER) : Bool := match acc.getLast?, r.1 with
  | some l, some b => (match l.2 with | some e => decide (b ≤ e) | none => false)
  | _, _ => false
def dput (acc : List ER) (r : ER) : List ER := if joins acc r then (match acc.getLast? with | some l => acc.dropLast ++ [(l.1, r.2)] | none => acc) else acc ++ [r]
def dstep (a b : Int) (acc : List ER) (r : ER) : List ER := if ltE (mvE a b r) then dput acc (mvE a b r) else acc
theorem dput_far {acc : List ER} {r : ER} (h : ∀ l b e, acc.getLast? = some l → r.1 = some b → l.2 = some e → e < b) : dput acc r = acc ++ [r] := by
  unfold dput
  rw [if_neg]
  unfold joins
  cases hl : acc.getLast? with
  | none => simp
  | some l =>
    cases hb : r.1 with
    | none => simp
    | some b =>
      cases he : l.2 with
      | none => simp [he]
      | some e =>
        have := h l b e hl hb he
        simp [he]; omega
/-- on-delays: b behind a -/
theorem on_fold (k : Int) (hk : 0 ≤ k) : ∀ (l : List Int) (acc : List ER), alt 0 0 l → (∀ z e, acc.getLast? = some z → z.2 = some e → ∀ a r, l = a :: r → e < a) → (eL l).foldl (dstep k 0) acc = acc ++ eL (sh k 0 (rm k l))
  | [], acc, _, _ => by simp [eL, rm, sh]
  | [a], acc, _, h => by
    simp only [eL, List.foldl_cons, List.foldl_nil, rm, sh]
    unfold dstep
    rw [if_pos (show ltE (mvE _ _ (some a, none)) = true from rfl), dput_far]
    · rfl
    · intro z b e hz hb he
      simp [mvE] at hb
      have := h z e hz he a [] rfl
      omega
  | a :: b :: l, acc, hl, h => by
    simp only [eL, List.foldl_cons]
    have h1 := hl.1
    have hl2 := alt_tail (alt_tail hl)
    have hb2 : ∀ c r, l = c :: r → b < c := by
      intro c r hc
      subst hc
      have := hl.2.1
      omega
    rw [rm]
    by_cases c : b - a ≤ k
    · rw [if_pos c]
      have e : dstep k 0 acc (some a, some b) = acc := by
        unfold dstep
        rw [if_neg]
        simp [mvE, ltE]; omega
      rw [e]
      refine on_fold k hk l acc hl2 ?_
      intro z e hz he c r hc
      have := h z e hz he a (b :: l) rfl
      have := hb2 c r hc
      omega
    · rw [if_neg c]
      have e : dstep k 0 acc (some a, some b) = acc ++ [(some (a + k), some b)] := by
        unfold dstep
        rw [if_pos (by simp [mvE, ltE]; omega), dput_far]
        · simp [mvE]
        · intro z x e hz hx he
          simp [mvE] at hx
          have := h z e hz he a (b :: l) rfl
          omega
      rw [e, on_fold k hk l _ hl2]
      · simp [sh, eL]
      · intro z e hz he c r hc
        simp at hz
        subst hz
        cases he
        exact hb2 c r hc
/-- delays -/
theorem de_fold (k : Int) : ∀ (l : List Int) (acc : List ER), alt 0 0 l → (∀ z e, acc.getLast? = some z → z.2 = some e → ∀ a r, l = a :: r → e < a + k) → (eL l).foldl (dstep k k) acc = acc ++ eL (sh k k l)
  | [], acc, _, _ => by simp [eL, sh]
  | [a], acc, _, h => by
    simp only [eL, List.foldl_cons, List.foldl_nil, sh]
    unfold dstep
    rw [if_pos (show ltE (mvE _ _ (some a, none)) = true from rfl), dput_far]
    · rfl
    · intro z b e hz hb he
      simp [mvE] at hb
      have := h z e hz he a [] rfl
      omega
  | a :: b :: l, acc, hl, h => by
    simp only [eL, List.foldl_cons]
    have h1 := hl.1
    have hl2 := alt_tail (alt_tail hl)
    have e : dstep k k acc (some a, some b) = acc ++ [(some (a + k), some (b + k))] := by
      unfold dstep
      rw [if_pos (by simp [mvE, ltE]; omega), dput_far]
      · simp [mvE]
      · intro z x e hz hx he
        simp [mvE] at hx
        have := h z e hz he a (b :: l) rfl
        omega
    rw [e, de_fold k l _ hl2]
    · simp [sh, eL]
    · intro z e hz he c r hc
      simp at hz
      subst hz
      cases he
      subst hc
      have := hl.2.1
      omega
/-- off-delays -/
def hH (k : Int) (o : Option Int) (m : List Int) : List ER := match o with
  | none => eT (sh k 0 m)
  | some q => eL (sh 0 k (q :: m))
theorem hH_cons2 (k : Int) (o : Option Int) (p a : Int) (m : List Int) : hH k o (p :: a :: m) = (o, some (p + k)) :: eL (sh 0 k (a :: m)) := by
  cases o with
  | none => simp [hH, sh, eT]
  | some q => simp [hH, sh, eL]
theorem hH_nil (k : Int) (o : Option Int) : hH k o [] = [(o, none)] := by
  cases o with
  | none => rfl
  | some q => simp [hH, sh, eL]
theorem hH_one (k : Int) (o : Option Int) (p : Int) : hH k o [p] = [(o, some (p + k))] := by
  cases o with
  | none => rfl
  | some q => simp [hH, sh, eL]
theorem off_fold (k : Int) (hk : 0 ≤ k) : ∀ (l : List Int) (acc : List ER) (o : Option Int) (p : Int), alt 0 0 (p :: l) → (eL l).foldl (dstep 0 k) (acc ++ [(o, some (p + k))]) = acc ++ hH k o (rm k (p :: l))
  | [], acc, o, p, _ => by simp [eL, rm, hH_one]
  | [a], acc, o, p, hl => by
    have h1 := hl.1
    simp only [eL, List.foldl_cons, List.foldl_nil]
    rw [rm]
    unfold dstep
    rw [if_pos (show ltE (mvE _ _ (some a, none)) = true from rfl)]
    unfold dput joins
    by_cases c : a - p ≤ k
    · rw [if_pos c]
      simp [mvE, rm, hH_nil]
      omega
    · rw [if_neg c]
      simp only [rm]
      rw [hH_cons2]
      simp [mvE, sh, eL]
      omega
  | a :: b :: l, acc, o, p, hl => by
    have h1 := hl.1
    have h2 := hl.2.1
    have hl3 := alt_tail (alt_tail hl)
    simp only [eL, List.foldl_cons]
    rw [rm]
    have hlt : ltE (mvE 0 k (some a, some b)) = true := by simp [mvE, ltE]; omega
    by_cases c : a - p ≤ k
    · rw [if_pos c]
      have e : dstep 0 k (acc ++ [(o, some (p + k))]) (some a, some b) = acc ++ [(o, some (b + k))] := by
        unfold dstep
        rw [if_pos hlt]
        unfold dput joins
        simp [mvE]
        omega
      rw [e, off_fold k hk l acc o b hl3]
    · rw [if_neg c]
      have e : dstep 0 k (acc ++ [(o, some (p + k))]) (some a, some b) = (acc ++ [(o, some (p + k))]) ++ [(some a, some (b + k))] := by
        unfold dstep
        rw [if_pos hlt, dput_far]
        · simp [mvE]
        · intro z x e hz hx he
          simp at hz
          subst hz
          simp [mvE] at hx he
          omega
      rw [e, off_fold k hk l _ (some a) b hl3, hH_cons2]
      simp [hH]
def pa (p : Part) : Int × Int := match p with
  | .on k => (k, 0)
  | .off k => (0, k)
  | .delay k => (k, k)
  | .turn => (0, 0)
theorem done_eF {x : Fl} (h : Wd 0 0 x) {p : Part} (hp : 0 ≤ p.num) (ht : p ≠ .turn) : (eF x).foldl (dstep (pa p).1 (pa p).2) [] = eF (fbp x p) := by
  rcases x with ⟨c, l⟩
  cases c
  · have h' : alt 0 0 l := h
    cases p with
    | turn => exact absurd rfl ht
    | on k =>
      have := on_fold k hp l [] h' (fun z e hz => (nomatch hz))
      simpa [eF, pa, fbp, fM, fD] using this
    | delay k =>
      have := de_fold k l [] h' (fun z e hz => (nomatch hz))
      simpa [eF, pa, fbp, fM] using this
    | off k =>
      simp only [num_off] at hp
      simp only [eF, pa, fbp, fM, fF, Bool.false_eq_true, if_false]
      match l, h' with
      | [], _ => rfl
      | [a], _ => simp [eL, rm', rm, sh, dstep, dput, joins, mvE, ltE]
      | a :: b :: l, h' =>
        have h2 := off_fold k hp l [] (some a) b (alt_tail h')
        have h1 := h'.1
        have e : dstep 0 k [] (some a, some b) = [(some a, some (b + k))] := by
          unfold dstep
          rw [if_pos (by simp [mvE, ltE]; omega)]
          simp [dput, joins, mvE]
        simp only [eL, List.foldl_cons, rm']
        rw [e]
        simpa [hH] using h2
  · cases l with
    | nil =>
      have : ∀ a b : Int, [((none, none) : ER)].foldl (dstep a b) [] = [(none, none)] := fun a b => by simp [dstep, dput, joins, mvE, ltE]
      cases p with
      | turn => exact absurd rfl ht
      | on k => exact this _ _
      | delay k => exact this _ _
      | off k => exact this _ _
    | cons v l =>
      have h' : alt 0 0 (v :: l) := h
      have hv : ∀ a r, l = a :: r → v < a := by
        intro a r hr; subst hr; have := h'.1; omega
      have e : ∀ a b : Int, dstep a b [] (none, some v) = [(none, some (v + b))] := fun a b => by simp [dstep, dput, joins, mvE, ltE]
      simp only [eF, if_true, eT, List.foldl_cons, e]
      cases p with
      | turn => exact absurd rfl ht
      | on k =>
        have := on_fold k hp l [(none, some v)] (alt_tail h') (fun z e hz he a r hr => by simp at hz; subst hz; cases he; exact hv a r hr)
        simpa [eT, pa, fbp, fM, fD, rm', sh] using this
      | delay k =>
        have := de_fold k l [(none, some (v + k))] (alt_tail h') (fun z e hz he a r hr => by simp at hz; subst hz; cases he; have := hv a r hr; omega)
        simpa [eT, pa, fbp, fM, sh] using this
      | off k =>
        have := off_fold k hp l [] none v h'
        exact this
end Law
end
section
set_option autoImplicit false
/-! The law's runs, done part by part: as pairs. -/
namespace Law
open PySem PL
/-! turned, by neighbours -/
def mid : ER → List ER → List ER
  | r, [] => if r.2.isSome then [(r.2, none)] else []
  | r, s :: l => (r.2, s.1) :: mid s l
def frontE (r : ER) : List ER := if r.1.isSome then [(none, r.1)] else []
def tz : List ER → List ER
  | [] => [(none, none)]
  | r :: l => frontE r ++ mid r l
theorem mid_eL (o : Option Int) : ∀ (b : Int) (l : List Int), mid (o, some b) (eL l) = eL (b :: l)
  | b, [] => rfl
  | b, [a] => by simp [eL, mid]
  | b, a :: c :: l => by
    have := mid_eL (some a) c l
    simp only [eL, mid] at this ⊢
    rw [this]
theorem tz_eF (x : Fl) : tz (eF x) = eF (fT x) := by
  rcases x with ⟨c, l⟩
  cases c
  · match l with
    | [] => rfl
    | [a] => rfl
    | a :: b :: l =>
      have := mid_eL (some a) b l
      simp only [eF, fT, Bool.false_eq_true, if_false, Bool.not_false, if_true, eL, tz, this]
      simp [frontE, eT]
  · match l with
    | [] => rfl
    | v :: l =>
      have := mid_eL none v l
      simp only [eF, fT, if_true, Bool.not_true, Bool.false_eq_true, if_false, eT, tz, this]
      simp [frontE]
/-! a part, joined first -/
def pput (acc : List ER) (r : ER) : List ER := if joins acc r then (match acc.getLast? with | some l => acc.dropLast ++ [(l.1, r.2)] | none => acc) else if ltE r then acc ++ [r] else acc
def pstep (a b : Int) (acc : List ER) (r : ER) : List ER := pput acc (mvE a b r)
theorem pstep_lt {a b : Int} {acc : List ER} {r : ER} (h : ltE (mvE a b r) = true) : pstep a b acc r = dstep a b acc r := by
  unfold pstep dstep pput dput
  rw [if_pos h, if_pos h] <;> rfl
theorem pstep_nj {a b : Int} {acc : List ER} {r : ER} (h : joins acc (mvE a b r) = false) : pstep a b acc r = dstep a b acc r := by
  unfold pstep dstep pput dput
  rw [h]; simp
/-- in order -/
def ordE : Option Int → List ER → Prop
  | _, [] => True
  | o, r :: l => (∀ e b, o = some e → r.1 = some b → e < b) ∧ (∀ b e, r.1 = some b → r.2 = some e → b < e) ∧ ordE r.2 l ∧ (r.2 = none → l = [])
theorem ord_eL : ∀ (o : Option Int) (l : List Int), alt 0 0 l → (∀ e a r, o = some e → l = a :: r → e < a) → ordE o (eL l)
  | o, [], _, _ => trivial
  | o, [a], _, h => ⟨fun e b he hb => by cases hb; exact h e a [] he rfl, fun b e _ he => (nomatch he), trivial, fun _ => rfl⟩
  | o, a :: b :: l, hl, h => by
    have h1 := hl.1
    refine ⟨fun e c he hc => by cases hc; exact h e a _ he rfl, fun c e hc he => by cases hc; cases he; omega, ?_, fun hn => (nomatch hn)⟩
    refine ord_eL (some b) l (alt_tail (alt_tail hl)) ?_
    intro e c r he hc
    cases he
    subst hc
    have := hl.2.1
    omega
theorem ord_eF {x : Fl} (h : Wd 0 0 x) : ordE none (eF x) := by
  rcases x with ⟨c, l⟩
  cases c
  · exact ord_eL none l h (fun e a r he => (nomatch he))
  · match l, h with
    | [], _ => exact ⟨fun e b he => (nomatch he), fun b e hb => (nomatch hb), trivial, fun _ => rfl⟩
    | v :: l, h =>
      have h' : alt 0 0 (v :: l) := h
      refine ⟨fun e b he => (nomatch he), fun b e hb => (nomatch hb), ?_, fun hn => (nomatch hn)⟩
      refine ord_eL (some v) l (alt_tail h') ?_
      intro e a r he hr
      cases he
      subst hr
      have := h'.1
      omega
theorem dput_last (acc : List ER) (r : ER) (hr : acc.getLast?.isSome ∨ True) : ∃ l, (dput acc r).getLast? = some l ∧ l.2 = r.2 := by
  unfold dput
  split
  · rename_i hj
    unfold joins at hj
    cases hl : acc.getLast? with
    | none => rw [hl] at hj; simp at hj
    | some l => exact ⟨(l.1, r.2), by simp, rfl⟩
  · exact ⟨r, by simp, rfl⟩
theorem joins_no {acc : List ER} {r : ER} (h : ∀ l b e, acc.getLast? = some l → r.1 = some b → l.2 = some e → e < b) : joins acc r = false := by
  unfold joins
  cases hl : acc.getLast? with
  | none => rfl
  | some l =>
    cases hb : r.1 with
    | none => rfl
    | some b =>
      cases he : l.2 with
      | none => simp [he]
      | some e =>
        have := h l b e hl hb he
        simp [he]; omega
theorem pfold (a b : Int) (hb : 0 ≤ b) (h : a = 0 ∨ b ≤ a) : ∀ (L acc : List ER) (o : Option Int), ordE o L → (∀ z e, acc.getLast? = some z → z.2 = some e → ∃ e', o = some e' ∧ e ≤ e' + b) → L.foldl (pstep a b) acc = L.foldl (dstep a b) acc
  | [], _, _, _, _ => rfl
  | r :: L, acc, o, hL, hz => by
    obtain ⟨h1, h2, h3, h4⟩ := hL
    have e : pstep a b acc r = dstep a b acc r := by
      by_cases hlt : ltE (mvE a b r) = true
      · exact pstep_lt hlt
      · refine pstep_nj (joins_no ?_)
        intro l q e hl hq he
        obtain ⟨e', ho, hle⟩ := hz l e hl he
        rcases r with ⟨x, y⟩
        cases x with
        | none => simp [mvE] at hq
        | some x =>
          cases y with
          | none => exact absurd rfl hlt
          | some y =>
            simp [mvE] at hq
            simp [mvE, ltE] at hlt
            have k1 := h1 e' x ho rfl
            have k2 := h2 x y rfl rfl
            omega
    rw [List.foldl_cons, List.foldl_cons, e]
    refine pfold a b hb h L _ r.2 h3 ?_
    intro z e hz1 hz2
    unfold dstep at hz1
    split at hz1
    · obtain ⟨l, hl, hl2⟩ := dput_last acc (mvE a b r) (.inr trivial)
      rw [hl] at hz1
      cases hz1
      rw [hl2] at hz2
      cases hr : r.2 with
      | none => simp [mvE, hr] at hz2
      | some y => simp [mvE, hr] at hz2; exact ⟨y, rfl, by omega⟩
    · rename_i hlt
      obtain ⟨e', ho, hle⟩ := hz z e hz1 hz2
      rcases r with ⟨x, y⟩
      cases x with
      | none => exact absurd rfl hlt
      | some x =>
        cases y with
        | none => exact absurd rfl hlt
        | some y =>
          have k1 := h1 e' x ho rfl
          have k2 := h2 x y rfl rfl
          exact ⟨y, rfl, by omega⟩
theorem part_eF {x : Fl} (h : Wd 0 0 x) {p : Part} (hp : 0 ≤ p.num) (ht : p ≠ .turn) : (eF x).foldl (pstep (pa p).1 (pa p).2) [] = eF (fbp x p) := by
  rw [← done_eF h hp ht]
  refine pfold _ _ ?_ ?_ _ _ none (ord_eF h) (fun z e hz => (nomatch hz))
  · cases p <;> simp_all [pa, Part.num]
  · cases p <;> simp_all [pa, Part.num]
theorem pput_small {M : Int} {acc : List ER} {r : ER} (h : ∀ x ∈ acc, Small M x) (hr : Small M r) : ∀ x ∈ pput acc r, Small M x := by
  have hn : ∀ x ∈ acc ++ [r], Small M x := fun x hx => by
    rcases List.mem_append.mp hx with hx | hx
    · exact h x hx
    · simp at hx; subst hx; exact hr
  unfold pput
  split
  · rcases List.eq_nil_or_concat acc with rfl | ⟨acc', l, rfl⟩
    · exact h
    · rw [List.concat_eq_append] at *
      simp only [List.getLast?_append, List.getLast?_singleton, Option.some_or, List.dropLast_concat]
      intro x hx
      rcases List.mem_append.mp hx with hx | hx
      · exact h x (List.mem_append_left _ hx)
      · simp at hx; subst hx; exact ⟨(h l (by simp)).1, hr.2⟩
  · split
    · exact hn
    · exact h
theorem pput_len (acc : List ER) (r : ER) : (pput acc r).length ≤ acc.length + 1 := by
  unfold pput
  split
  · rcases List.eq_nil_or_concat acc with rfl | ⟨acc', l, rfl⟩
    · simp
    · simp
  · split <;> simp
end Law
end
section
set_option autoImplicit false
/-! Flips put behind one another by twos. -/
namespace Law
open PySem PL
theorem eL_two : ∀ (F : List Int) (a b : Int), F.length % 2 = 0 → eL (F ++ [a, b]) = eL F ++ [(some a, some b)]
  | [], a, b, _ => rfl
  | [x], a, b, h => by simp at h
  | x :: y :: F, a, b, h => by
    have := eL_two F a b (by simp at h; omega)
    simp [eL, this]
theorem alt_two {p q : Int} : ∀ (F : List Int) (a b : Int), F.length % 2 = 0 → alt p q F → (∀ z, F.getLast? = some z → q < a - z) → p < b - a → alt p q (F ++ [a, b])
  | [], a, b, _, _, _, h => ⟨h, trivial⟩
  | [x], a, b, h, _, _, _ => by simp at h
  | x :: y :: F, a, b, h, hF, hz, hb => by
    have h2 := alt_two F a b (by simp at h; omega) (alt_tail (alt_tail hF)) (fun z hz' => by
      refine hz z ?_
      cases F with
      | nil => cases hz'
      | cons u F => simpa using hz') hb
    refine ⟨hF.1, ?_⟩
    cases F with
    | nil =>
      have := hz y (by simp)
      exact ⟨this, h2⟩
    | cons u F => exact ⟨hF.2.1, h2⟩
theorem eL_len : ∀ F : List Int, (eL F).length ≤ F.length
  | [] => Nat.le_refl _
  | [_] => Nat.le_refl _
  | x :: y :: F => by have := eL_len F; simp [eL]; omega
theorem alt_drop1 {p q : Int} : ∀ F : List Int, alt p q F → alt p q F.dropLast
  | [], _ => trivial
  | [_], _ => trivial
  | [_, _], _ => trivial
  | x :: y :: z :: F, h => ⟨h.1, alt_drop1 (y :: z :: F) h.2⟩
/-- the first on without a beginning -/
theorem eL_head (a b : Int) (F : List Int) : (none, some b) :: eL F = eF (true, b :: F) := rfl
/-- the last on without an end -/
theorem eL_last : ∀ (F : List Int) (a b : Int), F.length % 2 = 0 → eL (F ++ [a]) = eL F ++ [(some a, none)]
  | [], a, b, _ => rfl
  | [x], a, b, h => by simp at h
  | x :: y :: F, a, b, h => by
    have := eL_last F a b (by simp at h; omega)
    simp [eL, this]
theorem eF_last (c : Bool) (G : List Int) (z : Int) (h : G.length % 2 = if c then 0 else 1) : ∃ (L' : List ER) (o : Option Int), eF (c, G ++ [z]) = L' ++ [(o, some z)] ∧ eF (c, G) = L' ++ [(o, none)] := by
  have odd : ∀ G : List Int, G.length % 2 = 1 → ∃ (L' : List ER) (o : Option Int), eL (G ++ [z]) = L' ++ [(o, some z)] ∧ eL G = L' ++ [(o, none)] := by
    intro G hG
    rcases List.eq_nil_or_concat G with rfl | ⟨G', a, rfl⟩
    · simp at hG
    · rw [List.concat_eq_append] at *
      have he : G'.length % 2 = 0 := by simp at hG; omega
      refine ⟨eL G', some a, ?_, eL_last G' a a he⟩
      rw [List.append_assoc]
      exact eL_two G' a z he
  cases c
  · exact odd G (by simpa using h)
  · cases G with
    | nil => exact ⟨[], none, rfl, rfl⟩
    | cons v G1 =>
      obtain ⟨L', o, h1, h2⟩ := odd G1 (by simp at h; omega)
      exact ⟨(none, some v) :: L', o, by simp [eF, eT, h1], by simp [eF, eT, h2]⟩
end Law
end
section
set_option autoImplicit false
/-! Trials: ends alone, one on, one off, trains. -/
namespace Law
open PySem PL
def rangeI (a b : Int) : List Int := (List.range (b - a).toNat).map fun k : Nat => a + k
theorem mem_rangeI {a b z : Int} : z ∈ rangeI a b ↔ a ≤ z ∧ z < b := by
  unfold rangeI
  rw [List.mem_map]
  constructor
  · rintro ⟨k, hk, rfl⟩
    rw [List.mem_range] at hk
    omega
  · rintro ⟨h1, h2⟩
    exact ⟨(z - a).toNat, by rw [List.mem_range]; omega, by omega⟩
/-- a train's flips -/
def trn (on off : Int) : Nat → List Int
  | 0 => []
  | n + 1 => trn on off n ++ [n * (on + off), n * (on + off) + on]
theorem trn_len (on off : Int) : ∀ n, (trn on off n).length = 2 * n
  | 0 => rfl
  | n + 1 => by rw [trn, List.length_append, trn_len on off n]; simp; omega
/-- how many ons a trial's train has -/
def trnN (on off most : Int) : Nat := max 2 ((most + off) / (on + off) + 1).toNat
def trials (ons offs most : Int) : List Fl :=
  [(false, []), (true, []), (false, [0]), (true, [0])] ++ (rangeI offs (most + 2)).map (fun off => (true, [0, off])) ++
    (rangeI ons (most + 2)).flatMap (fun on => (false, [0, on]) :: (rangeI offs (most + 2)).map (fun off => (false, trn on off (trnN on off most))))
theorem trnN_stop {on off most : Int} (h1 : 1 ≤ on) (h2 : 1 ≤ off) (n : Nat) (hn : 2 ≤ n) : n < trnN on off most ↔ (n : Int) * (on + off) - off ≤ most := by
  unfold trnN
  have hp : 0 < on + off := by omega
  have key : ((most + off) / (on + off) + 1).toNat > n ↔ (n : Int) ≤ (most + off) / (on + off) := by omega
  rw [Int.le_ediv_iff_mul_le hp] at key
  constructor
  · intro h
    have : ((most + off) / (on + off) + 1).toNat > n := by omega
    have := key.mp this
    omega
  · intro h
    have := key.mpr (by omega)
    omega
theorem trn_alt {p q on off : Int} (h1 : p < on) (h2 : q < off) : ∀ n, alt p q (trn on off n) ∧ ∀ z, (trn on off n).getLast? = some z → z = n * (on + off) - off
  | 0 => ⟨trivial, fun z hz => (nomatch hz)⟩
  | n + 1 => by
    obtain ⟨a, b⟩ := trn_alt h1 h2 n
    refine ⟨alt_two _ _ _ (by rw [trn_len]; omega) a (fun z hz => ?_) (by omega), ?_⟩
    · have := b z hz; omega
    · intro z hz
      rw [trn] at hz
      simp at hz
      have : ((n + 1 : Nat) : Int) * (on + off) = n * (on + off) + (on + off) := by push_cast; rw [Int.add_mul]; omega
      omega
theorem trn_bd {on off : Int} (h1 : 1 ≤ on) (h2 : 1 ≤ off) : ∀ n, ∀ z ∈ trn on off n, 0 ≤ z ∧ z ≤ n * (on + off)
  | 0, z, hz => by simp [trn] at hz
  | n + 1, z, hz => by
    have hp : 0 ≤ (n : Int) * (on + off) := Int.mul_nonneg (by omega) (by omega)
    have e : ((n + 1 : Nat) : Int) * (on + off) = n * (on + off) + (on + off) := by push_cast; rw [Int.add_mul]; omega
    rw [trn] at hz
    rcases List.mem_append.mp hz with hz | hz
    · have := trn_bd h1 h2 n z hz; omega
    · simp at hz; omega
/-- what all trials keep -/
theorem trials_ok {ons offs most : Int} (h1 : 1 ≤ ons) (h2 : 1 ≤ offs) (h3 : 0 ≤ most) {x : Fl} (hx : x ∈ trials ons offs most) : Wd (ons - 1) (offs - 1) x ∧ (∀ z ∈ x.2, 0 ≤ z ∧ z ≤ 6 * most + 12) ∧ (x.2.length : Int) ≤ 2 * most + 8 := by
  unfold trials at hx
  rcases List.mem_append.mp hx with hx | hx
  · rcases List.mem_append.mp hx with hx | hx
    · simp at hx
      rcases hx with rfl | rfl | rfl | rfl
      · exact ⟨trivial, by simp, by simp; omega⟩
      · exact ⟨trivial, by simp, by simp; omega⟩
      · exact ⟨trivial, by simp; omega, by simp; omega⟩
      · exact ⟨trivial, by simp; omega, by simp; omega⟩
    · obtain ⟨off, ho, rfl⟩ := List.mem_map.mp hx
      rw [mem_rangeI] at ho
      exact ⟨⟨by omega, trivial⟩, fun z hz => by simp at hz; omega, by simp; omega⟩
  · obtain ⟨on, ho, hx⟩ := List.mem_flatMap.mp hx
    rw [mem_rangeI] at ho
    rcases List.mem_cons.mp hx with rfl | hx
    · exact ⟨⟨by omega, trivial⟩, fun z hz => by simp at hz; omega, by simp; omega⟩
    · obtain ⟨off, hf, rfl⟩ := List.mem_map.mp hx
      rw [mem_rangeI] at hf
      refine ⟨(trn_alt (by omega) (by omega) _).1, ?_, ?_⟩
      · intro z hz
        have := trn_bd (by omega) (by omega) _ z hz
        refine ⟨this.1, ?_⟩
        have hn : (trnN on off most : Int) * (on + off) ≤ 6 * most + 12 := by
          by_cases h : trnN on off most ≤ 2
          · have := Int.mul_le_mul_of_nonneg_right (show (trnN on off most : Int) ≤ 2 by omega) (show 0 ≤ on + off by omega)
            omega
          · have hs := (trnN_stop (on := on) (off := off) (most := most) (by omega) (by omega) (trnN on off most - 1) (by omega)).mp (by omega)
            have e : ((trnN on off most - 1 : Nat) : Int) = (trnN on off most : Int) - 1 := by omega
            rw [e, Int.sub_mul] at hs
            omega
        omega
      · rw [trn_len]
        have hn : (trnN on off most : Int) ≤ most + 4 := by
          by_cases h : trnN on off most ≤ 2
          · omega
          · have hs := (trnN_stop (on := on) (off := off) (most := most) (by omega) (by omega) (trnN on off most - 1) (by omega)).mp (by omega)
            have e : ((trnN on off most - 1 : Nat) : Int) = (trnN on off most : Int) - 1 := by omega
            rw [e] at hs
            have h2 : ((trnN on off most : Int) - 1) * 2 ≤ ((trnN on off most : Int) - 1) * (on + off) := Int.mul_le_mul_of_nonneg_left (by omega) (by omega)
            omega
        push_cast
        omega
end Law
end
section
set_option autoImplicit false
/-! Lists of runs, looked at. -/
namespace Law
open PySem PL
theorem eqv_er (x : ER) : PyData.eqv (ER.pv x).pd (.tuple [.none, .none]) = (x.1.isNone && x.2.isNone) := by
  rcases x with ⟨a, b⟩
  cases a <;> cases b <;> simp [ER.pv, opt, PyData.eqv, PyData.eqvAll]
def lone (L : List ER) : Bool := match L with
  | [x] => x.1.isNone && x.2.isNone
  | _ => false
theorem eq_lone {M : Int} (hM : Big M) (L : List ER) (hL : ∀ x ∈ L, Small M x) {μ : Mem} {a k : Nat} (ha : μ[a]? = some (.lst (L.map ER.pv))) (hk : μ[k]? = some (.lst [.tup [.non, .non]])) (hne : ∀ x y l, L = x :: y :: l → (x.1.isNone && x.2.isNone) = false) : fEq [.ref a, .ref k] μ = .ok (.bl (lone L)) μ := by
  have h1 : SeqAt.shaped (.list (PV.pds (L.map ER.pv))) = true := shaped_sm (by simp; exact sms_map _ _ fun x hx => ER_sm hM (hL x hx)) (by have := dps_map ER.pv L 1 (fun x _ => by rw [ER_dp x]; decide); simp; omega)
  simp only [fEq, eqR, scalP]
  rw [toD_lst ha (datas_map _ ER_data L), toD_lst hk (by simp)]
  simp only
  rw [if_pos ⟨h1, shaped_sm (by simp) (by simp)⟩]
  have : PyData.eqv (.list (PV.pds (L.map ER.pv))) (.list (PV.pds [.tup [.non, .non]])) = lone L := by
    match L, hne with
    | [], _ => simp [PyData.eqv, PyData.eqvAll, lone]
    | [x], _ =>
      have h2 := eqv_er x
      simp only [List.map_cons, List.map_nil, pds_cons, pds_nil, pd_tup, pd_non, PyData.eqv, PyData.eqvAll, lone, Bool.and_true]
      exact h2
    | x :: y :: l, hne =>
      have h2 := eqv_er x
      have h3 := hne x y l rfl
      rw [h3] at h2
      simp only [List.map_cons, pds_cons, pds_nil, pd_tup, pd_non, PyData.eqv, PyData.eqvAll, lone, h2, Bool.false_and]
  rw [this]
theorem lawT_some {t : Tri} : ∀ x ∈ lawT t, (x.1.isNone && x.2.isNone) = false := by
  intro x hx
  unfold lawT at hx
  rcases List.mem_append.mp hx with hx | hx
  · rcases List.mem_append.mp hx with hx | hx
    · cases hu : t.u with
      | none => rw [hu] at hx; simp [headE] at hx
      | some u => rw [hu] at hx; simp [headE] at hx; subst hx; rfl
    · obtain ⟨r, _, rfl⟩ := List.mem_map.mp hx; rfl
  · cases hu : t.s with
    | none => rw [hu] at hx; simp [tailE] at hx
    | some u => rw [hu] at hx; simp [tailE] at hx; subst hx; rfl
theorem lone_T (t : Tri) : lone (lawT t) = false := by
  have h := @lawT_some t
  unfold lone
  split
  · rename_i x e
    exact h x (by rw [e]; simp)
  · rfl
theorem head_T {t : Tri} {x : ER} {l : List ER} (h : lawT t = x :: l) : (x.1 = none ∧ x.2 = t.u) ∨ ((∃ b, x.1 = some b) ∧ t.u = none) := by
  unfold lawT at h
  cases hu : t.u with
  | some u => rw [hu] at h; simp [headE] at h; rw [← h.1]; exact .inl ⟨rfl, rfl⟩
  | none =>
    rw [hu] at h
    right
    refine ⟨?_, rfl⟩
    cases hR : t.R with
    | cons r R => rw [hR] at h; simp [headE, er] at h; rw [← h.1]; exact ⟨_, rfl⟩
    | nil =>
      rw [hR] at h
      cases hs : t.s with
      | none => rw [hs] at h; simp [headE, tailE] at h
      | some w => rw [hs] at h; simp [headE, tailE] at h; rw [← h.1]; exact ⟨_, rfl⟩
theorem last_T {t : Tri} {x : ER} {l : List ER} (h : lawT t = l ++ [x]) : (x.2 = none ∧ x.1 = t.s) ∨ ((∃ b, x.2 = some b) ∧ t.s = none) := by
  unfold lawT at h
  cases hs : t.s with
  | some w =>
    rw [hs] at h
    have := (List.append_inj' h rfl).2
    simp [tailE] at this
    rw [← this]; exact .inl ⟨rfl, rfl⟩
  | none =>
    rw [hs] at h
    right
    refine ⟨?_, rfl⟩
    simp only [tailE, List.append_nil] at h
    have hx : x ∈ headE t.u ++ t.R.map er := by rw [h]; simp
    rcases List.mem_append.mp hx with hx | hx
    · cases hu : t.u with
      | none => rw [hu] at hx; simp [headE] at hx
      | some u => rw [hu] at hx; simp [headE] at hx; subst hx; exact ⟨_, rfl⟩
    · obtain ⟨r, _, rfl⟩ := List.mem_map.mp hx; exact ⟨_, rfl⟩
theorem nil_T {t : Tri} (h : lawT t = []) : t.u = none ∧ t.s = none := by
  unfold lawT at h
  cases hu : t.u with
  | some u => rw [hu] at h; simp [headE] at h
  | none =>
    cases hs : t.s with
    | some u => rw [hs] at h; simp [tailE] at h
    | none => exact ⟨rfl, rfl⟩
end Law
end
section
set_option autoImplicit false
/-! Rows and signals that go together, whatever bursts. -/
namespace Law
open PySem PL
theorem opt_no : opt none = .non := rfl
theorem opt_so (v : Int) : opt (some v) = .int v := rfl
theorem opt_none (o : Option Int) : isNon (opt o) = o.isNone := by cases o <;> rfl
theorem fans_take {row : List Part} {i : Nat} {p : Part} (h : row[i]? = some p) (x : Fl) : fans (row.take (i + 1)) x = fbp (fans (row.take i) x) p := by
  rw [take_succ' h]; unfold fans; rw [List.foldl_append]; rfl
/-- rows and signals that go together, whatever bursts -/
structure RX0 (M : Int) (B : Nat) (row : List Part) (x : Fl) : Prop where
  m0 : 0 ≤ M
  ok : FOk M x
  pok : ∀ p ∈ row, p.ok B
  many : row.length ≤ 300
  big : M + 1000 * B ≤ 10 ^ 100
theorem RX0.take {M : Int} {B : Nat} {row : List Part} {x : Fl} (h : RX0 M B row x) (i : Nat) : FOk (M + 300 * B) (fans (row.take i) x) := by
  refine (fans_ok (B := B) (by omega) _ h.ok fun p hp => h.pok p (List.mem_of_mem_take hp)).mono ?_
  have h1 : (row.take i).length ≤ 300 := by have := h.many; rw [List.length_take]; omega
  have : ((row.take i).length : Int) * B ≤ 300 * B := Int.mul_le_mul_of_nonneg_right (by omega) (by omega)
  omega
end Law
end
section
set_option autoImplicit false
/-! The law's runs, done part by part, run: _law_turned, _law_part, _law_led, _law_told. -/
namespace Law
open PySem PL
theorem smallF' {M : Int} (hM : 0 ≤ M) {x : Fl} (h : FOk M x) : ∀ r ∈ eF x, Small M r := by
  rw [← lawL_eF h]; exact (lawL_LOk hM (fok_fit h)).sm
theorem eF_len' {M : Int} {x : Fl} (h : FOk M x) : (eF x).length ≤ x.2.length + 2 := by
  have h1 := lawL_len (ofF x)
  have h2 := ofF_len x
  rw [← lawL_eF h]; omega
theorem ers_eq {M : Int} (hM : Big M) {f : List ER} (hf : ∀ b ∈ f, Small M b) {μ : Mem} {a n : Nat} (ha : μ[a]? = some (.lst (f.map ER.pv))) (hn : μ[n]? = some (.lst [])) : fEq [.ref a, .ref n] μ = .ok (.bl f.isEmpty) μ := by
  rw [fEq_nil ha hn (datas_map _ ER_data f) (sms_map _ _ fun b hb => ER_sm hM (hf b hb)) (dps_map _ _ _ fun b _ => by rw [ER_dp b]; decide)]
  simp
/-- neighbours -/
def prs : List ER → List (ER × ER)
  | [] => []
  | [_] => []
  | r :: s :: l => (r, s) :: prs (s :: l)
def prE (z : ER × ER) : PV := .tup [z.1.pv, z.2.pv]
theorem zip_prs : ∀ L : List ER, zipL (L.map ER.pv) (L.map ER.pv).tail = (prs L).map prE
  | [] => rfl
  | [_] => rfl
  | r :: s :: l => by
    have := zip_prs (s :: l)
    simp only [List.map_cons, List.tail_cons, zipL, prs, prE] at this ⊢
    rw [this]
theorem prs_len : ∀ L : List ER, (prs L).length ≤ L.length
  | [] => Nat.le_refl _
  | [_] => by simp [prs]
  | r :: s :: l => by have := prs_len (s :: l); simp [prs] at this ⊢; omega
def backE (o : Option ER) : List ER := match o with
  | some r => if r.2.isSome then [(r.2, none)] else []
  | none => []
theorem mid_split : ∀ (r : ER) (l : List ER), mid r l = (prs (r :: l)).map (fun z => (z.1.2, z.2.1)) ++ backE (r :: l).getLast?
  | r, [] => by simp [mid, prs, backE]
  | r, s :: l => by
    rw [mid, mid_split s l]
    simp [prs]
theorem cut_tail (l : List PV) : cut l (some 1) none = l.tail := by
  unfold cut sIx
  simp
  cases l with
  | nil => rfl
  | cons a l => simp
theorem lturn_ev {M : Int} (hM : Big M) (h0 : 0 ≤ M) {x : Fl} (h : FOk M x) (hl : x.2.length ≤ 10000) (a : Nat) (μ : Mem) (ha : μ[a]? = some (.lst ((eF x).map ER.pv))) : (m__law_turned [.ref a] μ).sat (NewL μ ((eF (fT x)).map ER.pv)) := by
  have hlen := eF_len' h
  have hsm := smallF' h0 h
  rw [← tz_eF x]
  generalize eF x = L at *
  apply fn_sat_new
  apply run_sat
  unfold b__law_turned
  simp only [List.map_cons, List.map_nil, List.length_cons, List.length_nil, List.replicate, List.cons_append, List.nil_append, Nat.reduceAdd, Nat.reduceSub]
  have en := ers_eq hM hsm (μ := μ ++ [.lst []]) (a := a) (n := μ.length) (get_some ha) (by simp)
  rcases L with _ | ⟨r, L⟩
  · simp at en
    simp [en, tz]
    simp [ER.pv, opt]
  have hz : (prs (r :: L)).length ≤ 16777000 := by have := prs_len (r :: L); omega
  refine seq_sat (fun e m => m = μ ++ [.lst []] ∧ e = [some (.ref a), none, none, none]) (by simp [en]) ?_
  rintro e m ⟨rfl, rfl⟩
  refine seq_sat (fun e m => ∃ k, m[k]? = some (.lst ((frontE r).map ER.pv)) ∧ Ext μ m ∧ e = [some (.ref a), some (.ref k), none, none]) ?_ ?_
  · have ha1 : (μ ++ [PO.lst []])[a]? = some (.lst ((r :: L).map ER.pv)) := get_some ha
    have hl1 := (List.getElem?_eq_some_iff.mp ha).1
    rcases r with ⟨b, e⟩
    have i0 : ∀ μ', fIx [ER.pv (b, e), .int 0] μ' = .ok (opt b) μ' := fun μ' => ix_er0 (b, e) μ'
    simp at ha
    cases b with
    | none =>
      simp [ha, i0, opt, frontE]
    | some b =>
      simp [ha, i0, opt, frontE, ER.pv]
  rintro e m ⟨k, c1, c2, rfl⟩
  have ha1 := c2.get ha
  have hfr : (frontE r).length ≤ 1 := by unfold frontE; split <;> simp
  refine seq_sat (fun e m => ∃ k, μ.length ≤ k ∧ m[k]? = some (.lst ((frontE r ++ (prs (r :: L)).map (fun z => (z.1.2, z.2.1))).map ER.pv)) ∧ Ext μ m ∧ e = [some (.ref a), some (.ref k), none, none]) ?_ ?_
  · have hk := (List.getElem?_eq_some_iff.mp c1).1
    have hzip : iZip (v 0) (sl (v 0) (app1 fPart (c (.int 1))) (c .non)) [some (.ref a), some (.ref k), none, none] m = .ok ⟨(prs (r :: L)).map prE, [(a, (r :: L).map ER.pv), (m.length, ((r :: L).map ER.pv).tail)]⟩ (m ++ [.lst ((r :: L).map ER.pv).tail]) := by
      have ha2 : (m ++ [PO.lst ((r :: L).map ER.pv).tail])[a]? = some (.lst ((r :: L).map ER.pv)) := get_some ha1
      have ha3 : (m ++ [PO.lst ((r :: L).map ER.pv).tail])[m.length]? = some (.lst ((r :: L).map ER.pv).tail) := by simp
      rw [← zip_prs]
      generalize (r :: L).map ER.pv = pl at *
      simp [iZip, sl, ha1, cut_tail, getL, ha2]
    have hlk : locked [(a, (r :: L).map ER.pv), (m.length, ((r :: L).map ER.pv).tail)] (m ++ [.lst ((r :: L).map ER.pv).tail]) := by
      intro z hz
      simp at hz
      rcases hz with rfl | rfl
      · exact .inl (get_some ha1)
      · exact .inl (by simp)
    simp only [setv_ev, app2_ev, v_ev, List.getElem_cons_succ, List.getElem_cons_zero, Res.bind_ok]
    have hlc : lc (iZip (v 0) (sl (v 0) (app1 fPart (c (.int 1))) (c .non))) (tt 2 (tc (tn 2) (tc (tn 3) t0))) yes (app fTup (ac (app2 fIx (v 2) (c (.int 1))) (ac (app2 fIx (v 3) (c (.int 0))) an))) [2, 3] [some (.ref a), some (.ref k), none, none] m = .ok (.ref (m.length + 1)) (m ++ [.lst ((r :: L).map ER.pv).tail] ++ [.lst (((prs (r :: L)).map (fun z => (z.1.2, z.2.1))).map ER.pv)]) := by
      rw [lc_pure prE (fun z => some (ER.pv (z.1.2, z.2.1))) (prs (r :: L)) hzip (fun l => locked_app hlk l) (by show _ < 16777216; omega)]
      · simp [List.filterMap_eq_map']
      · rintro ⟨y, z⟩ _ l
        refine ⟨_, by simp [wipe, prE]; rfl, ?_⟩
        simp [ix_er1, ix_er0, ER.pv]
    have hm3 : (m ++ [PO.lst ((r :: L).map ER.pv).tail] ++ [.lst (((prs (r :: L)).map (fun z => (z.1.2, z.2.1))).map ER.pv)])[k]? = some (.lst ((frontE r).map ER.pv)) := get_some (get_some c1)
    have hm4 : (m ++ [PO.lst ((r :: L).map ER.pv).tail] ++ [.lst (((prs (r :: L)).map (fun z => (z.1.2, z.2.1))).map ER.pv)])[m.length + 1]? = some (.lst (((prs (r :: L)).map (fun z => (z.1.2, z.2.1))).map ER.pv)) := by simp
    have hadd := fAdd_refs hm3 hm4 (by show _ ≤ 16777216; simp only [List.length_map]; omega)
    have := c2.len
    simp only [List.map_cons, List.tail_cons, List.append_assoc, List.cons_append, List.nil_append] at hlc hadd
    simp [hlc, hadd, -fAdd_ref, -List.map_map]
    exact ⟨m.length + 2, by omega, by simp, c2.trans (Ext.app _ _), rfl⟩
  rintro e m ⟨k, hk, c1, c2, rfl⟩
  have ha1 := c2.get ha
  simp only [tz]
  rw [mid_split, ← List.append_assoc]
  have hz2 : (frontE r ++ (prs (r :: L)).map (fun z => (z.1.2, z.2.1))).length ≤ 16777100 := by simp; omega
  generalize frontE r ++ (prs (r :: L)).map (fun z => (z.1.2, z.2.1)) = A at *
  have hgl : ∃ l, (r :: L).getLast? = some l := ⟨(r :: L).getLast (by simp), List.getLast?_eq_some_getLast (by simp)⟩
  obtain ⟨⟨b, e⟩, hgl⟩ := hgl
  have hlast : ((r :: L).map ER.pv).getLast? = some (ER.pv (b, e)) := by rw [List.getLast?_map, hgl]; rfl
  rw [hgl]
  generalize (r :: L).map ER.pv = pl at *
  rcases List.eq_nil_or_concat pl with rfl | ⟨pl, q, rfl⟩
  · simp at hlast
  rw [List.concat_eq_append] at *
  simp at hlast
  subst hlast
  have i1 : ∀ μ', fIx [ER.pv (b, e), .int 1] μ' = .ok (opt e) μ' := fun μ' => ix_er1 (b, e) μ'
  cases e with
  | none =>
    simp [ha1, i1, opt, backE]
    exact newL_mk hk c1 c2
  | some e =>
    have c3 : (m ++ [PO.lst [PV.tup [.int e, .non]]])[k]? = some (.lst (A.map ER.pv)) := get_some c1
    have hadd := fAdd_refs c3 (b := m.length) (r := [PV.tup [.int e, .non]]) (by simp) (by show _ ≤ 16777216; simp; omega)
    have := c2.len
    simp [ha1, i1, opt, backE, hadd, -fAdd_ref]
    exact newL_mk (k := m.length + 1) (by omega) (by simp [ER.pv, opt]) (c2.trans (Ext.app _ _))
/-- a part done on a run -/
theorem pput_last (acc : List ER) (r z : ER) (h : (pput acc r).getLast? = some z) : z.2 = r.2 ∨ acc.getLast? = some z := by
  unfold pput at h
  split at h
  · cases hl : acc.getLast? with
    | none => rw [hl] at h; simp [hl] at h
    | some l => rw [hl] at h; simp at h; subst h; exact .inl rfl
  · split at h
    · simp at h; subst h; exact .inl rfl
    · exact .inr h
theorem lpart_step {M : Int} (hM : Big M) {p : Part} (ht : p ≠ .turn) (q1 q3 q4 : Option PV) (A : Nat) (μ : Mem) (hA : μ.length ≤ A) (acc : List ER) (hacc : ∀ x ∈ acc, Small M x) (hl : acc.length ≤ 100000) (hs : ∀ z, acc.getLast? = some z → ∃ e, z.2 = some e) (r : ER) (m : Mem) (h1 : m[A]? = some (.lst (acc.map ER.pv))) (h2 : Ext μ m) (P : PL.Env → Mem → Prop)
    (hP : ∀ m' q3 q4, m'[A]? = some (.lst ((pstep (pa p).1 (pa p).2 acc r).map ER.pv)) → Ext μ m' → P [some p.pv, q1, some (.ref A), q3, q4] m') :
    (turn (tt 2 (tc (tn 3) (tc (tn 4) t0))) (seq (PL.cond (PL.and (app2 fNe (app2 fIx (v 0) (c (.int 0))) (c (.str ("off" : Str)))) (app2 fNotN (v 3) (c .non)))
    (setv 3 (app2 fAdd (v 3) (app2 fIx (v 0) (c (.int 1)))))
    skip)
   (seq (PL.cond (PL.and (app2 fNe (app2 fIx (v 0) (c (.int 0))) (c (.str ("on" : Str)))) (app2 fNotN (v 4) (c .non)))
    (setv 4 (app2 fAdd (v 4) (app2 fIx (v 0) (c (.int 1)))))
    skip)
   (PL.cond (PL.and (app2 fNotN (v 3) (c .non)) (PL.and (app2 fNe (v 2) (app fLst an)) (app2 fGe (app2 fIx (app2 fIx (v 2) (app1 fNeg (c (.int 1)))) (c (.int 1))) (v 3))))
    (asg (tsub fSet (v 2) (app1 fNeg (c (.int 1)))) (app fTup (ac (app2 fIx (app2 fIx (v 2) (app1 fNeg (c (.int 1)))) (c (.int 0))) (ac (v 4) an))))
    (PL.cond (PL.or (app2 fIsN (v 3) (c .non)) (PL.or (app2 fIsN (v 4) (c .non)) (app2 fLt (v 3) (v 4))))
     (PL.exp (mth .list fAppend (v 2) (ac (app fTup (ac (v 3) (ac (v 4) an))) an)))
     skip)))) (ER.pv r) [some p.pv, q1, some (.ref A), q3, q4] m).sat { nx := P, ct := P } := by
  rcases r with ⟨x, y⟩
  have key : ∀ (x' y' : Option Int), (∀ m' q3 q4, m'[A]? = some (.lst ((pput acc (x', y')).map ER.pv)) → Ext μ m' → P [some p.pv, q1, some (.ref A), q3, q4] m') →
     ((PL.cond (PL.and (app2 fNotN (v 3) (c .non)) (PL.and (app2 fNe (v 2) (app fLst an)) (app2 fGe (app2 fIx (app2 fIx (v 2) (app1 fNeg (c (.int 1)))) (c (.int 1))) (v 3))))
    (asg (tsub fSet (v 2) (app1 fNeg (c (.int 1)))) (app fTup (ac (app2 fIx (app2 fIx (v 2) (app1 fNeg (c (.int 1)))) (c (.int 0))) (ac (v 4) an))))
    (PL.cond (PL.or (app2 fIsN (v 3) (c .non)) (PL.or (app2 fIsN (v 4) (c .non)) (app2 fLt (v 3) (v 4))))
     (PL.exp (mth .list fAppend (v 2) (ac (app fTup (ac (v 3) (ac (v 4) an))) an)))
     skip)) [some p.pv, q1, some (.ref A), some (opt x'), some (opt y')] m).sat { nx := P, ct := P } := by
    intro x' y' hP
    have en := ers_ne hM hacc (μ := m ++ [.lst []]) (a := A) (n := m.length) (get_some h1) (by simp)
    have hz : acc.length < 16777216 := by omega
    have h1' : (m ++ [.lst []])[A]? = some (.lst (acc.map ER.pv)) := get_some h1
    have he2 : Ext μ (m ++ [.lst []]) := h2.trans (Ext.app _ _)
    have lg := (List.getElem?_eq_some_iff.mp h1).1
    have Q0 : pput acc (x', y') = acc → P [some p.pv, q1, some (.ref A), some (opt x'), some (opt y')] m := fun hz => hP _ _ _ (by rw [hz]; exact h1) h2
    have Q1 : ∀ z, pput acc (x', y') = z → P [some p.pv, q1, some (.ref A), some (opt x'), some (opt y')] (m.set A (PO.lst (z.map ER.pv))) := fun z hz => by
      rw [← hz]
      exact hP _ _ _ (get_set_same h1) (h2.set hA _)
    have Q0' : pput acc (x', y') = acc → P [some p.pv, q1, some (.ref A), some (opt x'), some (opt y')] (m ++ [PO.lst []]) := fun hz => hP _ _ _ (by rw [hz]; exact h1') he2
    have Q2 : ∀ z, pput acc (x', y') = z → P [some p.pv, q1, some (.ref A), some (opt x'), some (opt y')] ((m ++ [PO.lst []]).set A (PO.lst (z.map ER.pv))) := fun z hz => by
      rw [← hz]
      exact hP _ _ _ (get_set_same h1') (he2.set hA _)
    cases x' with
    | none =>
      have q := Q1 (acc ++ [(none, y')]) (by simp [pput, joins, ltE])
      simp [opt_no, h1, hz]
      simpa [ER.pv, opt_no] using q
    | some b =>
      rcases List.eq_nil_or_concat acc with rfl | ⟨acc', l, rfl⟩
      · simp at en
        cases y' with
        | none =>
          have q := Q2 ([(some b, none)]) (by simp [pput, joins, ltE])
          simp [opt_so, opt_no, en, h1]
          simpa [ER.pv, opt_no, opt_so] using q
        | some e =>
          by_cases hlt : b < e
          · have q := Q2 ([(some b, some e)]) (by simp [pput, joins, ltE, hlt])
            simp [opt_so, en, h1, hlt]
            simpa [ER.pv, opt_no, opt_so] using q
          · have q := Q0' (by simp [pput, joins, ltE]; omega)
            simp [opt_so, en, hlt]
            simpa [ER.pv, opt_no, opt_so] using q
      · rw [List.concat_eq_append] at *
        have hE : (acc' ++ [l]).isEmpty = false := by simp
        rw [hE] at en
        have hz3 : acc'.length + 1 < 16777216 := by simp at hz; omega
        obtain ⟨le, hle⟩ := hs l (by simp)
        rcases l with ⟨l1, l2⟩
        simp only at hle
        subst hle
        have hj : joins (acc' ++ [(l1, some le)]) (some b, y') = decide (b ≤ le) := by
          unfold joins
          simp
        simp at h1
        by_cases c : b ≤ le
        · have q := Q2 (acc' ++ [(l1, y')]) (by unfold pput; rw [hj]; simp [c])
          cases y' <;> simp [opt_so, opt_no, en, h1, c, ix_er1, ix_er0] <;> simpa [ER.pv, opt_no, opt_so] using q
        · cases y' with
          | none =>
            have q := Q2 (acc' ++ [(l1, some le)] ++ [(some b, none)]) (by unfold pput; rw [hj]; simp [c, ltE])
            simp [opt_so, opt_no, en, h1, c, ix_er1, ix_er0, hz3]
            simpa [ER.pv, opt_no, opt_so] using q
          | some e =>
            by_cases hlt : b < e
            · have q := Q2 (acc' ++ [(l1, some le)] ++ [(some b, some e)]) (by unfold pput; rw [hj]; simp [c, ltE, hlt])
              simp [opt_so, opt_no, en, h1, c, ix_er1, ix_er0, hz3, hlt]
              simpa [ER.pv, opt_no, opt_so] using q
            · have q := Q0' (by unfold pput; rw [hj]; simp [c, ltE]; omega)
              simp [opt_so, opt_no, en, h1, c, ix_er1, ix_er0, hlt]
              simpa [ER.pv, opt_no, opt_so] using q
  have k2 := key (x.map (· + (pa p).1)) (y.map (· + (pa p).2)) hP
  clear key hP
  simp only [turn_ev, tt_er, tc_ev, tn_ev, t0_ev, Res.bind_ok, Out.of_ok, List.set]
  generalize (PL.cond (PL.and (app2 fNotN (v 3) (c .non)) (PL.and (app2 fNe (v 2) (app fLst an)) (app2 fGe (app2 fIx (app2 fIx (v 2) (app1 fNeg (c (.int 1)))) (c (.int 1))) (v 3)))) _ _ : Sm) = tail at *
  cases p with
  | turn => exact absurd rfl ht
  | on k => cases x <;> cases y <;> simp [pv_on, opt_no, opt_so, pa] at k2 ⊢ <;> exact k2
  | off k => cases x <;> cases y <;> simp [pv_off, opt_no, opt_so, pa] at k2 ⊢ <;> exact k2
  | delay k => cases x <;> cases y <;> simp [pv_delay, opt_no, opt_so, pa] at k2 ⊢ <;> exact k2
theorem small_mv' {M K : Int} {r : ER} (h : Small M r) {a b : Int} (ha : -K ≤ a ∧ a ≤ K) (hb : -K ≤ b ∧ b ≤ K) : Small (M + K) (mvE a b r) := by
  rcases r with ⟨x, y⟩
  constructor
  · intro v hv
    cases x with
    | none => nomatch hv
    | some x => simp [mvE] at hv; have := h.1 x rfl; omega
  · intro v hv
    cases y with
    | none => nomatch hv
    | some y => simp [mvE] at hv; have := h.2 y rfl; omega
theorem lpart_ev {M : Int} {B : Nat} (hM : Big (M + B)) (h0 : 0 ≤ M) {x : Fl} (h : FOk M x) (hl : x.2.length ≤ 10000) {p : Part} (hp : p.ok B) (a : Nat) (μ : Mem) (ha : μ[a]? = some (.lst ((eF x).map ER.pv))) : (m__law_part [p.pv, .ref a] μ).sat (NewL μ ((eF (fbp x p)).map ER.pv)) := by
  apply fn_sat_new
  apply run_sat
  unfold b__law_part
  have hlen := eF_len' h
  have hsm := smallF' h0 h
  have h1 := hp.1
  have h2 := hp.2
  by_cases ht : p = .turn
  · subst ht
    obtain ⟨r, m2, e, k, rfl, w⟩ := rsat_ex (lturn_ev ⟨by have := hM.1; omega, by have := hM.2; omega⟩ h0 h hl a μ ha)
    simp [pv_turn, e]
    exact ⟨k, rfl, w⟩
  simp only [List.map_cons, List.map_nil, List.length_cons, List.length_nil, List.replicate, List.cons_append, List.nil_append, Nat.reduceAdd, Nat.reduceSub]
  refine seq_sat (fun e m => m = μ ∧ e = [some p.pv, some (.ref a), none, none, none]) ?_ ?_
  · cases p with
    | turn => exact absurd rfl ht
    | on k => simp [pv_on]
    | off k => simp [pv_off]
    | delay k => simp [pv_delay]
  rintro e m ⟨hm, rfl⟩
  subst hm
  have hpa : (-(B : Int) ≤ (pa p).1 ∧ (pa p).1 ≤ B) ∧ (-(B : Int) ≤ (pa p).2 ∧ (pa p).2 ≤ B) := by
    cases p <;> simp only [pa, num_turn, num_on, num_off, num_delay] at h1 h2 ⊢ <;> omega
  have hnx := (lawL_LOk h0 (fok_fit h)).nx
  rw [lawL_eF h] at hnx
  rw [← part_eF h.wd h1 ht]
  generalize eF x = L at *
  have hz : L.length < 16777216 := by omega
  simp [ha]
  refine for_thru ER.pv L (fun i e m' => ∃ q3 q4, e = [some p.pv, some (.ref a), some (.ref m.length), q3, q4] ∧ m'[m.length]? = some (.lst (((L.take i).foldl (pstep (pa p).1 (pa p).2) []).map ER.pv)) ∧ Ext m m' ∧ (∀ y ∈ (L.take i).foldl (pstep (pa p).1 (pa p).2) [], Small (M + B) y) ∧ ((L.take i).foldl (pstep (pa p).1 (pa p).2) []).length ≤ i ∧ (∀ z, ((L.take i).foldl (pstep (pa p).1 (pa p).2) []).getLast? = some z → i < L.length → ∃ e, z.2 = some e)) ?_ ?_ ?_ ?_
  · rintro i e m' ⟨q3, q4, rfl, _, h2, _⟩
    exact locked_lst _ (h2.get ha)
  · exact ⟨none, none, rfl, by simp, Ext.app _ _, by simp, by simp, fun z hz => (nomatch hz)⟩
  · rintro i r e m' hx ⟨q3, q4, rfl, g1, g2, g3, g4, g5⟩
    have hi := lt_of_get hx
    rw [take_succ' hx, List.foldl_append]
    simp only [List.foldl_cons, List.foldl_nil]
    generalize (L.take i).foldl (pstep (pa p).1 (pa p).2) [] = acc at *
    refine lpart_step hM ht (some (.ref a)) q3 q4 m.length m (Nat.le_refl _) acc g3 (by omega) (fun z hz => g5 z hz hi) r m' g1 g2 _ ?_
    intro m2 q3 q4 w1 w2
    refine ⟨q3, q4, rfl, w1, w2, ?_, ?_, ?_⟩
    · exact pput_small g3 (small_mv' (hsm r (List.mem_of_getElem? hx)) hpa.1 hpa.2)
    · have := pput_len acc (mvE (pa p).1 (pa p).2 r)
      unfold pstep
      omega
    · intro z hz hi2
      rcases pput_last _ _ _ hz with h | h
      · obtain ⟨⟨e, he⟩, _⟩ := hnx i r L[i + 1] hx (List.getElem?_eq_getElem hi2)
        exact ⟨e + (pa p).2, by rw [h]; simp [mvE, he]⟩
      · exact g5 z h hi
  · rintro e m' ⟨q3, q4, rfl, g1, g2, _⟩
    rw [List.take_length] at g1
    simp
    exact newL_mk (Nat.le_refl _) g1 g2
/-- a list somewhere, the old memory as it was -/
def AtK (μ : Mem) (a : Nat) (l : List PV) (p : PV) (m : Mem) : Prop := ∃ k, p = .ref k ∧ (k = a ∨ μ.length ≤ k) ∧ m[k]? = some (.lst l) ∧ Ext μ m
theorem fn_sat_atK {n : Nat} {b : Sm} {args : List PV} {μ : Mem} {a : Nat} {l : List PV} (h : (run n b args μ).sat (AtK μ a l)) : (fn n b args μ).sat (AtK μ a l) := by
  refine fn_sat h ?_
  rintro p m ⟨k, rfl, h0, h1, h2⟩ _ hu
  have hk : k < μ.length := by simpa [PV.under] using hu
  obtain ⟨l', rfl⟩ := h2
  rw [List.take_left]
  rw [List.getElem?_append_left hk] at h1
  exact ⟨k, rfl, h0, h1, Ext.refl _⟩
theorem lled_ev {M : Int} {B : Nat} {row : List Part} {x : Fl} (h : RX0 M B row x) (hl : x.2.length ≤ 10000) (a : Nat) (μ : Mem) (ha : μ[a]? = some (.lst ((eF x).map ER.pv))) : (m__law_led [pvs row, .ref a] μ).sat (AtK μ a ((eF (fans row x)).map ER.pv)) := by
  apply fn_sat_atK
  apply run_sat
  unfold b__law_led
  have hm := h.m0
  have hbg := h.big
  simp
  refine for_thru Part.pv row (fun i e m => ∃ k q3, e = [some (pvs row), some (.ref a), some (.ref k), q3] ∧ (k = a ∨ μ.length ≤ k) ∧ m[k]? = some (.lst ((eF (fans (row.take i) x)).map ER.pv)) ∧ Ext μ m) (fun _ _ _ _ => locked_nil _) ⟨a, none, rfl, .inl rfl, ha, Ext.refl _⟩ ?_ ?_
  · rintro i p e m hx ⟨k, q3, rfl, h0, h1, h2⟩
    have hok := h.take i
    have hle := fans_len (row.take i) x
    obtain ⟨r, m2, e2, k2, rfl, w0, w1, w2⟩ := rsat_ex (lpart_ev (M := M + 300 * B) ⟨by omega, by omega⟩ (by omega) hok (by omega) (h.pok p (List.mem_of_getElem? hx)) k m h1)
    rw [fans_take hx]
    have := h2.len
    simp only [pvs] at e2 ⊢
    simp [e2]
    exact ⟨.inr (by omega), w1, h2.trans w2⟩
  · rintro e m ⟨k, q3, rfl, h0, h1, h2⟩
    rw [List.take_length] at h1
    simp
    exact ⟨k, rfl, h0, h1, h2⟩
end Law
end
section
set_option autoImplicit false
/-! _law_trials, run. -/
namespace Law
open PySem PL
/-- a list of lists of runs -/
structure RL (m : Mem) (k : Nat) (as : List (Nat × Fl)) : Prop where
  at_ : m[k]? = some (.lst (as.map fun z => .ref z.1))
  el : ∀ z ∈ as, z.1 ≠ k ∧ m[z.1]? = some (.lst ((eF z.2).map ER.pv))
theorem RL.ext {m m' : Mem} {k : Nat} {as : List (Nat × Fl)} (h : RL m k as) (e : Ext m m') : RL m' k as := ⟨e.get h.at_, fun z hz => ⟨(h.el z hz).1, e.get (h.el z hz).2⟩⟩
theorem RL.push {m : Mem} {k : Nat} {as : List (Nat × Fl)} (h : RL m k as) {b : Nat} {x : Fl} (hb : b ≠ k) (hx : m[b]? = some (.lst ((eF x).map ER.pv))) : RL (m.set k (.lst ((as.map fun z => PV.ref z.1) ++ [.ref b]))) k (as ++ [(b, x)]) := by
  have hk := (List.getElem?_eq_some_iff.mp h.at_).1
  refine ⟨?_, ?_⟩
  · rw [List.getElem?_set_self hk]; simp
  · intro z hz
    rcases List.mem_append.mp hz with hz | hz
    · exact ⟨(h.el z hz).1, by rw [List.getElem?_set_ne (Ne.symm (h.el z hz).1)]; exact (h.el z hz).2⟩
    · simp at hz
      subst hz
      exact ⟨hb, by rw [List.getElem?_set_ne (Ne.symm hb)]; exact hx⟩
theorem rangeL_I (a b : Int) : rangeL a (b - a).toNat = (rangeI a b).map .int := by
  unfold rangeL rangeI
  simp [Function.comp_def]
theorem eF_trn1 (on off : Int) (n : Nat) : (eF (false, trn on off (n + 1))) = eF (false, trn on off n) ++ [(some (n * (on + off)), some (n * (on + off) + on))] := by
  show eL _ = _
  rw [trn, eL_two _ _ _ (by rw [trn_len]; omega)]
  rfl
def TrI (μ : Mem) (ons offs most : Int) (A : Nat) (X : List Fl) (q4 q5 q6 : Option PV) (e : PL.Env) (m : Mem) : Prop :=
  e = [some (.int ons), some (.int offs), some (.int most), some (.ref A), q4, q5, q6] ∧ Ext μ m ∧ ∃ as, RL m A as ∧ as.map (·.2) = X
theorem tr_train {on off most : Int} (h1 : 1 ≤ on) (h2 : 1 ≤ off) (hm : most ≤ 1000) (hon : on ≤ 1000000) (hof : off ≤ 1000000) (q0 q1 q3 : Option PV) (T : Nat) (μ : Mem) (hT : μ.length ≤ T) (m : Mem) (hx : Ext μ m)
    (hc : m[T]? = some (.lst ((eF (false, trn on off 2)).map ER.pv))) :
    (whileS (app2 fLe (app2 fIx (app2 fIx (v 6) (app1 fNeg (c (.int 1)))) (c (.int 1))) (v 2))
     (PL.exp (mth .list fAppend (v 6) (ac (app fTup (ac (app2 fAdd (app2 fIx (app2 fIx (v 6) (app1 fNeg (c (.int 1)))) (c (.int 1))) (v 4)) (ac (app2 fAdd (app2 fAdd (app2 fIx (app2 fIx (v 6) (app1 fNeg (c (.int 1)))) (c (.int 1))) (v 4)) (v 5)) an))) an))) [q0, q1, some (.int most), q3, some (.int off), some (.int on), some (.ref T)] m).sat { nx := fun e m' => e = [q0, q1, some (.int most), q3, some (.int off), some (.int on), some (.ref T)] ∧ Ext μ m' ∧ m'[T]? = some (.lst ((eF (false, trn on off (trnN on off most))).map ER.pv)) } := by
  have hw : ∀ (o : Out), (o.then fun e m => Out.nx e m) = o := fun o => by cases o <;> rfl
  have hN : trnN on off most ≤ 1003 := by
    by_cases h : trnN on off most ≤ 2
    · omega
    · have hs := (trnN_stop h1 h2 (most := most) (trnN on off most - 1) (by omega)).mp (by omega)
      have e : ((trnN on off most - 1 : Nat) : Int) = (trnN on off most : Int) - 1 := by omega
      rw [e] at hs
      have e3 : ((trnN on off most : Int) - 1) * (on + off) = ((trnN on off most : Int) - 2) * (on + off) + (on + off) := by rw [Int.sub_mul, Int.sub_mul]; omega
      have h2 : ((trnN on off most : Int) - 2) * 2 ≤ ((trnN on off most : Int) - 2) * (on + off) := Int.mul_le_mul_of_nonneg_left (by omega) (by omega)
      omega
  have h2N : 2 ≤ trnN on off most := by unfold trnN; omega
  unfold whileS
  rw [← hw (whileN _ _ _ _ _)]
  refine while_sat (fun n e m => ∃ k : Nat, 2 ≤ k ∧ k + n = trnN on off most ∧ e = [q0, q1, some (.int most), q3, some (.int off), some (.int on), some (.ref T)] ∧ Ext μ m ∧ m[T]? = some (.lst ((eF (false, trn on off k)).map ER.pv))) (trnN on off most - 2) (by unfold fuel; omega) ⟨2, Nat.le_refl _, by omega, rfl, hx, hc⟩ ?_
  rintro n e m ⟨k, hk, hn, rfl, hx, hc⟩
  obtain ⟨k', rfl⟩ : ∃ k', k = k' + 1 := ⟨k - 1, by omega⟩
  have hlen := eL_len (trn on off (k' + 1))
  rw [trn_len] at hlen
  have hz : (eF (false, trn on off (k' + 1))).length < 16777216 := by
    have : eF (false, trn on off (k' + 1)) = eL (trn on off (k' + 1)) := rfl
    rw [this]; omega
  have hst := trnN_stop h1 h2 (most := most) (k' + 1) hk
  have hk1 : ((k' + 1 : Nat) : Int) * (on + off) = k' * (on + off) + (on + off) := by push_cast; rw [Int.add_mul]; omega
  have e1 := eF_trn1 on off k'
  have e2 := eF_trn1 on off (k' + 1)
  have hxs := hx.set hT (.lst ((eF (false, trn on off (k' + 1 + 1))).map ER.pv))
  have hcs : (m.set T (.lst ((eF (false, trn on off (k' + 1 + 1))).map ER.pv)))[T]? = some (.lst ((eF (false, trn on off (k' + 1 + 1))).map ER.pv)) := get_set_same hc
  have i1 : ∀ (a b : Option Int) μ, fIx [ER.pv (a, b), .int 1] μ = .ok (opt b) μ := fun a b μ => rfl
  have hm1 : (eF (false, trn on off (k' + 1))).map ER.pv = (eF (false, trn on off k')).map ER.pv ++ [ER.pv (some (k' * (on + off)), some (k' * (on + off) + on))] := by rw [e1]; simp
  have hm2 : (eF (false, trn on off (k' + 1 + 1))).map ER.pv = (eF (false, trn on off k')).map ER.pv ++ [ER.pv (some (k' * (on + off)), some (k' * (on + off) + on)), PV.tup [.int (k' * (on + off) + on + off), .int (k' * (on + off) + on + off + on)]] := by
    rw [e2, e1, hk1]
    simp [ER.pv, opt]
    omega
  have hl1 : (eF (false, trn on off k')).length + 1 < 16777216 := by rw [e1] at hz; simpa using hz
  rw [hm1] at hc
  rw [hm2] at hxs hcs
  by_cases hb : k' * (on + off) + on ≤ most
  · have hlt := hst.mpr (by omega)
    generalize (eF (false, trn on off k')) = L at *
    generalize (k' : Int) * (on + off) = kk at *
    simp [hc, i1, opt_so, hb, hl1]
    refine ⟨n - 1, by omega, k' + 1 + 1, by omega, by omega, hxs, ?_⟩
    rw [hm2] <;> exact hcs
  · have hge : trnN on off most = k' + 1 := by
      have : ¬ (k' + 1 < trnN on off most) := fun h => hb (by have := hst.mp h; omega)
      omega
    rw [hge, hm1]
    generalize (eF (false, trn on off k')) = L at *
    generalize (k' : Int) * (on + off) = kk at *
    simp [hc, i1, opt_so, hb]
    exact hx
theorem len_lt {m : Mem} {k : Nat} {o : PO} (h : m[k]? = some o) : k < m.length := (List.getElem?_eq_some_iff.mp h).1
theorem tr_in {on off most ons offs : Int} (h1 : 1 ≤ on) (h2 : 1 ≤ off) (hm : most ≤ 1000) (hon : on ≤ 1000000) (hof : off ≤ 1000000) (A : Nat) (μ : Mem) (hA : μ.length ≤ A) (X : List Fl) (hX : X.length ≤ 1000000) (q4 q6 : Option PV) (m : Mem) (h : TrI μ ons offs most A X q4 (some (.int on)) q6 [some (.int ons), some (.int offs), some (.int most), some (.ref A), q4, some (.int on), q6] m) :
    (turn (tn 4) (seq (setv 6 (app fLst (ac (app fTup (ac (c (.int 0)) (ac (v 5) an))) (ac (app fTup (ac (app2 fAdd (v 5) (v 4)) (ac (app2 fAdd (app2 fMul (c (.int 2)) (v 5)) (v 4)) an))) an))))
    (seq (whileS (app2 fLe (app2 fIx (app2 fIx (v 6) (app1 fNeg (c (.int 1)))) (c (.int 1))) (v 2))
     (PL.exp (mth .list fAppend (v 6) (ac (app fTup (ac (app2 fAdd (app2 fIx (app2 fIx (v 6) (app1 fNeg (c (.int 1)))) (c (.int 1))) (v 4)) (ac (app2 fAdd (app2 fAdd (app2 fIx (app2 fIx (v 6) (app1 fNeg (c (.int 1)))) (c (.int 1))) (v 4)) (v 5)) an))) an))))
    (PL.exp (mth .list fAppend (v 3) (ac (v 6) an))))) (.int off) [some (.int ons), some (.int offs), some (.int most), some (.ref A), q4, some (.int on), q6] m).sat { nx := fun e m' => ∃ q6, TrI μ ons offs most A (X ++ [(false, trn on off (trnN on off most))]) (some (.int off)) (some (.int on)) q6 e m' } := by
  obtain ⟨-, hx, as, hR, hXs⟩ := h
  have hAl := len_lt hR.at_
  have ml : mulOk 2 on := .inl (by omega)
  have hasl : as.length = X.length := by rw [← hXs]; simp
  simp only [turn_ev, tn_ev, Out.of_ok, List.set]
  refine seq_sat (fun e m' => m' = m ++ [.lst ((eF (false, trn on off 2)).map ER.pv)] ∧ e = [some (.int ons), some (.int offs), some (.int most), some (.ref A), some (.int off), some (.int on), some (.ref m.length)]) ?_ ?_
  · have e2 : (eF (false, trn on off 2)).map ER.pv = [PV.tup [.int 0, .int on], .tup [.int (on + off), .int (2 * on + off)]] := by
      have : eF (false, trn on off 2) = [(some 0, some on), (some (on + off), some (2 * on + off))] := by
        simp [eF, trn, eL]
        omega
      rw [this]; simp [ER.pv, opt]
    rw [e2]
    simp [ml]
  rintro e m' ⟨rfl, rfl⟩
  have t := tr_train h1 h2 hm hon hof (some (.int ons)) (some (.int offs)) (some (.ref A)) m.length m (Nat.le_refl _) (m ++ [.lst ((eF (false, trn on off 2)).map ER.pv)]) (Ext.app _ _) (by simp)
  refine seq_sat _ t ?_
  rintro e m3 ⟨rfl, x3, c3⟩
  have hR3 := hR.ext x3
  have hz : (as.map fun z => PV.ref z.1).length < 16777216 := by simp; omega
  have pu := hR3.push (b := m.length) (x := (false, trn on off (trnN on off most))) (by omega) c3
  have c4 := hR3.at_
  simp only [List.length_map] at hz
  have hx3 := (hx.trans x3).set hA (.lst ((as.map fun z => PV.ref z.1) ++ [.ref m.length]))
  simp [c4, hz]
  exact ⟨_, rfl, hx3, _, pu, by simp [hXs]⟩
theorem tr_first (ons offs most : Int) (A : Nat) (μ : Mem) (hA : μ.length ≤ A) (X : List Fl) (hX : X.length ≤ 1000000) (q4 q5 q6 : Option PV) (m : Mem) (off : Int) (h : TrI μ ons offs most A X q4 q5 q6 [some (.int ons), some (.int offs), some (.int most), some (.ref A), q4, q5, q6] m) :
    (turn (tn 4) (PL.exp (mth .list fAppend (v 3) (ac (app fLst (ac (app fTup (ac (c .non) (ac (c (.int 0)) an))) (ac (app fTup (ac (v 4) (ac (c .non) an))) an))) an))) (.int off) [some (.int ons), some (.int offs), some (.int most), some (.ref A), q4, q5, q6] m).sat { nx := TrI μ ons offs most A (X ++ [(true, [0, off])]) (some (.int off)) q5 q6 } := by
  obtain ⟨-, hx, as, hR, hXs⟩ := h
  have hAl := len_lt hR.at_
  have hasl : as.length = X.length := by rw [← hXs]; simp
  have x3 : Ext m (m ++ [.lst [.tup [.non, .int 0], .tup [.int off, .non]]]) := Ext.app _ _
  have hR3 := hR.ext x3
  have hz : as.length < 16777216 := by omega
  have pu := hR3.push (b := m.length) (x := (true, [0, off])) (by omega) (by simp [eF, eT, eL, ER.pv, opt])
  have c4 := hR3.at_
  have hx3 := (hx.trans x3).set hA (.lst ((as.map fun z => PV.ref z.1) ++ [.ref m.length]))
  simp only [turn_ev, tn_ev, Out.of_ok, List.set]
  have c0 := hR.at_
  simp [c0, c4, hz]
  exact ⟨rfl, hx3, _, pu, by simp [hXs]⟩
theorem tr_one (ons offs most on : Int) (A : Nat) (μ : Mem) (hA : μ.length ≤ A) (X : List Fl) (hX : X.length ≤ 1000000) (q4 q6 : Option PV) (m : Mem) (h : TrI μ ons offs most A X q4 (some (.int on)) q6 [some (.int ons), some (.int offs), some (.int most), some (.ref A), q4, some (.int on), q6] m) :
    ((PL.exp (mth .list fAppend (v 3) (ac (app fLst (ac (app fTup (ac (c (.int 0)) (ac (v 5) an))) an)) an))) [some (.int ons), some (.int offs), some (.int most), some (.ref A), q4, some (.int on), q6] m).sat { nx := TrI μ ons offs most A (X ++ [(false, [0, on])]) q4 (some (.int on)) q6 } := by
  obtain ⟨-, hx, as, hR, hXs⟩ := h
  have hAl := len_lt hR.at_
  have hasl : as.length = X.length := by rw [← hXs]; simp
  have x3 : Ext m (m ++ [.lst [.tup [.int 0, .int on]]]) := Ext.app _ _
  have hR3 := hR.ext x3
  have hz : as.length < 16777216 := by omega
  have pu := hR3.push (b := m.length) (x := (false, [0, on])) (by omega) (by simp [eF, eL, ER.pv, opt])
  have c4 := hR3.at_
  have hx3 := (hx.trans x3).set hA (.lst ((as.map fun z => PV.ref z.1) ++ [.ref m.length]))
  have c0 := hR.at_
  simp [c0, c4, hz]
  exact ⟨rfl, hx3, _, pu, by simp [hXs]⟩
theorem rangeI_len (a b : Int) : (rangeI a b).length = (b - a).toNat := by simp [rangeI]
theorem law_trials_ev {ons offs most : Int} (h1 : 1 ≤ ons ∧ ons ≤ 1000000) (h2 : 1 ≤ offs ∧ offs ≤ 1000000) (h3 : 0 ≤ most) (hm : most ≤ 100) (μ : Mem) :
    (m__law_trials [.int ons, .int offs, .int most] μ).sat fun p m' => ∃ k as, p = .ref k ∧ μ.length ≤ k ∧ RL m' k as ∧ as.map (·.2) = trials ons offs most ∧ Ext μ m' := by
  refine fn_sat ?_ ?_
  rotate_left
  · rintro p m' ⟨k, as, rfl, hk, _⟩ _ hu
    simp [PV.under] at hu; omega
  apply run_sat
  unfold b__law_trials
  simp only [List.map_cons, List.map_nil, List.length_cons, List.length_nil, List.replicate, List.cons_append, List.nil_append, Nat.reduceAdd, Nat.reduceSub]
  refine seq_sat (TrI μ ons offs most (μ.length + 4) [(false, []), (true, []), (false, [0]), (true, [0])] none none none) ?_ ?_
  · simp
    refine ⟨rfl, Ext.app _ _, [(μ.length, (false, [])), (μ.length + 1, (true, [])), (μ.length + 2, (false, [0])), (μ.length + 3, (true, [0]))], ⟨?_, ?_⟩, rfl⟩
    · exact get_new _ _ 4
    · intro z hz
      simp at hz
      rcases hz with rfl | rfl | rfl | rfl
      · exact ⟨by simp, get_new _ _ 0⟩
      · exact ⟨by simp, get_new _ _ 1⟩
      · exact ⟨by simp, get_new _ _ 2⟩
      · exact ⟨by simp, get_new _ _ 3⟩
  rintro e m hI
  refine seq_sat (fun e m => ∃ q4, TrI μ ons offs most (μ.length + 4) ([(false, []), (true, []), (false, [0]), (true, [0])] ++ (rangeI offs (most + 2)).map (fun off => (true, [0, off]))) q4 none none e m) ?_ ?_
  · obtain ⟨rfl, hx, hR⟩ := hI
    simp only [forS_ev]
    have hit : iRng2w (v 1) (app2 fAdd (v 2) (c (.int 2))) [some (.int ons), some (.int offs), some (.int most), some (.ref (μ.length + 4)), none, none, none] m = .ok ⟨(rangeI offs (most + 2)).map .int, []⟩ m := by
      rw [← rangeL_I]
      simp [iRng2w]
    rw [hit]
    simp only [Out.of_ok]
    refine for_sat0 PV.int (rangeI offs (most + 2)) (fun i e m => ∃ q4, TrI μ ons offs most (μ.length + 4) ([(false, []), (true, []), (false, [0]), (true, [0])] ++ ((rangeI offs (most + 2)).take i).map (fun off => (true, [0, off]))) q4 none none e m) (fun _ _ _ _ => locked_nil _) ⟨none, rfl, hx, by simpa using hR⟩ ?_ ?_
    · rintro i off e m hof ⟨q4, hI⟩
      have hi := lt_of_get hof
      rw [rangeI_len] at hi
      have he := hI.1
      subst he
      rw [take_succ' hof, List.map_append, ← List.append_assoc]
      refine nx_only (tr_first ons offs most (μ.length + 4) μ (by omega) _ ?_ q4 none none m off hI) ?_
      · simp; omega
      · intro e m h; exact ⟨_, h⟩
    · rintro e m ⟨q4, h⟩
      rw [List.take_length] at h
      exact ⟨q4, h⟩
  rintro e m ⟨q4, hI⟩
  generalize hX0 : ([(false, []), (true, []), (false, [0]), (true, [0])] ++ (rangeI offs (most + 2)).map (fun off => (true, [0, off])) : List Fl) = X0 at hI
  have hX0l : X0.length ≤ 200 := by rw [← hX0]; simp [rangeI_len]; omega
  refine seq_sat (fun e m => ∃ q4 q5 q6, TrI μ ons offs most (μ.length + 4) (trials ons offs most) q4 q5 q6 e m) ?_ ?_
  · obtain ⟨rfl, hx, hR⟩ := hI
    simp only [forS_ev]
    have hit : iRng2w (v 0) (app2 fAdd (v 2) (c (.int 2))) [some (.int ons), some (.int offs), some (.int most), some (.ref (μ.length + 4)), q4, none, none] m = .ok ⟨(rangeI ons (most + 2)).map .int, []⟩ m := by
      rw [← rangeL_I]
      simp [iRng2w]
    rw [hit]
    simp only [Out.of_ok]
    refine for_sat0 PV.int (rangeI ons (most + 2)) (fun i e m => ∃ X q4 q5 q6, X = X0 ++ ((rangeI ons (most + 2)).take i).flatMap (fun on => (false, [0, on]) :: (rangeI offs (most + 2)).map (fun off => (false, trn on off (trnN on off most)))) ∧ X.length ≤ 200 + i * 102 ∧ TrI μ ons offs most (μ.length + 4) X q4 q5 q6 e m) (fun _ _ _ _ => locked_nil _) ⟨X0, q4, none, none, by simp, by omega, rfl, hx, hR⟩ ?_ ?_
    · rintro i on e m hon ⟨X, q4, q5, q6, hXe, hXl, hI⟩
      have hi := lt_of_get hon
      rw [rangeI_len] at hi
      have hom := mem_rangeI.mp (List.mem_of_getElem? hon)
      have he := hI.1
      subst he
      simp only [turn_ev, tn_ev, Out.of_ok, List.set]
      refine seq_sat (fun e m => TrI μ ons offs most (μ.length + 4) (X ++ [(false, [0, on])]) q4 (some (.int on)) q6 e m) ?_ ?_
      · exact nx_only (tr_one ons offs most on (μ.length + 4) μ (by omega) X (by omega) q4 q6 m ⟨rfl, hI.2⟩) (fun e m h => h)
      intro e m hI
      obtain ⟨rfl, hx, hR⟩ := hI
      simp only [forS_ev]
      have hit : iRng2w (v 1) (app2 fAdd (v 2) (c (.int 2))) [some (.int ons), some (.int offs), some (.int most), some (.ref (μ.length + 4)), q4, some (.int on), q6] m = .ok ⟨(rangeI offs (most + 2)).map .int, []⟩ m := by
        rw [← rangeL_I]
        simp [iRng2w]
      rw [hit]
      simp only [Out.of_ok]
      refine for_sat0 PV.int (rangeI offs (most + 2)) (fun i' e m => ∃ q4 q6, TrI μ ons offs most (μ.length + 4) (X ++ [(false, [0, on])] ++ ((rangeI offs (most + 2)).take i').map (fun off => (false, trn on off (trnN on off most)))) q4 (some (.int on)) q6 e m) (fun _ _ _ _ => locked_nil _) ⟨q4, q6, rfl, hx, by simpa using hR⟩ ?_ ?_
      · rintro i' off e m hof ⟨q4, q6, hI⟩
        have hi' := lt_of_get hof
        rw [rangeI_len] at hi'
        have hofm := mem_rangeI.mp (List.mem_of_getElem? hof)
        have he := hI.1
        subst he
        rw [take_succ' hof, List.map_append, ← List.append_assoc]
        refine nx_only (tr_in (by omega) (by omega) (by omega) (by omega) (by omega) (μ.length + 4) μ (by omega) _ ?_ q4 q6 m hI) ?_
        · simp; omega
        · rintro e m ⟨q6, h⟩; exact ⟨_, _, h⟩
      · rintro e m ⟨q4, q6, h⟩
        rw [List.take_length] at h
        refine ⟨_, q4, some (.int on), q6, ?_, ?_, h⟩
        · rw [take_succ' hon, List.flatMap_append, hXe]
          simp
        · simp [rangeI_len]; omega
    · rintro e m ⟨X, q4, q5, q6, hXe, _, h⟩
      rw [List.take_length] at hXe
      have : X = trials ons offs most := by rw [hXe, ← hX0]; rfl
      rw [this] at h
      exact ⟨q4, q5, q6, h⟩
  rintro e m ⟨q4, q5, q6, rfl, hx, as, hR, hX⟩
  simp
  exact ⟨as, hR, hX, hx⟩
end Law
end
section
set_option autoImplicit false
/-! Lists of runs compared, moved. -/
namespace Law
open PySem PL
theorem eqv_er2 (x y : ER) : PyData.eqv (ER.pv x).pd (ER.pv y).pd = decide (x = y) := by
  rcases x with ⟨a, b⟩
  rcases y with ⟨c, d⟩
  cases a <;> cases b <;> cases c <;> cases d <;> simp [ER.pv, opt, PyData.eqv, PyData.eqvAll, Prod.ext_iff] <;> rfl
theorem eqvAll_ers : ∀ L L' : List ER, PyData.eqvAll (PV.pds (L.map ER.pv)) (PV.pds (L'.map ER.pv)) = decide (L = L')
  | [], [] => by simp [PyData.eqvAll]
  | [], _ :: _ => by simp [PyData.eqvAll]
  | _ :: _, [] => by simp [PyData.eqvAll]
  | x :: L, y :: L' => by
    simp only [List.map_cons, pds_cons, PyData.eqvAll, eqv_er2, eqvAll_ers L L']
    by_cases h : x = y <;> by_cases g : L = L' <;> simp [h, g]
theorem ers_cmp {M : Int} (hM : Big M) {L L' : List ER} (h : ∀ b ∈ L, Small M b) (h' : ∀ b ∈ L', Small M b) {μ : Mem} {a n : Nat} (ha : μ[a]? = some (.lst (L.map ER.pv))) (hn : μ[n]? = some (.lst (L'.map ER.pv))) :
    fNe [.ref a, .ref n] μ = .ok (.bl (!decide (L = L'))) μ ∧ fEq [.ref a, .ref n] μ = .ok (.bl (decide (L = L'))) μ := by
  have sh : ∀ L : List ER, (∀ b ∈ L, Small M b) → SeqAt.shaped (.list (PV.pds (L.map ER.pv))) = true := fun L h => shaped_sm (by simp; exact sms_map _ _ fun x hx => ER_sm hM (h x hx)) (by have := dps_map ER.pv L 1 (fun x _ => by rw [ER_dp x]; decide); simp; omega)
  have e : PyData.eqv (.list (PV.pds (L.map ER.pv))) (.list (PV.pds (L'.map ER.pv))) = decide (L = L') := by
    rw [← eqvAll_ers]
    simp only [PyData.eqv]
  constructor
  · simp only [fNe, eqR, scalP]
    rw [toD_lst ha (datas_map _ ER_data L), toD_lst hn (datas_map _ ER_data L')]
    simp only
    rw [if_pos ⟨sh L h, sh L' h'⟩, e]
  · simp only [fEq, eqR, scalP]
    rw [toD_lst ha (datas_map _ ER_data L), toD_lst hn (datas_map _ ER_data L')]
    simp only
    rw [if_pos ⟨sh L h, sh L' h'⟩, e]
/-! moved -/
theorem eL_M (a b : Int) : ∀ l : List Int, eL (sh a b l) = (eL l).map (mvE a b)
  | [] => rfl
  | [x] => rfl
  | x :: y :: l => by
    have := eL_M a b l
    simp only [sh, eL, List.map_cons, this]
    rfl
theorem eF_M (a b : Int) (x : Fl) : eF (fM a b x) = (eF x).map (mvE a b) := by
  rcases x with ⟨c, l⟩
  cases c
  · exact eL_M a b l
  · cases l with
    | nil => rfl
    | cons v l =>
      have := eL_M a b l
      simp only [eF, fM, if_true, sh, eT, List.map_cons, this]
      rfl
end Law
end
section
set_option autoImplicit false
/-! Signals tick by tick. -/
namespace Law
open PySem PL
def sem : Bool → List Int → Int → Bool
  | b, [], _ => b
  | b, v :: l, t => if t < v then b else sem (!b) l t
def semF (x : Fl) (t : Int) : Bool := sem x.1 x.2 t
theorem sem_T : ∀ (b : Bool) (l : List Int) (t : Int), sem (!b) l t = !sem b l t
  | _, [], _ => rfl
  | b, v :: l, t => by
    simp only [sem, sem_T (!b) l t]
    split <;> rfl
theorem semF_T (x : Fl) (t : Int) : semF (fT x) t = !semF x t := sem_T _ _ _
theorem sem_before {b : Bool} {l : List Int} {t : Int} (h : ∀ a r, l = a :: r → t < a) : sem b l t = b := by
  cases l with
  | nil => rfl
  | cons a r => rw [sem, if_pos (h a r rfl)]
theorem sem_sh (k : Int) : ∀ (b : Bool) (l : List Int) (t : Int), sem b (sh k k l) t = sem b l (t - k)
  | _, [], _ => rfl
  | b, v :: l, t => by
    simp only [sh, sem, sem_sh k (!b) l t]
    by_cases c : t < v + k
    · rw [if_pos c, if_pos (by omega)]
    · rw [if_neg c, if_neg (by omega)]
theorem semF_delay (k : Int) (x : Fl) (t : Int) : semF (fM k k x) t = semF x (t - k) := by
  rcases x with ⟨b, l⟩
  cases b <;> exact sem_sh k _ l t
theorem sh_head {k : Int} (hk : 0 ≤ k) {l : List Int} {c : Int} (h : ∀ a r, l = a :: r → c < a) : ∀ a r, sh k 0 l = a :: r → c < a := by
  intro a r e
  cases l with
  | nil => nomatch e
  | cons x l => simp only [sh, List.cons.injEq] at e; have := h x l rfl; omega
theorem rm_far {n p q : Int} (hp : 0 ≤ p) (hq : 0 ≤ q) {l : List Int} (hl : alt p q l) {c : Int} (h : ∀ a r, l = a :: r → c < a) : ∀ a r, rm n l = a :: r → c < a := by
  intro a r e
  cases l with
  | nil => simp [rm] at e
  | cons x l =>
    have := rm_head (n := n) hp hq hl x l a r rfl e
    have := h x l rfl
    omega
theorem sem_on (k : Int) (hk : 0 ≤ k) (t : Int) : ∀ l : List Int, alt 0 0 l → (sem false (sh k 0 (rm k l)) t = true ↔ ∀ y, t - k ≤ y → y ≤ t → sem false l y = true)
  | [], _ => by
    constructor
    · intro h; nomatch h
    · intro h; have := h t (by omega) (by omega); nomatch this
  | [a], _ => by
    simp only [rm, sh, sem]
    constructor
    · intro h y h1 h2
      by_cases c : t < a + k
      · simp [c] at h
      · simp; omega
    · intro h
      have := h (t - k) (by omega) (by omega)
      simp at this
      simp; omega
  | a :: b :: l, hl => by
    have h1 := hl.1
    have hl2 := alt_tail (alt_tail hl)
    have hb : ∀ c r, l = c :: r → b < c := by
      intro c r e; subst e; have := hl.2.1; omega
    have ih := sem_on k hk t l hl2
    have hrest : ∀ c r, sh k 0 (rm k l) = c :: r → b < c := sh_head hk (rm_far (Int.le_refl 0) (Int.le_refl 0) hl2 hb)
    have full : ∀ y, sem false (a :: b :: l) y = if y < a then false else if y < b then true else sem false l y := fun y => by
      simp only [sem]; rfl
    by_cases c : t < b
    · have hoff : sem false (sh k 0 (rm k l)) t = false := sem_before fun c r e => by have := hrest c r e; omega
      rw [rm]
      by_cases d : b - a ≤ k
      · rw [if_pos d, hoff]
        constructor
        · intro h; nomatch h
        · intro h
          have := h (t - k) (by omega) (by omega)
          rw [full, if_pos (by omega)] at this
          nomatch this
      · rw [if_neg d]
        have e : sem false (sh k 0 (a :: b :: rm k l)) t = if t < a + k then false else true := by
          simp only [sh, sem]
          rw [if_pos (by omega : t < b + 0)]
          rfl
        rw [e]
        constructor
        · intro h y h1 h2
          by_cases f : t < a + k
          · rw [if_pos f] at h; nomatch h
          · rw [full, if_neg (by omega), if_pos (by omega)]
        · intro h
          by_cases f : t < a + k
          · have := h (t - k) (by omega) (by omega)
            rw [full, if_pos (by omega)] at this
            nomatch this
          · rw [if_neg f]
    · have e : sem false (sh k 0 (rm k (a :: b :: l))) t = sem false (sh k 0 (rm k l)) t := by
        rw [rm]
        by_cases d : b - a ≤ k
        · rw [if_pos d]
        · rw [if_neg d]
          simp only [sh, sem]
          rw [if_neg (by omega), if_neg (by omega)]
          rfl
      rw [e, ih]
      constructor
      · intro h y h1 h2
        by_cases f : t - k < b
        · have := h b (by omega) (by omega)
          rw [sem_before hb] at this
          nomatch this
        · rw [full, if_neg (by omega), if_neg (by omega)]
          exact h y h1 h2
      · intro h y h1 h2
        by_cases f : t - k < b
        · have := h b (by omega) (by omega)
          rw [full, if_neg (by omega), if_neg (by omega), sem_before hb] at this
          nomatch this
        · have := h y h1 h2
          rwa [full, if_neg (by omega), if_neg (by omega)] at this
theorem semF_on {k : Int} (hk : 0 ≤ k) {x : Fl} (hx : Wd 0 0 x) (t : Int) : semF (fM k 0 (fD k x)) t = true ↔ ∀ y, t - k ≤ y → y ≤ t → semF x y = true := by
  rcases x with ⟨b, l⟩
  cases b
  · exact sem_on k hk t l hx
  · cases l with
    | nil => exact ⟨fun _ _ _ _ => rfl, fun _ => rfl⟩
    | cons v l =>
      have h' : alt 0 0 (v :: l) := hx
      have hv : ∀ c r, l = c :: r → v < c := by
        intro c r e; subst e; have := h'.1; omega
      have ih := sem_on k hk t l (alt_tail h')
      have full : ∀ y, semF (true, v :: l) y = if y < v then true else sem false l y := fun y => rfl
      have e : semF (fM k 0 (fD k (true, v :: l))) t = if t < v then true else sem false (sh k 0 (rm k l)) t := by
        show sem true (sh 0 k (v :: rm k l)) t = _
        simp only [sh, sem]
        rw [Int.add_zero]; rfl
      rw [e]
      by_cases c : t < v
      · rw [if_pos c]
        exact ⟨fun _ y _ h2 => by rw [full, if_pos (by omega)], fun _ => rfl⟩
      · rw [if_neg c, ih]
        constructor
        · intro h y h1 h2
          by_cases f : t - k < v
          · have := h v (by omega) (by omega)
            rw [sem_before hv] at this
            nomatch this
          · rw [full, if_neg (by omega)]
            exact h y h1 h2
        · intro h y h1 h2
          by_cases f : t - k < v
          · have := h v (by omega) (by omega)
            rw [full, if_neg (by omega), sem_before hv] at this
            nomatch this
          · have := h y h1 h2
            rwa [full, if_neg (by omega)] at this
theorem semF_off {k : Int} (hk : 0 ≤ k) {x : Fl} (hx : Wd 0 0 x) (t : Int) : semF (fM 0 k (fF k x)) t = false ↔ ∀ y, t - k ≤ y → y ≤ t → semF x y = false := by
  have h := semF_on hk (x := fT x) (Wd_T.mpr hx) t
  rw [fD_T, fM_T, semF_T] at h
  constructor
  · intro h1 y h2 h3
    have := h.mp (by rw [h1]; rfl) y h2 h3
    rw [semF_T] at this
    simpa using this
  · intro h1
    have := h.mpr fun y h2 h3 => by rw [semF_T, h1 y h2 h3]; rfl
    simpa using this
/-! triples tick by tick -/
def inR (R : List Run) (t : Int) : Bool := R.any fun r => decide (r.1 ≤ t) && decide (t < r.2)
def semT (z : Tri) (t : Int) : Bool := (match z.u with | some u => decide (t < u) | none => false) || ((match z.s with | some s => decide (s ≤ t) | none => false) || inR z.R t)
theorem sem_pair : ∀ (l : List Int) (t : Int), alt 0 0 l → sem false l t = ((match (pair l).2 with | some s => decide (s ≤ t) | none => false) || inR (pair l).1 t)
  | [], t, _ => rfl
  | [a], t, _ => by
    simp only [sem, pair, inR, List.any_nil, Bool.or_false]
    by_cases c : t < a
    · rw [if_pos c]; simp; omega
    · rw [if_neg c]; simp; omega
  | a :: b :: l, t, hl => by
    have h1 := hl.1
    have ih := sem_pair l t (alt_tail (alt_tail hl))
    have hb : ∀ c r, l = c :: r → b < c := by
      intro c r e; subst e; have := hl.2.1; omega
    simp only [sem, pair]
    have e : inR ((a, b) :: (pair l).1) t = (decide (a ≤ t) && decide (t < b) || inR (pair l).1 t) := rfl
    rw [e]
    by_cases c : t < b
    · have hz := sem_before (b := false) (l := l) (t := t) fun x r e => by have := hb x r e; omega
      rw [ih] at hz
      simp only [Bool.or_eq_false_iff] at hz
      rw [hz.1, hz.2]
      by_cases d : t < a
      · rw [if_pos d]; simp; omega
      · rw [if_neg d, if_pos c]; simp; omega
    · rw [if_neg (by omega), if_neg c]
      have : decide (t < b) = false := by simp; omega
      rw [this]
      simp only [Bool.and_false, Bool.false_or]
      rw [← ih]
      rfl
theorem semF_T3 {x : Fl} (h : Wd 0 0 x) (t : Int) : semT (ofF x) t = semF x t := by
  rcases x with ⟨b, l⟩
  cases b
  · have h' : alt 0 0 l := h
    show semT ⟨none, (pair l).1, (pair l).2⟩ t = sem false l t
    rw [sem_pair l t h']; rfl
  · cases l with
    | nil =>
      show semT AO t = true
      simp [semT, AO, inR]; omega
    | cons v l =>
      have h' : alt 0 0 (v :: l) := h
      have hv : ∀ c r, l = c :: r → v < c := by
        intro c r e; subst e; have := h'.1; omega
      show semT ⟨some v, (pair l).1, (pair l).2⟩ t = if t < v then true else sem false l t
      unfold semT
      simp only
      by_cases c : t < v
      · rw [if_pos c]; simp [c]
      · rw [if_neg c, sem_pair l t (alt_tail h')]; simp [c]
theorem inR_app (A B : List Run) (t : Int) : inR (A ++ B) t = (inR A t || inR B t) := by unfold inR; rw [List.any_append]
theorem inR_train {on g : Int} (hon : 1 ≤ on) (hg : 0 ≤ g) (t : Int) : ∀ (n : Nat) (a : Int), inR (train a on g n) t = (decide (a ≤ t) && decide (t < a + n * (on + g) - g) && decide ((t - a) % (on + g) < on))
  | 0, a => by
    have : (decide (a ≤ t) && decide (t < a + ((0 : Nat) : Int) * (on + g) - g)) = false := by simp; omega
    rw [this]; rfl
  | n + 1, a => by
    rw [train_succ]
    have e : inR ((a, a + on) :: train (a + on + g) on g n) t = (decide (a ≤ t) && decide (t < a + on) || inR (train (a + on + g) on g n) t) := rfl
    rw [e, inR_train hon hg t n (a + on + g)]
    have en : a + ((n + 1 : Nat) : Int) * (on + g) - g = (a + on + g) + n * (on + g) - g := by push_cast; grind
    rw [en]
    have hn : 0 ≤ (n : Int) * (on + g) := Int.mul_nonneg (by omega) (by omega)
    have em : (t - (a + on + g)) % (on + g) = (t - a) % (on + g) := by
      have : t - (a + on + g) = (t - a) - (on + g) := by omega
      rw [this, Int.sub_emod_right]
    rw [em]
    by_cases c1 : a ≤ t
    · by_cases c2 : t < a + on + g
      · have e2 : (t - a) % (on + g) = t - a := Int.emod_eq_of_lt (by omega) (by omega)
        rw [e2]
        have c3 : decide (a + on + g ≤ t) = false := by simp; omega
        rw [c3]
        simp only [Bool.false_and, Bool.or_false]
        by_cases c4 : t < a + on
        · have c5 : t < (a + on + g) + (n : Int) * (on + g) - g := by omega
          simp [c1, c4, c5]; omega
        · simp [c1, c4]; omega
      · have c3 : ¬ t < a + on := by omega
        have c4 : a + on + g ≤ t := by omega
        simp [c1, c3, c4]
    · have c4 : ¬ a + on + g ≤ t := by omega
      simp [c1, c4]
theorem inR_burst {M : Int} {b : Bu} (h : b.fit M) (t : Int) : inR b.runs t = (decide (b.tick ≤ t) && decide (t < b.end) && decide ((t - b.tick) % (b.on + b.off) < b.on)) := by
  have h1 := h.ok.times
  show inR (train b.tick b.on b.off b.times.toNat) t = _
  rw [inR_train h.on h.off]
  have e : ((b.times.toNat : Nat) : Int) = b.times := by omega
  have e2 : b.tick + b.times * (b.on + b.off) - b.off = b.end := by unfold Bu.end; grind
  rw [e, e2]
end Law
end
section
set_option autoImplicit false
/-! Windows of what is on: plain. -/
namespace Law
open PySem PL
def Hd (f : Int → Bool) (t : Int) (n : Nat) : List Bool := (List.range (n + 1)).map fun (j : Nat) => f (t - n + j)
theorem hd_len (f : Int → Bool) (t : Int) (n : Nat) : (Hd f t n).length = n + 1 := by simp [Hd]
theorem hd_get (f : Int → Bool) (t : Int) (n i : Nat) (h : i ≤ n) : (Hd f t n)[i]? = some (f (t - n + i)) := by
  unfold Hd
  rw [List.getElem?_map, List.getElem?_range (by omega)]; rfl
theorem hd_delay (f : Int → Bool) (t : Int) (n p : Nat) (h : p ≤ n) : (Hd f t n).take (n + 1 - p) = Hd (fun y => f (y - p)) t (n - p) := by
  apply List.ext_getElem?
  intro i
  rw [List.getElem?_take]
  by_cases c : i ≤ n - p
  · rw [if_pos (by omega), hd_get _ _ _ _ (by omega), hd_get _ _ _ _ c]
    congr 2
    omega
  · rw [if_neg (by omega), List.getElem?_eq_none (by rw [hd_len]; omega)]
/-- what lies in a window -/
def win (L : List Bool) (p i : Nat) : List Bool := (L.drop i).take (p + 1)
def cnt (l : List Bool) : Int := (l.map fun b => (if b then 1 else 0 : Int)).sum
theorem cnt_cons (b : Bool) (l : List Bool) : cnt (b :: l) = (if b then 1 else 0) + cnt l := by simp [cnt]
theorem cnt_bd (l : List Bool) : 0 ≤ cnt l ∧ cnt l ≤ l.length ∧ (cnt l = l.length ↔ ∀ b ∈ l, b = true) ∧ (0 < cnt l ↔ ∃ b ∈ l, b = true) := by
  induction l with
  | nil => simp [cnt]
  | cons b l ih =>
    obtain ⟨h1, h2, h3, h4⟩ := ih
    rw [cnt_cons]
    simp only [List.length_cons, List.mem_cons, forall_eq_or_imp, exists_eq_or_imp]
    cases b
    · refine ⟨by simp; omega, by simp; omega, ?_, ?_⟩
      · constructor
        · intro h; simp at h; omega
        · intro h; nomatch h.1
      · simp; simpa using h4
    · refine ⟨by simp; omega, by simp; omega, ?_, ?_⟩
      · simp only [if_true, true_and]
        rw [← h3]; push_cast; omega
      · simp; omega
def winOn (f : Int → Bool) (p : Nat) (t : Int) : Bool := (List.range (p + 1)).all fun (j : Nat) => f (t - j)
def winOff (f : Int → Bool) (p : Nat) (t : Int) : Bool := (List.range (p + 1)).any fun (j : Nat) => f (t - j)
theorem winOn_iff (f : Int → Bool) (p : Nat) (t : Int) : winOn f p t = true ↔ ∀ y, t - p ≤ y → y ≤ t → f y = true := by
  unfold winOn
  rw [List.all_eq_true]
  constructor
  · intro h y h1 h2
    have := h (t - y).toNat (by rw [List.mem_range]; omega)
    have e : t - ((t - y).toNat : Int) = y := by omega
    rwa [e] at this
  · intro h j hj
    rw [List.mem_range] at hj
    exact h _ (by omega) (by omega)
theorem winOff_iff (f : Int → Bool) (p : Nat) (t : Int) : winOff f p t = true ↔ ∃ y, t - p ≤ y ∧ y ≤ t ∧ f y = true := by
  unfold winOff
  rw [List.any_eq_true]
  constructor
  · rintro ⟨j, hj, h⟩
    rw [List.mem_range] at hj
    exact ⟨_, by omega, by omega, h⟩
  · rintro ⟨y, h1, h2, h⟩
    refine ⟨(t - y).toNat, by rw [List.mem_range]; omega, ?_⟩
    have e : t - ((t - y).toNat : Int) = y := by omega
    rwa [e]
theorem win_mem (f : Int → Bool) (t : Int) (n p i : Nat) (h : i + p ≤ n) (b : Bool) : b ∈ win (Hd f t n) p i ↔ ∃ y, (t - n + p + i) - p ≤ y ∧ y ≤ t - n + p + i ∧ f y = b := by
  unfold win
  constructor
  · intro hb
    obtain ⟨k, hk⟩ := List.getElem?_of_mem hb
    rw [List.getElem?_take] at hk
    split at hk
    · rw [List.getElem?_drop, hd_get _ _ _ _ (by omega)] at hk
      cases hk
      exact ⟨_, by push_cast; omega, by push_cast; omega, rfl⟩
    · nomatch hk
  · rintro ⟨y, h1, h2, rfl⟩
    have e : ((Hd f t n).drop i |>.take (p + 1))[(y - (t - n + i)).toNat]? = some (f y) := by
      rw [List.getElem?_take, if_pos (by omega), List.getElem?_drop, hd_get _ _ _ _ (by omega)]
      congr 2
      push_cast
      omega
    exact List.mem_of_getElem? e
theorem win_len (f : Int → Bool) (t : Int) (n p i : Nat) (h : i + p ≤ n) : (win (Hd f t n) p i).length = p + 1 := by
  unfold win
  rw [List.length_take, List.length_drop, hd_len]; omega
theorem win_on (f : Int → Bool) (t : Int) (n p i : Nat) (h : i + p ≤ n) : decide ((p : Int) < cnt (win (Hd f t n) p i)) = winOn f p (t - (n - p : Nat) + i) := by
  obtain ⟨h1, h2, h3, h4⟩ := cnt_bd (win (Hd f t n) p i)
  rw [win_len f t n p i h] at h2 h3
  have e : t - ((n - p : Nat) : Int) + i = t - n + p + i := by omega
  rw [e]
  have k : (p : Int) < cnt (win (Hd f t n) p i) ↔ winOn f p (t - n + p + i) = true := by
    rw [winOn_iff]
    constructor
    · intro hc y a b
      have := h3.mp (by push_cast; omega)
      exact this _ ((win_mem f t n p i h (f y)).mpr ⟨y, a, b, rfl⟩)
    · intro hc
      have := h3.mpr fun b hb => by
        obtain ⟨y, a, c, rfl⟩ := (win_mem f t n p i h b).mp hb
        exact hc y a c
      push_cast at this
      omega
  cases hw : winOn f p (t - n + p + i)
  · rw [hw] at k; simp at k; simp; exact k
  · rw [hw] at k; simp at k; simp; exact k
theorem win_off (f : Int → Bool) (t : Int) (n p i : Nat) (h : i + p ≤ n) : decide ((0 : Int) < cnt (win (Hd f t n) p i)) = winOff f p (t - (n - p : Nat) + i) := by
  obtain ⟨h1, h2, h3, h4⟩ := cnt_bd (win (Hd f t n) p i)
  have e : t - ((n - p : Nat) : Int) + i = t - n + p + i := by omega
  rw [e]
  have k : (0 : Int) < cnt (win (Hd f t n) p i) ↔ winOff f p (t - n + p + i) = true := by
    rw [winOff_iff, h4]
    constructor
    · rintro ⟨b, hb, rfl⟩
      obtain ⟨y, a, c, d⟩ := (win_mem f t n p i h true).mp hb
      exact ⟨y, a, c, d⟩
    · rintro ⟨y, a, c, d⟩
      exact ⟨true, (win_mem f t n p i h true).mpr ⟨y, a, c, d⟩, rfl⟩
  cases hw : winOff f p (t - n + p + i)
  · rw [hw] at k; simp at k; simp; exact k
  · rw [hw] at k; simp at k; simp; exact k
/-- one part, tick by tick -/
def fpS (f : Int → Bool) : Part → Int → Bool
  | .turn => fun t => !f t
  | .delay k => fun t => f (t - k)
  | .on k => winOn f k.toNat
  | .off k => winOff f k.toNat
theorem fpS_eq {x : Fl} (hx : Wd 0 0 x) {p : Part} (hp : 0 ≤ p.num) (t : Int) : fpS (semF x) p t = semF (fbp x p) t := by
  cases p with
  | turn => exact (semF_T x t).symm
  | delay k => exact (semF_delay k x t).symm
  | on k =>
    simp only [num_on] at hp
    have h1 := semF_on hp hx t
    have h2 := winOn_iff (semF x) k.toNat t
    have e : ((k.toNat : Nat) : Int) = k := by omega
    rw [e, ← h1] at h2
    show winOn (semF x) k.toNat t = semF (fM k 0 (fD k x)) t
    exact Bool.eq_iff_iff.mpr h2
  | off k =>
    simp only [num_off] at hp
    have h1 := semF_off hp hx t
    have h2 := winOff_iff (semF x) k.toNat t
    have e : ((k.toNat : Nat) : Int) = k := by omega
    rw [e] at h2
    show winOff (semF x) k.toNat t = semF (fM 0 k (fF k x)) t
    refine Bool.eq_iff_iff.mpr ?_
    rw [h2]
    constructor
    · rintro ⟨y, a, b, c⟩
      by_cases d : semF (fM 0 k (fF k x)) t = true
      · exact d
      · have := h1.mp (by simpa using d) y a b
        rw [this] at c; nomatch c
    · intro h
      apply Classical.byContradiction
      intro hn
      have := h1.mpr fun y a b => by
        cases hs : semF x y
        · rfl
        · exact absurd ⟨y, a, b, hs⟩ hn
      rw [this] at h; nomatch h
end Law
end
section
set_option autoImplicit false
/-! One signal, one list of flips; what stays the same far out. -/
namespace Law
open PySem PL
theorem sem_inj : ∀ (b b' : Bool) (l l' : List Int), l.Pairwise (· < ·) → l'.Pairwise (· < ·) → (∀ t, sem b l t = sem b' l' t) → b = b' ∧ l = l' := by
  have start : ∀ (b : Bool) (l : List Int), ∃ T : Int, ∀ t, t < T → sem b l t = b := by
    intro b l
    cases l with
    | nil => exact ⟨0, fun _ _ => rfl⟩
    | cons v l => exact ⟨v, fun t h => by rw [sem, if_pos h]⟩
  have main : ∀ (n : Nat) (b : Bool) (l l' : List Int), l.length = n → l.Pairwise (· < ·) → l'.Pairwise (· < ·) → (∀ t, sem b l t = sem b l' t) → l = l' := by
    intro n
    induction n with
    | zero =>
      intro b l l' hn _ h' h
      have : l = [] := List.length_eq_zero_iff.mp hn
      subst this
      cases l' with
      | nil => rfl
      | cons v r =>
        have h1 := h v
        have hv : ∀ a s, r = a :: s → v < a := fun a s e => by subst e; exact (List.pairwise_cons.mp h').1 a (by simp)
        have h2 : sem b (v :: r) v = !b := by rw [sem, if_neg (by omega), sem_before hv]
        rw [h2] at h1
        have : b = !b := h1
        cases b <;> nomatch this
    | succ n ih =>
      intro b l l' hn hl h' h
      cases l with
      | nil => nomatch hn
      | cons v r =>
        have hv : ∀ a s, r = a :: s → v < a := fun a s e => by subst e; exact (List.pairwise_cons.mp hl).1 a (by simp)
        have h2 : sem b (v :: r) v = !b := by rw [sem, if_neg (by omega), sem_before hv]
        cases l' with
        | nil =>
          have h1 := h v
          rw [h2] at h1
          have : (!b) = b := h1
          cases b <;> nomatch this
        | cons v' r' =>
          have hv' : ∀ a s, r' = a :: s → v' < a := fun a s e => by subst e; exact (List.pairwise_cons.mp h').1 a (by simp)
          have h2' : sem b (v' :: r') v' = !b := by rw [sem, if_neg (by omega), sem_before hv']
          have e : v = v' := by
            rcases Int.lt_trichotomy v v' with c | c | c
            · have h1 := h v
              rw [h2, sem, if_pos c] at h1
              cases b <;> nomatch h1
            · exact c
            · have h1 := h v'
              rw [h2', sem, if_pos c] at h1
              cases b <;> nomatch h1
          subst e
          have := ih (!b) r r' (by simpa using hn) (List.pairwise_cons.mp hl).2 (List.pairwise_cons.mp h').2 (fun t => by
            by_cases c : t < v
            · rw [sem_before fun a s e => by have := hv a s e; omega, sem_before fun a s e => by have := hv' a s e; omega]
            · have h1 := h t
              rw [sem, sem, if_neg c, if_neg c] at h1
              exact h1)
          rw [this]
  intro b b' l l' h1 h2 h
  have e : b = b' := by
    obtain ⟨T, hT⟩ := start b l
    obtain ⟨T', hT'⟩ := start b' l'
    have a := hT (min T T' - 1) (by omega)
    have c := hT' (min T T' - 1) (by omega)
    rw [← a, ← c]; exact h _
  subst e
  exact ⟨rfl, main _ b l l' rfl h1 h2 h⟩
theorem semF_inj {x y : Fl} (hx : Wd 0 0 x) (hy : Wd 0 0 y) (h : ∀ t, semF x t = semF y t) : x = y := by
  have := sem_inj x.1 y.1 x.2 y.2 (Wd_asc (Int.le_refl 0) (Int.le_refl 0) hx) (Wd_asc (Int.le_refl 0) (Int.le_refl 0) hy) h
  exact Prod.ext this.1 this.2
theorem fans_wd {row : List Part} (h : ∀ p ∈ row, 0 ≤ p.num) : ∀ {x : Fl}, Wd 0 0 x → Wd 0 0 (fans row x) := by
  induction row with
  | nil => intro x hx; exact hx
  | cons p row ih =>
    intro x hx
    refine ih (fun q hq => h q (by simp [hq])) ?_
    have hp := h p (by simp)
    cases p with
    | turn => exact Wd_T.mpr hx
    | delay k => exact Wd_mono (Wd_M k k hx) (by omega) (by omega)
    | on k => simp only [num_on] at hp; exact Wd_mono (Wd_M k 0 (Wd_D (Int.le_refl 0) (Int.le_refl 0) hp hx)) (by omega) (by omega)
    | off k => simp only [num_off] at hp; exact Wd_mono (Wd_M 0 k (Wd_F (Int.le_refl 0) (Int.le_refl 0) hp hx)) (by omega) (by omega)
/-- a row, tick by tick -/
def rowS (f : Int → Bool) (row : List Part) : Int → Bool := row.foldl fpS f
theorem rowS_eq {row : List Part} (h : ∀ p ∈ row, 0 ≤ p.num) : ∀ {x : Fl}, Wd 0 0 x → semF (fans row x) = rowS (semF x) row := by
  induction row with
  | nil => intro x _; rfl
  | cons p row ih =>
    intro x hx
    have hp := h p (by simp)
    have e : fpS (semF x) p = semF (fbp x p) := funext fun t => fpS_eq hx hp t
    have hw : Wd 0 0 (fbp x p) := fans_wd (row := [p]) (by simpa using hp) hx
    have := ih (fun q hq => h q (by simp [hq])) hw
    show semF (fans row (fbp x p)) = rowS (fpS (semF x) p) row
    rw [e, this]
/-- the same up to a tick -/
def Lft (f : Int → Bool) (T : Int) : Prop := ∀ t, t ≤ T → f t = f T
def Rgt (f : Int → Bool) (T : Int) : Prop := ∀ t, T ≤ t → f t = f T
theorem winOn_same {f : Int → Bool} {p : Nat} {t : Int} {c : Bool} (h : ∀ y, t - p ≤ y → y ≤ t → f y = c) : winOn f p t = c := by
  cases c
  · cases hw : winOn f p t
    · rfl
    · have := (winOn_iff f p t).mp hw t (by omega) (by omega)
      rw [h t (by omega) (by omega)] at this; exact this.symm
  · exact (winOn_iff f p t).mpr h
theorem winOff_same {f : Int → Bool} {p : Nat} {t : Int} {c : Bool} (h : ∀ y, t - p ≤ y → y ≤ t → f y = c) : winOff f p t = c := by
  cases c
  · cases hw : winOff f p t
    · rfl
    · obtain ⟨y, a, b, d⟩ := (winOff_iff f p t).mp hw
      rw [h y a b] at d; exact d.symm
  · exact (winOff_iff f p t).mpr ⟨t, by omega, by omega, h t (by omega) (by omega)⟩
theorem fpS_lft {f : Int → Bool} {T : Int} (h : Lft f T) {p : Part} (hp : 0 ≤ p.num) : Lft (fpS f p) T := by
  intro t ht
  cases p with
  | turn => simp only [fpS]; rw [h t ht]
  | delay k =>
    simp only [num_delay] at hp
    simp only [fpS]; rw [h (t - k) (by omega), h (T - k) (by omega)]
  | on k =>
    simp only [num_on] at hp
    simp only [fpS]
    rw [winOn_same (c := f T) fun y _ b => h y (by omega), winOn_same (c := f T) fun y _ b => h y b]
  | off k =>
    simp only [num_off] at hp
    simp only [fpS]
    rw [winOff_same (c := f T) fun y _ b => h y (by omega), winOff_same (c := f T) fun y _ b => h y b]
theorem fpS_rgt {f : Int → Bool} {T : Int} (h : Rgt f T) {p : Part} (hp : 0 ≤ p.num) : Rgt (fpS f p) (T + p.num) := by
  intro t ht
  cases p with
  | turn => simp only [num_turn] at ht ⊢; simp only [fpS]; rw [h t (by omega), h (T + 0) (by omega)]
  | delay k =>
    simp only [num_delay] at hp ht ⊢
    simp only [fpS]; rw [h (t - k) (by omega), h (T + k - k) (by omega)]
  | on k =>
    simp only [num_on] at hp ht ⊢
    simp only [fpS]
    rw [winOn_same (c := f T) fun y a _ => h y (by omega), winOn_same (c := f T) fun y a _ => h y (by omega)]
  | off k =>
    simp only [num_off] at hp ht ⊢
    simp only [fpS]
    rw [winOff_same (c := f T) fun y a _ => h y (by omega), winOff_same (c := f T) fun y a _ => h y (by omega)]
def tot (row : List Part) : Int := (row.map Part.num).sum
theorem tot_cons (p : Part) (row : List Part) : tot (p :: row) = p.num + tot row := by simp [tot]
theorem tot_pos {row : List Part} (h : ∀ p ∈ row, 0 ≤ p.num) : 0 ≤ tot row := by
  induction row with
  | nil => simp [tot]
  | cons p row ih => rw [tot_cons]; have := ih fun q hq => h q (by simp [hq]); have := h p (by simp); omega
theorem tot_app (a b : List Part) : tot (a ++ b) = tot a + tot b := by unfold tot; rw [List.map_append, List.sum_append]
theorem tot_step {row : List Part} {i : Nat} {p : Part} (hx : row[i]? = some p) : tot (row.take (i + 1)) = tot (row.take i) + p.num := by
  rw [take_succ' hx, tot_app, tot_cons]; simp [tot]
theorem tot_take_le {row : List Part} (h : ∀ p ∈ row, 0 ≤ p.num) (i : Nat) : 0 ≤ tot (row.take i) ∧ tot (row.take i) ≤ tot row := by
  have e : tot row = tot (row.take i) + tot (row.drop i) := by
    conv => lhs; rw [← List.take_append_drop i row]
    rw [tot_app]
  have h1 := tot_pos (row := row.take i) fun q hq => h q (List.mem_of_mem_take hq)
  have h2 := tot_pos (row := row.drop i) fun q hq => h q (List.mem_of_mem_drop hq)
  omega
theorem rowS_step {row : List Part} {i : Nat} {p : Part} (hx : row[i]? = some p) (g : Int → Bool) : rowS g (row.take (i + 1)) = fpS (rowS g (row.take i)) p := by
  rw [take_succ' hx]; unfold rowS; rw [List.foldl_append]; rfl
theorem rowS_lft (row : List Part) (h : ∀ p ∈ row, 0 ≤ p.num) : ∀ {f : Int → Bool} {T : Int}, Lft f T → Lft (rowS f row) T := by
  induction row with
  | nil => intro f T hf; exact hf
  | cons p row ih => intro f T hf; exact ih (fun q hq => h q (by simp [hq])) (fpS_lft hf (h p (by simp)))
theorem rowS_rgt (row : List Part) (h : ∀ p ∈ row, 0 ≤ p.num) : ∀ {f : Int → Bool} {T : Int}, Rgt f T → Rgt (rowS f row) (T + tot row) := by
  induction row with
  | nil => intro f T hf; simpa [tot, rowS] using hf
  | cons p row ih =>
    intro f T hf
    have := ih (fun q hq => h q (by simp [hq])) (fpS_rgt hf (h p (by simp)))
    rw [tot_cons, ← Int.add_assoc]
    exact this
end Law
end
section
set_option autoImplicit false
/-! Rows that lie not within: signals that show it. Plain. -/
namespace Law
open PySem PL
/-! trains -/
def trnA (p q : Int) : Nat → Int → List Int
  | 0, _ => []
  | n + 1, a => a :: (a + p) :: trnA p q n (a + p + q)
/-- from the first on to the last off -/
def tlen (p q : Int) (n : Nat) : Int := (n : Int) * (p + q) + p
theorem tlen_succ (p q : Int) (n : Nat) : tlen p q (n + 1) = tlen p q n + q + p := by
  unfold tlen; rw [Int.natCast_add, Int.add_mul]; simp; omega
theorem rm_trn {p m : Int} (q : Int) (h : p ≤ m) : ∀ (n : Nat) (a : Int), rm m (trnA p q n a) = []
  | 0, _ => rfl
  | n + 1, a => by simp only [trnA, rm]; rw [if_pos (by omega)]; exact rm_trn q h n _
theorem rm_joined {q m : Int} (p : Int) (h : q ≤ m) : ∀ (n : Nat) (a : Int), rm m ((a + p) :: trnA p q n (a + p + q)) = [a + tlen p q n]
  | 0, a => by simp [trnA, rm, tlen]
  | n + 1, a => by
    simp only [trnA, rm]
    rw [if_pos (by omega)]
    have := rm_joined p h n (a + p + q)
    rw [this, tlen_succ]
    congr 1; omega
theorem alt_trn {k l : Int} : ∀ (n : Nat) (a : Int), alt k l (trnA (k + 1) (l + 1) n a)
  | 0, _ => trivial
  | 1, a => ⟨by omega, trivial⟩
  | n + 2, a => ⟨by omega, by omega, alt_trn (n + 1) _⟩
theorem wd_trn {k l : Int} (n : Nat) (a : Int) : Wd k l (false, trnA (k + 1) (l + 1) n a) := alt_trn n a
theorem fD_trn {p m : Int} (q : Int) (h : p ≤ m) (n : Nat) (a : Int) : fD m (false, trnA p q n a) = (false, []) := by simp [fD, rm_trn q h]
theorem fF_trn {q m : Int} (p : Int) (h : q ≤ m) (n : Nat) (a : Int) : fF m (false, trnA p q (n + 1) a) = (false, [a, a + tlen p q n]) := by
  simp only [fF, trnA, rm', Bool.false_eq_true, if_false]
  rw [rm_joined p h]
/-! steps that do nothing -/
theorem fcl_noop {k l : Int} {x : Fl} (hx : Wd k l x) : ∀ {S : List Sg}, under S true k → under S false l → fcl S x = x
  | [], _, _ => rfl
  | s :: S, h1, h2 => by
    have e : fStep x s = x := by
      unfold fStep
      rcases s with ⟨b, n⟩
      cases b
      · exact fF_noop (h2 (false, n) (by simp) rfl) hx
      · exact fD_noop (h1 (true, n) (by simp) rfl) hx
    show fcl S (fStep x s) = x
    rw [e]
    exact fcl_noop hx (fun z hz => h1 z (by simp [hz])) (fun z hz => h2 z (by simp [hz]))
theorem fcl_app (A B : List Sg) (x : Fl) : fcl (A ++ B) x = fcl B (fcl A x) := by unfold fcl; rw [List.foldl_append]
theorem fcl_off (S : List Sg) : fcl S (false, []) = (false, []) := by
  induction S with
  | nil => rfl
  | cons s S ih => show fcl S (fStep _ s) = _; rw [show fStep (false, []) s = (false, []) by unfold fStep; split <;> rfl]; exact ih
theorem fcl_on (S : List Sg) : fcl S (true, []) = (true, []) := by
  induction S with
  | nil => rfl
  | cons s S ih => show fcl S (fStep _ s) = _; rw [show fStep (true, []) s = (true, []) by unfold fStep; split <;> rfl]; exact ih
theorem fcl_up (S : List Sg) (b : Bool) (a : Int) : fcl S (b, [a]) = (b, [a]) := by
  induction S with
  | nil => rfl
  | cons s S ih => show fcl S (fStep _ s) = _; rw [show fStep (b, [a]) s = (b, [a]) by unfold fStep fD fF; cases b <;> split <;> rfl]; exact ih
/-- one on, longer than all that is dropped -/
theorem fcl_one {S : List Sg} {a b : Int} (h : under S true (b - a - 1)) : fcl S (false, [a, b]) = (false, [a, b]) := by
  induction S with
  | nil => rfl
  | cons s S ih =>
    have e : fStep (false, [a, b]) s = (false, [a, b]) := by
      rcases s with ⟨c, n⟩
      unfold fStep
      cases c
      · rfl
      · have := h (true, n) (by simp) rfl
        simp only at this
        simp only [if_true, fD, Bool.false_eq_true, if_false, rm]
        rw [if_neg (by omega)]
    show fcl S (fStep _ s) = _
    rw [e]
    exact ih fun z hz => h z (by simp [hz])
/-- one off, longer than all that is filled -/
theorem fcl_gap {S : List Sg} {a b : Int} (h : under S false (b - a - 1)) : fcl S (true, [a, b]) = (true, [a, b]) := by
  induction S with
  | nil => rfl
  | cons s S ih =>
    have e : fStep (true, [a, b]) s = (true, [a, b]) := by
      rcases s with ⟨c, n⟩
      unfold fStep
      cases c
      · have := h (false, n) (by simp) rfl
        simp only at this
        simp only [Bool.false_eq_true, if_false, fF, if_true, rm]
        rw [if_neg (by omega)]
      · rfl
    show fcl S (fStep _ s) = _
    rw [e]
    exact ih fun z hz => h z (by simp [hz])
theorem fcl_one_gone {S : List Sg} {a b : Int} (h : ¬ under S true (b - a - 1)) : fcl S (false, [a, b]) = (false, []) := by
  induction S with
  | nil => exact absurd (fun s hs => (nomatch hs)) h
  | cons s S ih =>
    show fcl S (fStep _ s) = _
    rcases s with ⟨c, n⟩
    by_cases d : c = true ∧ n > b - a - 1
    · obtain ⟨rfl, d⟩ := d
      have e : fStep (false, [a, b]) (true, n) = (false, []) := by
        unfold fStep
        simp only [if_true, fD, Bool.false_eq_true, if_false, rm]
        rw [if_pos (by omega)]
      rw [e]; exact fcl_off S
    · have e : fStep (false, [a, b]) (c, n) = (false, [a, b]) := by
        unfold fStep
        cases c
        · rfl
        · have : ¬ n > b - a - 1 := fun h => d ⟨rfl, h⟩
          simp only [if_true, fD, Bool.false_eq_true, if_false, rm]
          rw [if_neg (by omega)]
      rw [e]
      refine ih fun hu => h fun z hz hb => ?_
      rcases List.mem_cons.mp hz with rfl | hz
      · simp only at hb ⊢
        exact Int.not_lt.mp fun e => d ⟨hb, e⟩
      · exact hu z hz hb
theorem fcl_gap_gone {S : List Sg} {a b : Int} (h : ¬ under S false (b - a - 1)) : fcl S (true, [a, b]) = (true, []) := by
  induction S with
  | nil => exact absurd (fun s hs => (nomatch hs)) h
  | cons s S ih =>
    show fcl S (fStep _ s) = _
    rcases s with ⟨c, n⟩
    by_cases d : c = false ∧ n > b - a - 1
    · obtain ⟨rfl, d⟩ := d
      have e : fStep (true, [a, b]) (false, n) = (true, []) := by
        unfold fStep
        simp only [Bool.false_eq_true, if_false, fF, if_true, rm]
        rw [if_pos (by omega)]
      rw [e]; exact fcl_on S
    · have e : fStep (true, [a, b]) (c, n) = (true, [a, b]) := by
        unfold fStep
        cases c
        · have : ¬ n > b - a - 1 := fun h => d ⟨rfl, h⟩
          simp only [Bool.false_eq_true, if_false, fF, if_true, rm]
          rw [if_neg (by omega)]
        · rfl
      rw [e]
      refine ih fun hu => h fun z hz hb => ?_
      rcases List.mem_cons.mp hz with rfl | hz
      · simp only at hb ⊢
        exact Int.not_lt.mp fun e => d ⟨hb, e⟩
      · exact hu z hz hb
/-! what comes first -/
theorem ahd_cons_stop {s : Sg} {b : Bool} {k : Int} (h : s.1 = b ∧ s.2 > k) (S : List Sg) : ahd (s :: S) b k = [] := by
  unfold ahd; rw [List.takeWhile_cons, if_neg (by simp [h.1, h.2])]
theorem ahd_cons_go {s : Sg} {b : Bool} {k : Int} (h : ¬ (s.1 = b ∧ s.2 > k)) (S : List Sg) : ahd (s :: S) b k = s :: ahd S b k := by
  unfold ahd; rw [List.takeWhile_cons, if_pos]
  simp only [Bool.not_eq_true', Bool.and_eq_false_iff, beq_eq_false_iff_ne, decide_eq_false_iff_not]
  by_cases d : s.1 = b
  · exact .inr fun e => h ⟨d, e⟩
  · exact .inl d
theorem under_cons {s : Sg} {S : List Sg} {b : Bool} {k : Int} (h : ¬ (s.1 = b ∧ s.2 > k)) : under (s :: S) b k ↔ under S b k := by
  constructor
  · exact fun hu z hz => hu z (by simp [hz])
  · intro hu z hz hb
    rcases List.mem_cons.mp hz with rfl | hz
    · exact Int.not_lt.mp fun e => h ⟨hb, e⟩
    · exact hu z hz hb
/-- the first step that counts is one of word c beyond l, none of word b beyond k is ahead of it -/
theorem first_is {b c : Bool} (hbc : c = !b) {k l : Int} : ∀ {S : List Sg}, ¬ under (ahd S b k) c l → ∃ A n B, S = A ++ (c, n) :: B ∧ l < n ∧ under A b k ∧ under A c l
  | [], h => absurd (fun s hs => (nomatch hs)) h
  | s :: S, h => by
    by_cases d : s.1 = b ∧ s.2 > k
    · rw [ahd_cons_stop d] at h
      exact absurd (fun s hs => (nomatch hs)) h
    · rw [ahd_cons_go d] at h
      by_cases e : s.1 = c ∧ s.2 > l
      · refine ⟨[], s.2, S, ?_, e.2, fun z hz => (nomatch hz), fun z hz => (nomatch hz)⟩
        rw [← e.1]; rfl
      · rw [under_cons e] at h
        obtain ⟨A, n, B, rfl, h1, h2, h3⟩ := first_is hbc h
        exact ⟨s :: A, n, B, rfl, h1, (under_cons d).mpr h2, (under_cons e).mpr h3⟩
theorem other_first {b c : Bool} (hbc : c = !b) {k l : Int} : ∀ {S : List Sg}, under (ahd S b k) c l → ¬ under S b k → ¬ under (ahd S c l) b k
  | [], _, h => fun _ => h fun s hs => (nomatch hs)
  | s :: S, h1, h2 => by
    by_cases d : s.1 = b ∧ s.2 > k
    · have e : ¬ (s.1 = c ∧ s.2 > l) := fun e => by rw [d.1, hbc] at e; cases b <;> simp at e
      rw [ahd_cons_go e]
      exact fun hu => absurd (hu s (by simp) d.1) (by omega)
    · rw [ahd_cons_go d] at h1
      have e : ¬ (s.1 = c ∧ s.2 > l) := fun e => absurd (h1 s (by simp) e.1) (by omega)
      rw [under_cons e] at h1
      rw [under_cons d] at h2
      rw [ahd_cons_go e, under_cons d]
      exact other_first hbc h1 h2
/-- a train of which the offs are filled first -/
theorem fcl_filled {S : List Sg} {k l : Int} (h : ¬ under (ahd S true k) false l) (n : Nat) (a : Int) (hn : under S true (tlen (k + 1) (l + 1) n - 1)) : fcl S (false, trnA (k + 1) (l + 1) (n + 1) a) = (false, [a, a + tlen (k + 1) (l + 1) n]) := by
  obtain ⟨A, m, B, rfl, h1, h2, h3⟩ := first_is rfl h
  rw [fcl_app, fcl_noop (wd_trn (n + 1) a) h2 h3]
  show fcl B (fF m _) = _
  rw [fF_trn (k + 1) (by omega) n a]
  refine fcl_one fun z hz hb => ?_
  have := hn z (by simp [hz]) hb
  omega
/-- a train of which the ons are dropped first -/
theorem fcl_dropped {S : List Sg} {k l : Int} (h : ¬ under (ahd S false l) true k) (n : Nat) (a : Int) : fcl S (false, trnA (k + 1) (l + 1) n a) = (false, []) := by
  obtain ⟨A, m, B, rfl, h1, h2, h3⟩ := first_is rfl h
  rw [fcl_app, fcl_noop (wd_trn n a) h3 h2]
  show fcl B (fD m _) = _
  rw [fD_trn (l + 1) (by omega) n a]
  exact fcl_off B
end Law
end
section
set_option autoImplicit false
/-! Rows that lie within: no signal shows otherwise. Plain. -/
namespace Law
open PySem PL
def leF (x y : Fl) : Prop := ∀ t, semF x t = true → semF y t = true
theorem leF_refl (x : Fl) : leF x x := fun _ h => h
theorem leF_trans {x y z : Fl} (h : leF x y) (k : leF y z) : leF x z := fun t ht => k t (h t ht)
theorem leF_T {x y : Fl} (h : leF x y) : leF (fT y) (fT x) := fun t ht => by
  rw [semF_T] at ht ⊢
  cases hx : semF x t
  · rfl
  · rw [h t hx] at ht; simp at ht
/-- what is left of an on: ticks among so many that are all on -/
theorem semF_D {k : Int} (hk : 0 ≤ k) {x : Fl} (hx : Wd 0 0 x) (t : Int) : semF (fD k x) t = true ↔ ∃ y, t ≤ y ∧ y ≤ t + k ∧ ∀ z, y - k ≤ z → z ≤ y → semF x z = true := by
  have hd : Wd k 0 (fD k x) := Wd_D (Int.le_refl 0) (Int.le_refl 0) hk hx
  have he : Wd 0 k (fM k 0 (fD k x)) := by have := Wd_M k 0 hd; exact Wd_mono this (by omega) (by omega)
  have h1 : fF k (fM k 0 (fD k x)) = fM k 0 (fD k x) := fF_noop (Int.le_refl k) he
  have h2 : fM 0 k (fF k (fM k 0 (fD k x))) = fM k k (fD k x) := by rw [h1, fM_M]; congr 1 <;> omega
  have h3 : semF (fM k k (fD k x)) (t + k) = semF (fD k x) t := by rw [semF_delay]; congr 1; omega
  have h4 := semF_off hk (Wd_mono he (Int.le_refl 0) hk) (t + k)
  rw [h2, h3] at h4
  constructor
  · intro h
    refine Classical.byContradiction fun hn => ?_
    have : semF (fD k x) t = false := h4.mpr fun y h5 h6 => by
      cases hy : semF (fM k 0 (fD k x)) y
      · rfl
      · exact absurd ⟨y, by omega, h6, (semF_on hk hx y).mp hy⟩ hn
    rw [h] at this; nomatch this
  · rintro ⟨y, h5, h6, h7⟩
    cases hc : semF (fD k x) t
    · have := h4.mp hc y (by omega) h6
      rw [(semF_on hk hx y).mpr h7] at this; nomatch this
    · rfl
theorem fD_le {k : Int} (hk : 0 ≤ k) {x : Fl} (hx : Wd 0 0 x) : leF (fD k x) x := fun t ht => by
  obtain ⟨y, h1, h2, h3⟩ := (semF_D hk hx t).mp ht
  exact h3 t (by omega) h1
theorem fD_mono {k : Int} (hk : 0 ≤ k) {x y : Fl} (hx : Wd 0 0 x) (hy : Wd 0 0 y) (h : leF x y) : leF (fD k x) (fD k y) := fun t ht => by
  obtain ⟨z, h1, h2, h3⟩ := (semF_D hk hx t).mp ht
  exact (semF_D hk hy t).mpr ⟨z, h1, h2, fun w a b => h w (h3 w a b)⟩
theorem fF_dual (k : Int) (x : Fl) : fF k x = fT (fD k (fT x)) := by rw [fD_T, fT_T]
theorem fF_ge {k : Int} (hk : 0 ≤ k) {x : Fl} (hx : Wd 0 0 x) : leF x (fF k x) := by
  rw [fF_dual]
  have := leF_T (fD_le hk (Wd_T.mpr hx))
  rwa [fT_T] at this
theorem fF_mono {k : Int} (hk : 0 ≤ k) {x y : Fl} (hx : Wd 0 0 x) (hy : Wd 0 0 y) (h : leF x y) : leF (fF k x) (fF k y) := by
  rw [fF_dual, fF_dual]
  exact leF_T (fD_mono hk (Wd_T.mpr hy) (Wd_T.mpr hx) (leF_T h))
theorem wdD {k : Int} (hk : 0 ≤ k) {x : Fl} (hx : Wd 0 0 x) : Wd 0 0 (fD k x) := Wd_mono (Wd_D (Int.le_refl 0) (Int.le_refl 0) hk hx) hk (Int.le_refl 0)
theorem wdF {k : Int} (hk : 0 ≤ k) {x : Fl} (hx : Wd 0 0 x) : Wd 0 0 (fF k x) := Wd_mono (Wd_F (Int.le_refl 0) (Int.le_refl 0) hk hx) (Int.le_refl 0) hk
/-- dropping and then filling lets no more on than filling and then dropping -/
theorem fDF_le {k l : Int} (hk : 0 ≤ k) (hl : 0 ≤ l) {x : Fl} (hx : Wd 0 0 x) : leF (fF l (fD k x)) (fD k (fF l x)) := by
  have h1 : Wd k 0 (fD k x) := Wd_D (Int.le_refl 0) (Int.le_refl 0) hk hx
  have h2 : Wd k l (fF l (fD k x)) := Wd_F hk (Int.le_refl 0) hl h1
  have h3 : fD k (fF l (fD k x)) = fF l (fD k x) := fD_noop (Int.le_refl k) h2
  rw [← h3]
  exact fD_mono hk (wdF hl (wdD hk hx)) (wdF hl hx) (fF_mono hl (wdD hk hx) hx (fD_le hk hx))
def Nn (S : List Sg) : Prop := ∀ s ∈ S, 0 ≤ s.2
theorem Nn.left {A B : List Sg} (h : Nn (A ++ B)) : Nn A := fun s hs => h s (List.mem_append_left _ hs)
theorem Nn.right {A B : List Sg} (h : Nn (A ++ B)) : Nn B := fun s hs => h s (List.mem_append_right _ hs)
theorem Nn.app {A B : List Sg} (h : Nn A) (k : Nn B) : Nn (A ++ B) := fun s hs => by
  rcases List.mem_append.mp hs with hs | hs
  · exact h s hs
  · exact k s hs
theorem wdS {x : Fl} (hx : Wd 0 0 x) {s : Sg} (h : 0 ≤ s.2) : Wd 0 0 (fStep x s) := by
  unfold fStep; split
  · exact wdD h hx
  · exact wdF h hx
theorem wdC : ∀ (S : List Sg) {x : Fl}, Wd 0 0 x → Nn S → Wd 0 0 (fcl S x)
  | [], _, hx, _ => hx
  | s :: S, _, hx, h => wdC S (wdS hx (h s (by simp))) fun z hz => h z (by simp [hz])
theorem fF_idem (l : Int) (x : Fl) : fF l (fF l x) = fF l x := fF_F (Int.le_refl l) x
/-- steps that fill no more than so much, behind which it is filled -/
theorem tail_le {L : Int} (hL : 0 ≤ L) {x : Fl} (hx : Wd 0 0 x) : ∀ B : List Sg, Nn B → under B false L → leF (fcl B x) (fF L x) ∧ ∀ n, 0 ≤ n → ¬ under B true (n - 1) → leF (fcl B x) (fD n (fF L x)) := by
  intro B
  refine rev_ind (P := fun B => Nn B → under B false L → leF (fcl B x) (fF L x) ∧ ∀ n, 0 ≤ n → ¬ under B true (n - 1) → leF (fcl B x) (fD n (fF L x))) ?_ ?_ B
  · intro _ _
    exact ⟨fF_ge hL hx, fun n _ h => absurd (fun s hs => nomatch hs) h⟩
  · rintro B ⟨b, m⟩ ih hn hu
    have hm : 0 ≤ m := hn (b, m) (by simp)
    have hn' := hn.left
    obtain ⟨i1, i2⟩ := ih hn' fun s hs => hu s (by simp [hs])
    have hz := wdC B hx hn'
    have hf := wdF hL hx
    rw [fcl_app]
    show leF (fStep (fcl B x) (b, m)) _ ∧ _
    cases b
    · have hmL : m ≤ L := hu (false, m) (by simp) rfl
      have e : fF m (fF L x) = fF L x := fF_noop hmL (Wd_F (Int.le_refl 0) (Int.le_refl 0) hL hx)
      refine ⟨?_, fun n h0 hB => ?_⟩
      · have := fF_mono hm hz hf i1
        rw [e] at this; exact this
      · have hB' : ¬ under B true (n - 1) := fun h => hB fun s hs ht => by
          rcases List.mem_append.mp hs with hs | hs
          · exact h s hs ht
          · simp at hs; subst hs; simp at ht
        have h1 := fF_mono hm hz (wdD h0 hf) (i2 n h0 hB')
        have h2 := fDF_le h0 hm hf
        rw [e] at h2
        exact leF_trans h1 h2
    · refine ⟨leF_trans (fD_le hm hz) i1, fun n h0 hB => ?_⟩
      by_cases c : n ≤ m
      · have e : fD n (fD m (fcl B x)) = fD m (fcl B x) := fD_noop c (Wd_D (Int.le_refl 0) (Int.le_refl 0) hm hz)
        show leF (fD m (fcl B x)) _
        rw [← e]
        exact fD_mono h0 (wdD hm hz) hf (leF_trans (fD_le hm hz) i1)
      · have hB' : ¬ under B true (n - 1) := fun h => hB fun s hs ht => by
          rcases List.mem_append.mp hs with hs | hs
          · exact h s hs ht
          · simp at hs; subst hs; show m ≤ n - 1; omega
        exact leF_trans (fD_le hm hz) (i2 n h0 hB')
end Law
end
section
set_option autoImplicit false
/-! The signals that show that a row lies not within another one. Plain. -/
namespace Law
open PySem PL
def hiR (a : List Part) : Int := (wks a).hi
def deR (a : List Part) : Int := -(wks a).lo
structure RF (a : List Part) : Prop where
  lad : Lad (foundL a) ⟨hiR a, deR a, (wks a).st⟩
  at_ : (wks a).at_ = (wks a).l0 - (wks a).l1
  up : (wks a).at_ ≤ hiR a
  dn : -(wks a).at_ ≤ deR a
  h0 : 0 ≤ hiR a
  d0 : 0 ≤ deR a
theorem rf {a : List Part} (ha : ∀ p ∈ a, 0 ≤ p.num) : RF a := by
  have L := lad_row ha
  have i : (wks a).inv := fold_inv a W0 W0_inv
  exact ⟨L, at_l a, i.h, by have := i.l; show -(wks a).at_ ≤ -(wks a).lo; omega, by have := topH_nn (foundL a); rw [← L.hi] at this; exact this, by have := depH_nn (foundL a); rw [← L.de] at this; exact this⟩
theorem under_hi {a : List Part} (h : RF a) {k : Int} (hk : 0 ≤ k) : under (wks a).st true k ↔ hiR a ≤ k := by rw [← mst_le hk, h.lad.md]
theorem under_de {a : List Part} (h : RF a) {k : Int} (hk : 0 ≤ k) : under (wks a).st false k ↔ deR a ≤ k := by rw [← mst_le hk, h.lad.mf]
/-- on here, off there -/
def Shows (a b : List Part) (x : Fl) (t : Int) : Prop := semF (fbare (wks a) x) t = true ∧ semF (fbare (wks b) x) t = false
theorem wit_l0 {a b : List Part} (m : Int) (h : (wks a).l0 < (wks b).l0) : Shows a b (false, [m]) (m + (wks a).l0) := by
  unfold Shows fbare
  rw [fcl_up, fcl_up]
  simp [fM, sh, semF, sem]; omega
theorem wit_l1 {a b : List Part} (m : Int) (h : (wks b).l1 < (wks a).l1) : Shows a b (true, [m]) (m + (wks b).l1) := by
  unfold Shows fbare
  rw [fcl_up, fcl_up]
  simp [fM, sh, semF, sem]; omega
theorem wit_de {a b : List Part} (ha : RF a) (hb : RF b) (m : Int) (h : deR b < deR a) : Shows a b (true, [m, m + deR b + 1]) (m + (wks b).l1) := by
  have e : m + deR b + 1 - m - 1 = deR b := by omega
  have h1 : fcl (wks a).st (true, [m, m + deR b + 1]) = (true, []) := fcl_gap_gone (by rw [e, under_de ha hb.d0]; omega)
  have h2 : fcl (wks b).st (true, [m, m + deR b + 1]) = (true, [m, m + deR b + 1]) := fcl_gap (by rw [e, under_de hb hb.d0]; omega)
  unfold Shows fbare
  rw [h1, h2]
  have := hb.dn
  have := hb.at_
  refine ⟨rfl, ?_⟩
  simp [fM, sh, semF, sem]; omega
theorem wit_hi {a b : List Part} (ha : RF a) (hb : RF b) (m : Int) (h : hiR a < hiR b) : Shows a b (false, [m, m + hiR a + 1]) (m + (wks a).l0) := by
  have e : m + hiR a + 1 - m - 1 = hiR a := by omega
  have h1 : fcl (wks a).st (false, [m, m + hiR a + 1]) = (false, [m, m + hiR a + 1]) := fcl_one (by rw [e, under_hi ha ha.h0]; omega)
  have h2 : fcl (wks b).st (false, [m, m + hiR a + 1]) = (false, []) := fcl_one_gone (by rw [e, under_hi hb ha.h0]; omega)
  unfold Shows fbare
  rw [h1, h2]
  have := ha.up
  have := ha.at_
  refine ⟨?_, rfl⟩
  simp [fM, sh, semF, sem]; omega
theorem wit_train {a b : List Part} (ha : RF a) (m : Int) {k l : Int} (h1 : ¬ under (ahd (wks a).st true k) false l) (h2 : ¬ under (ahd (wks b).st false l) true k) (n : Nat) (hn : hiR a < tlen (k + 1) (l + 1) n) : Shows a b (false, trnA (k + 1) (l + 1) (n + 1) m) (m + (wks a).l0) := by
  unfold Shows fbare
  rw [fcl_filled h1 n m ((under_hi ha (by have := ha.h0; omega)).mpr (by omega)), fcl_dropped h2]
  have := ha.up
  have := ha.at_
  refine ⟨?_, rfl⟩
  simp [fM, sh, semF, sem]; omega
/-- what is not low -/
theorem viol {a b : List Part} (ha : RF a) (hb : RF b) (h : ¬ Low (wks a).st (wks b).st) (hd : deR a ≤ deR b) (hh : hiR b ≤ hiR a) : ∃ k l, 0 ≤ k ∧ 0 ≤ l ∧ ¬ under (ahd (wks a).st true k) false l ∧ ¬ under (ahd (wks b).st false l) true k := by
  have nn := fun (S : List Sg) (b : Bool) (k : Int) => mst_nn (!b) (ahd S b k)
  by_cases c : ∀ k, 0 ≤ k → ph (wks a).st true k ≤ ph (wks b).st true k
  · have : ∃ l, 0 ≤ l ∧ ph (wks a).st false l < ph (wks b).st false l := by
      refine Classical.byContradiction fun hx => h fun k hk => ⟨c k hk, ?_⟩
      exact Int.not_lt.mp fun e => hx ⟨k, hk, e⟩
    obtain ⟨l, hl, hv⟩ := this
    have k0 : 0 ≤ ph (wks a).st false l := nn _ _ _
    have u1 : under (ahd (wks a).st false l) true (ph (wks a).st false l) := (mst_le k0).mp (Int.le_refl _)
    have u2 : ¬ under (ahd (wks b).st false l) true (ph (wks a).st false l) := fun hu => by
      have := (mst_le k0).mpr hu
      have e : ph (wks b).st false l = mst (ahd (wks b).st false l) true := rfl
      omega
    have u3 : ¬ under (wks a).st false l := fun hu => by
      have e1 : ph (wks a).st false l = hiR a := by
        have : ph (wks a).st false l = mst (ahd (wks a).st false l) true := rfl
        rw [this, ahd_all hu]; exact ha.lad.md
      have e2 : ph (wks b).st false l ≤ hiR b := by
        have h0 : 0 ≤ hiR b := hb.h0
        have : ph (wks b).st false l = mst (ahd (wks b).st false l) true := rfl
        rw [this, mst_le h0]
        intro s hs hsb
        exact (under_hi hb h0).mpr (Int.le_refl _) s (List.takeWhile_subset _ hs) hsb
      omega
    exact ⟨_, l, k0, hl, other_first (b := false) (c := true) rfl u1 u3, u2⟩
  · have : ∃ k, 0 ≤ k ∧ ph (wks b).st true k < ph (wks a).st true k := by
      refine Classical.byContradiction fun hx => c fun k hk => ?_
      exact Int.not_lt.mp fun e => hx ⟨k, hk, e⟩
    obtain ⟨k, hk, hv⟩ := this
    have l0 : 0 ≤ ph (wks b).st true k := nn _ _ _
    have u1 : under (ahd (wks b).st true k) false (ph (wks b).st true k) := (mst_le l0).mp (Int.le_refl _)
    have u2 : ¬ under (ahd (wks a).st true k) false (ph (wks b).st true k) := fun hu => by
      have := (mst_le l0).mpr hu
      have e : ph (wks a).st true k = mst (ahd (wks a).st true k) false := rfl
      omega
    have u3 : ¬ under (wks b).st true k := fun hu => by
      have e1 : ph (wks b).st true k = deR b := by
        have : ph (wks b).st true k = mst (ahd (wks b).st true k) false := rfl
        rw [this, ahd_all hu]; exact hb.lad.mf
      have e2 : ph (wks a).st true k ≤ deR a := by
        have h0 : 0 ≤ deR a := ha.d0
        have : ph (wks a).st true k = mst (ahd (wks a).st true k) false := rfl
        rw [this, mst_le h0]
        intro s hs hsb
        exact (under_de ha h0).mpr (Int.le_refl _) s (List.takeWhile_subset _ hs) hsb
      omega
    exact ⟨k, _, hk, l0, u2, other_first (b := true) (c := false) rfl u1 u3⟩
/-- how far the walk goes in such a row -/
theorem far {a : List Part} (hp : ∀ p ∈ a, 0 ≤ p.num) {k l : Int} (hk : 0 ≤ k) (hl : 0 ≤ l) (h1 : ¬ under (ahd (wks a).st true k) false l) (hh : k < hiR a) : 2 * (l + 1) + hiR a ≤ sumN a := by
  have L := (rf hp).lad
  have e1 : l < depH ((foundL a).takeWhile fun h => decide (h ≤ k)) := by
    rw [← L.pt k hk]
    have : ¬ ph (wks a).st true k ≤ l := fun hx => h1 ((mst_le hl).mp hx)
    show l < ph (wks a).st true k
    omega
  have e2 : ¬ ∀ h ∈ (foundL a).takeWhile (fun h => decide (h ≤ k)), -h ≤ l := fun hx => by
    have := (depH_le hl).mpr hx; omega
  have ht : hiR a = topH (foundL a) := L.hi
  have e3 : ∃ h ∈ foundL a, h = hiR a := by
    refine Classical.byContradiction fun hx => ?_
    have : topH (foundL a) ≤ hiR a - 1 := (topH_le (by omega)).mpr fun h hh' => by
      have h2 := (topH_le (hs := foundL a) (k := hiR a) (by omega)).mp (by omega) h hh'
      have : h ≠ hiR a := fun e => hx ⟨h, hh', e⟩
      omega
    omega
  obtain ⟨h, hm, hd⟩ : ∃ h ∈ (foundL a).takeWhile (fun h => decide (h ≤ k)), l < -h := by
    refine Classical.byContradiction fun hx => e2 fun h hm => ?_
    exact Int.not_lt.mp fun e => hx ⟨h, hm, e⟩
  obtain ⟨g, gm, rfl⟩ := e3
  have hsp := List.takeWhile_append_dropWhile (p := fun h => decide (h ≤ k)) (l := foundL a)
  have gm2 : hiR a ∈ (foundL a).dropWhile (fun h => decide (h ≤ k)) := by
    rw [← hsp] at gm
    rcases List.mem_append.mp gm with g1 | g1
    · have : hiR a ≤ k := by
        have h2 : ∀ (L : List Int) (x : Int), x ∈ L.takeWhile (fun h => decide (h ≤ k)) → x ≤ k := by
          intro L
          induction L with
          | nil => intro x hx; nomatch hx
          | cons y L ih =>
            intro x hx
            rw [List.takeWhile_cons] at hx
            by_cases c : y ≤ k
            · rw [if_pos (by simpa using c)] at hx
              rcases List.mem_cons.mp hx with rfl | hx
              · exact c
              · exact ih x hx
            · rw [if_neg (by simpa using c)] at hx; nomatch hx
        exact h2 _ _ g1
      omega
    · exact g1
  clear e1 e2 gm
  generalize (foundL a).takeWhile (fun h => decide (h ≤ k)) = TW at *
  generalize (foundL a).dropWhile (fun h => decide (h ≤ k)) = DW at *
  obtain ⟨i, hi, ei⟩ := List.getElem_of_mem hm
  obtain ⟨j, hj, ej⟩ := List.getElem_of_mem gm2
  have key : ∃ i j, i < j ∧ j < a.length ∧ (wks (a.take (i + 1))).at_ = h ∧ (wks (a.take (j + 1))).at_ = hiR a := by
    have hlen : (foundL a).length = a.length := found_len a
    have hl2 : TW.length + DW.length = a.length := by rw [← List.length_append, hsp, hlen]
    have gi : (foundL a)[i]? = some h := by rw [← hsp, List.getElem?_append_left hi, List.getElem?_eq_getElem hi, ei]
    have gj : (foundL a)[TW.length + j]? = some (hiR a) := by
      rw [← hsp, List.getElem?_append_right (by omega)]
      have : TW.length + j - TW.length = j := by omega
      rw [this, List.getElem?_eq_getElem hj, ej]
    have gt : ∀ n, ∀ v, (foundL a)[n]? = some v → (wks (a.take (n + 1))).at_ = v := fun n v hv => by
      unfold foundL Wfd at hv
      rw [List.getElem?_map] at hv
      cases hr : (List.range a.length)[n]? with
      | none => rw [hr] at hv; nomatch hv
      | some z =>
        rw [hr] at hv
        have := List.getElem?_eq_some_iff.mp hr
        obtain ⟨hz, hz2⟩ := this
        rw [List.getElem_range] at hz2
        subst hz2
        simpa using hv
    exact ⟨i, _, by omega, by omega, gt _ _ gi, gt _ _ gj⟩
  obtain ⟨i, j, hij, hj, ei, ej⟩ := key
  have hsplit : a = a.take (i + 1) ++ ((a.take (j + 1)).drop (i + 1) ++ a.drop (j + 1)) := by
    have h1 := List.take_append_drop (j + 1) a
    have h2 := List.take_append_drop (i + 1) (a.take (j + 1))
    rw [List.take_take, Nat.min_eq_left (by omega)] at h2
    rw [← List.append_assoc, h2, h1]
  have hj2 : a.take (j + 1) = a.take (i + 1) ++ (a.take (j + 1)).drop (i + 1) := by
    have h2 := List.take_append_drop (i + 1) (a.take (j + 1))
    rw [List.take_take, Nat.min_eq_left (by omega)] at h2
    exact h2.symm
  have p1 : ∀ p ∈ a.take (i + 1), 0 ≤ p.num := fun p hp' => hp p (List.mem_of_mem_take hp')
  have p2 : ∀ p ∈ (a.take (j + 1)).drop (i + 1), 0 ≤ p.num := fun p hp' => hp p (List.mem_of_mem_take (List.mem_of_mem_drop hp'))
  have p3 : ∀ p ∈ a.drop (j + 1), 0 ≤ p.num := fun p hp' => hp p (List.mem_of_mem_drop hp')
  have l1 := late_row p1
  have l2 := late_row p2
  have l3 := sumN_nn p3
  have a1 := at_l (a.take (i + 1))
  have a2 := at_l ((a.take (j + 1)).drop (i + 1))
  have cc := (cat_all (a.take (i + 1)) ((a.take (j + 1)).drop (i + 1))).at_
  rw [← hj2, ei, ej] at cc
  have hs : sumN a = sumN (a.take (i + 1)) + (sumN ((a.take (j + 1)).drop (i + 1)) + sumN (a.drop (j + 1))) := by
    conv => lhs; rw [hsplit]
    rw [sumN_app, sumN_app]
  rw [ei] at a1
  split at cc <;> omega
end Law
end
section
set_option autoImplicit false
/-! A ladder is told by what stands ahead. Plain. -/
namespace Law
open PySem PL
inductive Vl : List Sg → Prop
  | nil : Vl []
  | snoc {A : List Sg} {b : Bool} {n : Int} (h : Vl A) (h0 : 0 < n) (h1 : mst A b < n) (h2 : A.getLast?.map (·.1) ≠ some b) : Vl (A ++ [(b, n)])
theorem Vl.inv {S : List Sg} (h : Vl S) : S = [] ∨ ∃ A b n, S = A ++ [(b, n)] ∧ Vl A ∧ 0 < n ∧ mst A b < n ∧ A.getLast?.map (·.1) ≠ some b := by
  cases h with
  | nil => exact .inl rfl
  | snoc h h0 h1 h2 => exact .inr ⟨_, _, _, rfl, h, h0, h1, h2⟩
theorem Vl.last {A : List Sg} {b : Bool} {n : Int} (h : Vl (A ++ [(b, n)])) : Vl A ∧ 0 < n ∧ mst A b < n ∧ A.getLast?.map (·.1) ≠ some b := by
  rcases h.inv with e | ⟨A', b', n', e, h1, h2, h3, h4⟩
  · simp at e
  · obtain ⟨rfl, e2⟩ := List.append_inj' e rfl
    simp at e2
    obtain ⟨rfl, rfl⟩ := e2
    exact ⟨h1, h2, h3, h4⟩
theorem vl_ws {s : SS} {hs : List Int} (L : Lad hs s) (V : Vl s.st) (b : Bool) {n : Int} (h0 : 0 < n) (hn : mst s.st b < n) : Vl (ws s.st b n) := by
  unfold ws
  by_cases c : s.st.getLast?.map (·.1) = some b
  · rw [if_pos c]
    rcases V.inv with e | ⟨A, b', n', e, h1, h2, h3, h4⟩
    · rw [e] at c; nomatch c
    · rw [e] at c hn ⊢
      simp at c
      subst c
      rw [List.dropLast_concat]
      refine .snoc h1 h0 ?_ h4
      rw [mst_snoc] at hn
      simp at hn
      omega
  · rw [if_neg c]
    exact .snoc V h0 hn c
theorem vl_all (hs : List Int) : Vl (hs.foldl stg ⟨0, 0, []⟩).st := by
  refine rev_ind (P := fun hs => Vl (hs.foldl stg ⟨0, 0, []⟩).st) .nil ?_ hs
  intro l x ih
  rw [List.foldl_append]
  have L := lad_all l
  generalize l.foldl stg ⟨0, 0, []⟩ = s at *
  have h0 := topH_nn l
  have d0 := depH_nn l
  rw [← L.hi] at h0
  rw [← L.de] at d0
  show Vl (stg s x).st
  unfold stg
  split
  · exact vl_ws L ih true (by omega) (by rw [L.md]; omega)
  · split
    · exact vl_ws L ih false (by omega) (by rw [L.mf]; omega)
    · exact ih
theorem vl_row {a : List Part} (ha : ∀ p ∈ a, 0 ≤ p.num) : Vl (wks a).st := by
  rw [← stgs_shape ha]; exact vl_all _
/-- the same ahead -/
def EqP (S T : List Sg) : Prop := ∀ b k, 0 ≤ k → ph S b k = ph T b k
theorem EqP.symm {S T : List Sg} (h : EqP S T) : EqP T S := fun b k hk => (h b k hk).symm
theorem ph_all {S : List Sg} {b : Bool} {k : Int} (h : under S b k) : ph S b k = mst S (!b) := by unfold ph; rw [ahd_all h]
theorem mst_eq {S T : List Sg} (h : EqP S T) (b : Bool) : mst S b = mst T b := by
  have s0 := mst_nn (!b) S
  have t0 := mst_nn (!b) T
  have k0 : 0 ≤ max (mst S (!b)) (mst T (!b)) := by omega
  have e := h (!b) _ k0
  rw [ph_all ((mst_le k0).mp (by omega)), ph_all ((mst_le k0).mp (by omega))] at e
  simpa using e
theorem mst_one {A : List Sg} {b : Bool} {n : Int} (h : mst A b < n) : mst (A ++ [(b, n)]) b = n := by rw [mst_snoc]; simp; omega
theorem mst_other {A : List Sg} {b : Bool} {n : Int} : mst (A ++ [(b, n)]) (!b) = mst A (!b) := by rw [mst_snoc]; cases b <;> simp
/-- ahead of the last step -/
theorem ph_last {A : List Sg} {b : Bool} {n k : Int} (h : mst A b < n) (hk : 0 ≤ k) (hkn : mst A b ≤ k) : ph (A ++ [(b, n)]) b k = mst A (!b) := by
  have hu := (mst_le hk).mp hkn
  unfold ph
  rw [ahd_app hu]
  unfold ahd
  by_cases c : n > k
  · rw [List.takeWhile_cons, if_neg (by simp [c]), List.append_nil]
  · rw [List.takeWhile_cons, if_pos (by simp; omega), List.takeWhile_nil, mst_snoc]
    cases b <;> simp
theorem ph_same {A : List Sg} {b : Bool} {n k : Int} (h : mst A b < n) (hk : 0 ≤ k) : ph A b k = ph (A ++ [(b, n)]) b k := by
  by_cases c : mst A b ≤ k
  · rw [ph_last h hk c, ph_all ((mst_le hk).mp c)]
  · have hu : ¬ under A b k := fun hu => c ((mst_le hk).mpr hu)
    unfold ph; rw [ahd_stop hu]
/-- what stands ahead of the last step of the other word -/
theorem mst_back {A : List Sg} {b : Bool} (V : Vl A) (hl : A.getLast?.map (·.1) ≠ some b) (hd : 0 < mst A (!b)) : mst A b = ph A (!b) (mst A (!b) - 1) := by
  rcases V.inv with rfl | ⟨A', c, n, rfl, h1, h2, h3, h4⟩
  · simp [mst] at hd
  · have : c = !b := by
      simp at hl
      cases b <;> cases c <;> simp_all
    subst this
    rw [mst_one h3]
    have := ph_last (k := n - 1) h3 (by omega) (by omega)
    rw [this]
    have e := mst_other (A := A') (b := !b) (n := n)
    simp only [Bool.not_not] at e ⊢
    exact e
theorem no_step {A : List Sg} {b : Bool} (V : Vl A) (hl : A.getLast?.map (·.1) ≠ some b) (hd : mst A (!b) = 0) : A = [] := by
  rcases V.inv with e | ⟨A', c, n, rfl, h1, h2, h3, h4⟩
  · exact e
  · have : c = !b := by
      simp at hl
      cases b <;> cases c <;> simp_all
    subst this
    rw [mst_one h3] at hd
    omega
theorem last_same {A A' : List Sg} {b c : Bool} {n m : Int} (hA : mst A b < n) (hA' : mst A' c < m) (hn : 0 < n) (hm : 0 < m) (h : EqP (A ++ [(b, n)]) (A' ++ [(c, m)])) : c = b ∧ m = n := by
  have e1 := mst_eq h b
  have e2 := mst_eq h c
  rw [mst_one hA] at e1
  rw [mst_one hA'] at e2
  by_cases hc : c = b
  · subst hc
    rw [mst_one hA'] at e1
    exact ⟨rfl, e1.symm⟩
  · exfalso
    have hcb : c = !b := by cases b <;> cases c <;> simp_all
    subst hcb
    have e3 : mst (A' ++ [(!b, m)]) b = mst A' b := by have := mst_other (A := A') (b := !b) (n := m); simpa using this
    rw [e3] at e1
    rw [mst_other] at e2
    have p1 := ph_last (k := n - 1) hA (by omega) (by omega)
    have p2 := h b (n - 1) (by omega)
    rw [p1] at p2
    have hu : ¬ under A' b (n - 1) := fun hu => by have := (mst_le (by omega)).mpr hu; omega
    have p3 : ph (A' ++ [(!b, m)]) b (n - 1) = ph A' b (n - 1) := by unfold ph; rw [ahd_stop hu]
    rw [p3] at p2
    have p4 : ph A' b (n - 1) ≤ mst A' (!b) := by
      have h0 := mst_nn (!b) A'
      have : ph A' b (n - 1) = mst (ahd A' b (n - 1)) (!b) := rfl
      rw [this, mst_le h0]
      intro s hs hsb
      exact (mst_le h0).mp (Int.le_refl _) s (List.takeWhile_subset _ hs) hsb
    omega
theorem ladder_uniq {S : List Sg} (V : Vl S) : ∀ {T : List Sg}, Vl T → EqP S T → S = T := by
  induction V with
  | nil =>
    intro T VT h
    rcases VT.inv with e | ⟨A, b, n, rfl, h1, h2, h3, h4⟩
    · exact e.symm
    · have := mst_eq h b
      rw [mst_one h3] at this
      simp [mst] at this
      omega
  | @snoc A b n VA h0 h1 h2 ih =>
    intro T VT h
    rcases VT.inv with rfl | ⟨A', c, m, rfl, g0, g1, g2, g3⟩
    · have := mst_eq h b
      rw [mst_one h1] at this
      simp [mst] at this
      omega
    · obtain ⟨rfl, rfl⟩ := last_same h1 g2 h0 g1 h
      have em : mst A (!c) = mst A' (!c) := by have := mst_eq h (!c); rwa [mst_other, mst_other] at this
      have hmst : mst A c = mst A' c := by
        by_cases d : mst A (!c) = 0
        · rw [no_step VA h2 d, no_step g0 g3 (by omega)]
        · have d0 := mst_nn (!c) A
          have b1 := mst_back VA h2 (by omega)
          have b2 := mst_back g0 g3 (by omega)
          rw [em] at b1
          have hu1 : ¬ under A (!c) (mst A' (!c) - 1) := fun hu => by have := (mst_le (by omega)).mpr hu; omega
          have hu2 : ¬ under A' (!c) (mst A' (!c) - 1) := fun hu => by have := (mst_le (by omega)).mpr hu; omega
          have e := h (!c) (mst A' (!c) - 1) (by omega)
          unfold ph at e b1 b2
          rw [ahd_stop hu1, ahd_stop hu2] at e
          rw [b1, b2]; exact e
      have hA : EqP A A' := by
        intro w k hk
        by_cases hw : w = c
        · subst hw
          rw [ph_same h1 hk, ph_same g2 hk]; exact h w k hk
        · have hw : w = !c := by cases w <;> cases c <;> simp_all
          subst hw
          by_cases u : mst A (!c) ≤ k
          · rw [ph_all ((mst_le hk).mp u), ph_all ((mst_le hk).mp (by omega))]
            simpa using hmst
          · have hu1 : ¬ under A (!c) k := fun hu => u ((mst_le hk).mpr hu)
            have hu2 : ¬ under A' (!c) k := fun hu => by have := (mst_le hk).mpr hu; omega
            have e := h (!c) k hk
            unfold ph at e ⊢
            rw [ahd_stop hu1, ahd_stop hu2] at e
            exact e
      rw [ih g0 hA]
/-- rows that lie within one another have one form -/
theorem low_both {S T : List Sg} (h : Low S T) (k : Low T S) : EqP S T := by
  intro b j hj
  have h1 := h j hj
  have h2 := k j hj
  cases b <;> omega
theorem within_both {a b : List Part} (ha : ∀ p ∈ a, 0 ≤ p.num) (hb : ∀ p ∈ b, 0 ≤ p.num) (h : Within a b) (k : Within b a) : (wks a).t = (wks b).t ∧ (wks a).l0 = (wks b).l0 ∧ (wks a).l1 = (wks b).l1 ∧ (wks a).st = (wks b).st := by
  have cc : Core a b ∧ Core b a := by
    obtain ⟨h1, h2⟩ := h
    obtain ⟨k1, k2⟩ := k
    rw [← h1] at k2
    cases ht : (wks a).t <;> rw [ht] at h2 k2 <;> simp at h2 k2
    · exact ⟨h2, k2⟩
    · exact ⟨k2, h2⟩
  obtain ⟨⟨a1, a2, a3⟩, ⟨b1, b2, b3⟩⟩ := cc
  refine ⟨h.1, by omega, by omega, ladder_uniq (vl_row ha) (vl_row hb) (low_both ((low_rows ha hb).mpr a3) ((low_rows hb ha).mpr b3))⟩
theorem same_within {a b : List Part} (ha : ∀ p ∈ a, 0 ≤ p.num) (hb : ∀ p ∈ b, 0 ≤ p.num) (h : (wks a).t = (wks b).t ∧ (wks a).l0 = (wks b).l0 ∧ (wks a).l1 = (wks b).l1 ∧ (wks a).st = (wks b).st) : Within a b ∧ Within b a := by
  obtain ⟨h1, h2, h3, h4⟩ := h
  have l1 : Low (wks a).st (wks b).st := by rw [h4]; exact low_refl _
  have l2 : Low (wks b).st (wks a).st := by rw [h4]; exact low_refl _
  have c1 : Core a b := ⟨by omega, by omega, (low_rows ha hb).mp l1⟩
  have c2 : Core b a := ⟨by omega, by omega, (low_rows hb ha).mp l2⟩
  exact ⟨⟨h1, by split <;> assumption⟩, ⟨h1.symm, by split <;> assumption⟩⟩
end Law
end
section
set_option autoImplicit false
/-! Steps on the low side let no more on. Plain. -/
namespace Law
open PySem PL
theorem mst_sub {A B : List Sg} {b : Bool} (h : ∀ s ∈ A, s ∈ B) : mst A b ≤ mst B b := by
  rw [mst_le (mst_nn b B)]
  intro s hs hb
  exact (mst_le (mst_nn b B)).mp (Int.le_refl _) s (h s hs) hb
theorem ahd_sub (S : List Sg) (b : Bool) (k : Int) : ∀ s ∈ ahd S b k, s ∈ S := fun s hs => List.takeWhile_subset _ hs
theorem ph_le_mst (S : List Sg) (b : Bool) (k : Int) : ph S b k ≤ mst S (!b) := mst_sub (ahd_sub S b k)
theorem ahd_under (b : Bool) (k : Int) : ∀ S : List Sg, under (ahd S b k) b k
  | [], _, hs, _ => nomatch hs
  | s :: S, z, hz, hb => by
    by_cases d : s.1 = b ∧ s.2 > k
    · rw [ahd_cons_stop d] at hz; nomatch hz
    · rw [ahd_cons_go d] at hz
      rcases List.mem_cons.mp hz with rfl | hz
      · exact Int.not_lt.mp fun e => d ⟨hb, e⟩
      · exact ahd_under b k S z hz hb
/-- what stands ahead, and the rest -/
theorem ahd_split (b : Bool) (k : Int) : ∀ S : List Sg, ∃ B, S = ahd S b k ++ B ∧ (B = [] ∨ ∃ m B0, B = (b, m) :: B0 ∧ k < m)
  | [] => ⟨[], rfl, .inl rfl⟩
  | s :: S => by
    by_cases d : s.1 = b ∧ s.2 > k
    · exact ⟨s :: S, by rw [ahd_cons_stop d]; rfl, .inr ⟨s.2, S, by rw [← d.1], d.2⟩⟩
    · obtain ⟨B, h1, h2⟩ := ahd_split b k S
      exact ⟨B, by rw [ahd_cons_go d, List.cons_append, ← h1], h2⟩
theorem ph_pre (A B : List Sg) (b : Bool) (k : Int) : ph A b k ≤ ph (A ++ B) b k := by
  by_cases u : under A b k
  · unfold ph
    rw [ahd_all u, ahd_app u]
    exact mst_sub fun s hs => List.mem_append_left _ hs
  · unfold ph; rw [ahd_stop u]; exact Int.le_refl _
theorem low_ends {S T : List Sg} (h : Low S T) : mst S false ≤ mst T false ∧ mst T true ≤ mst S true := by
  have a1 := mst_nn true S
  have a2 := mst_nn true T
  have a3 := mst_nn false S
  have a4 := mst_nn false T
  have k1 : 0 ≤ max (mst S true) (mst T true) := by omega
  have k2 : 0 ≤ max (mst S false) (mst T false) := by omega
  have e1 := (h _ k1).1
  have e2 := (h _ k2).2
  rw [ph_all ((mst_le k1).mp (by omega)), ph_all ((mst_le k1).mp (by omega))] at e1
  rw [ph_all ((mst_le k2).mp (by omega)), ph_all ((mst_le k2).mp (by omega))] at e2
  exact ⟨e1, e2⟩
theorem low_le {T : List Sg} (V : Vl T) : ∀ {S : List Sg}, Nn S → Low S T → ∀ {x : Fl}, Wd 0 0 x → leF (fcl S x) (fcl T x) := by
  induction V with
  | nil =>
    intro S hS hL x hx
    have hu : under S false 0 := (mst_le (Int.le_refl 0)).mp (by have := (low_ends hL).1; simpa [mst] using this)
    have h1 := (tail_le (Int.le_refl 0) hx S hS hu).1
    have e : fF 0 x = x := fF_noop (Int.le_refl 0) hx
    rw [e] at h1
    exact h1
  | @snoc A b n VA h0 h1 h2 ih =>
    intro S hS hL x hx
    obtain ⟨en1, en2⟩ := low_ends hL
    cases b
    · -- the last step fills
      have l0 := mst_nn false A
      obtain ⟨B, hB, _⟩ := ahd_split false (mst A false) S
      have hu := ahd_under false (mst A false) S
      have hlow : Low (ahd S false (mst A false)) A := by
        intro k hk
        constructor
        · by_cases u : under A true k
          · rw [ph_all u]
            refine Int.le_trans (ph_le_mst _ _ _) ?_
            simp only [Bool.not_true]
            rw [mst_le l0]; exact hu
          · have e : ph (A ++ [(false, n)]) true k = ph A true k := by unfold ph; rw [ahd_stop u]
            rw [← e]
            refine Int.le_trans (ph_pre _ B true k) ?_
            rw [← hB]
            exact (hL k hk).1
        · rw [ph_same h1 hk]
          by_cases c : k < mst A false
          · refine Int.le_trans (hL k hk).2 ?_
            have u : ¬ under A false k := fun u => by have := (mst_le hk).mpr u; omega
            by_cases u2 : under (ahd S false (mst A false)) false k
            · -- nothing is filled beyond k
              rw [ph_all u2]
              have e3 : ahd S false k = ahd S false (mst A false) := by
                rw [hB]
                have hb := ahd_split false (mst A false) S
                obtain ⟨B', hB', hs⟩ := hb
                have : B = B' := List.append_cancel_left (hB.symm.trans hB')
                subst this
                rw [← hB]
                conv => lhs; rw [hB]
                rw [ahd_app u2]
                rcases hs with rfl | ⟨m, B0, rfl, hm⟩
                · simp [ahd]
                · rw [ahd_cons_stop (s := (false, m)) ⟨rfl, by show m > k; omega⟩, List.append_nil]
              unfold ph; rw [e3]; exact Int.le_refl _
            · have e3 : ph S false k = ph (ahd S false (mst A false)) false k := by
                conv => lhs; rw [hB]
                unfold ph; rw [ahd_stop u2]
              rw [e3]; exact Int.le_refl _
          · rw [ph_last h1 hk (by omega)]
            have e4 := (hL _ l0).2
            rw [ph_last h1 l0 (Int.le_refl _)] at e4
            have u3 : under (ahd S false (mst A false)) false k := fun s hs hb => by have := hu s hs hb; omega
            rw [ph_all u3]
            exact e4
      have hn : Nn (ahd S false (mst A false) ++ B) := by rw [← hB]; exact hS
      have i1 := ih hn.left hlow hx
      rw [fcl_app]
      show leF _ (fF n (fcl A x))
      have nA : mst (A ++ [(false, n)]) false = n := mst_one h1
      have uB : under B false n := by
        have hS2 : under S false n := (mst_le (by omega)).mp (by omega)
        intro s hs hb
        exact hS2 s (by rw [hB]; exact List.mem_append_right _ hs) hb
      have wP := wdC _ hx hn.left
      have hA : Nn A := fun s hs => by
        have : ∀ {T : List Sg}, Vl T → Nn T := by
          intro T V
          induction V with
          | nil => intro s hs; nomatch hs
          | snoc _ h0 _ _ ih => exact ih.app fun s hs => by simp at hs; subst hs; show 0 ≤ _; omega
        exact this VA s hs
      have i2 := (tail_le (by omega : (0 : Int) ≤ n) wP B hn.right uB).1
      conv => lhs; rw [hB]
      rw [fcl_app]
      exact leF_trans i2 (fF_mono (by omega) wP (wdC A hx hA) i1)
    · -- the last step drops
      have l0 := mst_nn true A
      obtain ⟨B, hB, hB2⟩ := ahd_split true (mst A true) S
      have hu := ahd_under true (mst A true) S
      have L0 := mst_nn false S
      have nA : mst (A ++ [(true, n)]) true = n := mst_one h1
      have nF : mst (A ++ [(true, n)]) false = mst A false := by have := mst_other (A := A) (b := true) (n := n); simpa using this
      have hlow : Low (ahd S true (mst A true) ++ [(true, mst A true)] ++ [(false, mst S false)]) A := by
        intro k hk
        constructor
        · rw [ph_same h1 hk]
          by_cases c : k < mst A true
          · refine Int.le_trans ?_ (hL k hk).1
            have nu : ¬ under (ahd S true (mst A true) ++ [(true, mst A true)]) true k := fun u => by
              have := u (true, mst A true) (by simp) rfl
              simp only at this; omega
            have e1 : ph (ahd S true (mst A true) ++ [(true, mst A true)] ++ [(false, mst S false)]) true k = ph (ahd S true (mst A true) ++ [(true, mst A true)]) true k := by unfold ph; rw [ahd_stop nu]
            rw [e1]
            by_cases u2 : under (ahd S true (mst A true)) true k
            · have e3 : ahd S true k = ahd S true (mst A true) := by
                conv => lhs; rw [hB]
                rw [ahd_app u2]
                rcases hB2 with rfl | ⟨m, B0, rfl, hm⟩
                · simp [ahd]
                · rw [ahd_cons_stop (s := (true, m)) ⟨rfl, by show m > k; omega⟩, List.append_nil]
              have e4 : ahd (ahd S true (mst A true) ++ [(true, mst A true)]) true k = ahd S true (mst A true) := by
                rw [ahd_app u2, ahd_cons_stop (s := (true, mst A true)) ⟨rfl, c⟩, List.append_nil]
              unfold ph; rw [e3, e4]; exact Int.le_refl _
            · have e3 : ph S true k = ph (ahd S true (mst A true)) true k := by
                conv => lhs; rw [hB]
                unfold ph; rw [ahd_stop u2]
              have e4 : ph (ahd S true (mst A true) ++ [(true, mst A true)]) true k = ph (ahd S true (mst A true)) true k := by unfold ph; rw [ahd_stop u2]
              rw [e3, e4]; exact Int.le_refl _
          · rw [ph_last h1 hk (by omega)]
            refine Int.le_trans (ph_le_mst _ _ _) ?_
            simp only [Bool.not_true]
            rw [← nF]
            refine Int.le_trans ?_ en1
            rw [mst_le L0]
            intro s hs hb
            rcases List.mem_append.mp hs with hs | hs
            · rcases List.mem_append.mp hs with hs | hs
              · exact (mst_le L0).mp (Int.le_refl _) s (ahd_sub _ _ _ s hs) hb
              · simp at hs; subst hs; simp at hb
            · simp at hs; subst hs; exact Int.le_refl _
        · by_cases u2 : under (ahd S true (mst A true)) false k
          · refine Int.le_trans (ph_le_mst _ _ _) ?_
            simp only [Bool.not_false]
            have u3 : under (ahd S true (mst A true) ++ [(true, mst A true)]) false k := fun s hs hb => by
              rcases List.mem_append.mp hs with hs | hs
              · exact u2 s hs hb
              · simp at hs; subst hs; simp at hb
            have e5 : ph (ahd S true (mst A true) ++ [(true, mst A true)] ++ [(false, mst S false)]) false k ≥ mst (ahd S true (mst A true) ++ [(true, mst A true)]) true := by
              unfold ph
              rw [ahd_app u3]
              exact mst_sub fun s hs => List.mem_append_left _ hs
            refine Int.le_trans ?_ e5
            rw [mst_snoc]; simp; omega
          · have u3 : ¬ under (ahd S true (mst A true) ++ [(true, mst A true)]) false k := fun u => u2 fun s hs => u s (List.mem_append_left _ hs)
            have e1 : ph (ahd S true (mst A true) ++ [(true, mst A true)] ++ [(false, mst S false)]) false k = ph S false k := by
              conv => rhs; rw [hB]
              unfold ph; rw [ahd_stop u3, ahd_stop u2, ahd_stop u2]
            rw [e1]
            exact Int.le_trans (ph_pre A [(true, n)] false k) (hL k hk).2
      have hn : Nn (ahd S true (mst A true) ++ B) := by rw [← hB]; exact hS
      have hnP : Nn (ahd S true (mst A true) ++ [(true, mst A true)]) := hn.left.app fun s hs => by simp at hs; subst hs; exact l0
      have i1 := ih (hnP.app fun s hs => by simp at hs; subst hs; exact L0) hlow hx
      have hA : Nn A := fun s hs => by
        have : ∀ {T : List Sg}, Vl T → Nn T := by
          intro T V
          induction V with
          | nil => intro s hs; nomatch hs
          | snoc _ h0 _ _ ih => exact ih.app fun s hs => by simp at hs; subst hs; show 0 ≤ _; omega
        exact this VA s hs
      have hnu : ¬ under S true (n - 1) := fun u => by have := (mst_le (by omega)).mpr u; omega
      have hnB : ¬ under B true (n - 1) := fun u => hnu fun s hs hb => by
        rw [hB] at hs
        rcases List.mem_append.mp hs with hs | hs
        · have := hu s hs hb; omega
        · exact u s hs hb
      have uB : under B false (mst S false) := fun s hs hb => (mst_le L0).mp (Int.le_refl _) s (by rw [hB]; exact List.mem_append_right _ hs) hb
      have eB : ∀ z, fcl B (fD (mst A true) z) = fcl B z := fun z => by
        rcases hB2 with rfl | ⟨m, B0, rfl, hm⟩
        · exact absurd (fun s hs => nomatch hs) hnB
        · show fcl B0 (fD m (fD _ z)) = fcl B0 (fD m z)
          rw [fD_D (by omega)]
      have wP := wdC _ hx hnP
      have i2 := (tail_le L0 wP B hn.right uB).2 n (by omega) hnB
      have e1 : fcl B (fcl (ahd S true (mst A true) ++ [(true, mst A true)]) x) = fcl S x := by
        rw [fcl_app]
        show fcl B (fD (mst A true) _) = _
        rw [eB]
        conv => rhs; rw [hB, fcl_app]
      rw [e1] at i2
      rw [fcl_app A]
      show leF _ (fD n (fcl A x))
      refine leF_trans i2 (fD_mono (by omega) (wdF L0 wP) (wdC A hx hA) ?_)
      rw [fcl_app] at i1
      exact i1
end Law
end
section
set_option autoImplicit false
/-! Forms behind a promise: what lies not within is shown, what lies within is nowhere shown not to. Plain. -/
namespace Law
open PySem PL
/-- a form behind a promise -/
structure PF (p q : Int) (s : W) : Prop where
  p0 : 0 ≤ p
  q0 : 0 ≤ q
  vl : Vl s.st
  hi : s.hi = max p (mst s.st true)
  lo : -s.lo = max q (mst s.st false)
  ab : ∀ x ∈ s.st, if x.1 then p < x.2 else q < x.2
  up : s.l0 - s.l1 ≤ s.hi
  dn : s.l1 - s.l0 ≤ -s.lo
theorem vl_ws0 {S : List Sg} (V : Vl S) (b : Bool) {n : Int} (h0 : 0 < n) (hn : mst S b < n) : Vl (ws S b n) := by
  unfold ws
  by_cases c : S.getLast?.map (·.1) = some b
  · rw [if_pos c]
    rcases V.inv with e | ⟨A, b', n', e, h1, h2, h3, h4⟩
    · rw [e] at c; nomatch c
    · rw [e] at c hn ⊢
      simp at c
      subst c
      rw [List.dropLast_concat]
      refine .snoc h1 h0 ?_ h4
      rw [mst_snoc] at hn
      simp at hn
      omega
  · rw [if_neg c]
    exact .snoc V h0 hn c
theorem mst_ws {S : List Sg} (b : Bool) {n : Int} (hn : mst S b < n) : mst (ws S b n) b = n ∧ mst (ws S b n) (!b) = mst S (!b) := by
  unfold ws
  by_cases c : S.getLast?.map (·.1) = some b
  · rw [if_pos c]
    rcases List.eq_nil_or_concat S with rfl | ⟨A, ⟨b', n'⟩, rfl⟩
    · nomatch c
    · rw [List.concat_eq_append] at *
      simp at c
      subst c
      rw [List.dropLast_concat]
      rw [mst_snoc] at hn
      simp at hn
      refine ⟨mst_one (by omega), ?_⟩
      rw [mst_other, mst_other]
  · rw [if_neg c]
    exact ⟨mst_one hn, mst_other⟩
theorem pf_row {p q : Int} (hp : 0 ≤ p) (hq : 0 ≤ q) {row : List Part} (hr : ∀ x ∈ row, 0 ≤ x.num) : PF p q (wksB p q row) := by
  have ha : ∀ row : List Part, (wksB p q row).at_ = (wksB p q row).l0 - (wksB p q row).l1 := fun row => by
    have f := wksB_f p q row
    rw [f.2.1, f.2.2.1, f.2.2.2]; exact at_l row
  have key : ∀ row : List Part, (∀ x ∈ row, 0 ≤ x.num) → Vl (wksB p q row).st ∧ (wksB p q row).hi = max p (mst (wksB p q row).st true) ∧ -(wksB p q row).lo = max q (mst (wksB p q row).st false) := by
    intro row
    refine rev_ind (P := fun row => (∀ x ∈ row, 0 ≤ x.num) → Vl (wksB p q row).st ∧ (wksB p q row).hi = max p (mst (wksB p q row).st true) ∧ -(wksB p q row).lo = max q (mst (wksB p q row).st false)) ?_ ?_ row
    · intro _
      refine ⟨.nil, ?_, ?_⟩
      · show p = max p 0; omega
      · show - -q = max q 0; omega
    · intro l x ih hx
      obtain ⟨v, h1, h2⟩ := ih fun y hy => hx y (List.mem_append_left _ hy)
      have hn := hx x (by simp)
      have inv := wksB_inv hp hq l
      rw [wksB_snoc]
      generalize wksB p q l = s at *
      have U : ∀ k, 0 ≤ k → Vl (s.U k).st ∧ (s.U k).hi = max p (mst (s.U k).st true) ∧ -(s.U k).lo = max q (mst (s.U k).st false) := fun k hk => by
        unfold W.U
        have i1 := inv.h
        by_cases c : s.at_ + k > s.hi
        · rw [if_pos c]
          have hm : mst s.st true < s.at_ + k := by omega
          obtain ⟨m1, m2⟩ := mst_ws (S := s.st) true hm
          refine ⟨vl_ws0 v true (by omega) hm, ?_, ?_⟩
          · simp only [m1]; omega
          · simp only [Bool.not_true] at m2; simp only [m2]; exact h2
        · rw [if_neg c]; exact ⟨v, h1, h2⟩
      have D : ∀ k, 0 ≤ k → Vl (s.D k).st ∧ (s.D k).hi = max p (mst (s.D k).st true) ∧ -(s.D k).lo = max q (mst (s.D k).st false) := fun k hk => by
        unfold W.D
        have i1 := inv.l
        by_cases c : s.at_ - k < s.lo
        · rw [if_pos c]
          have hm : mst s.st false < -(s.at_ - k) := by omega
          obtain ⟨m1, m2⟩ := mst_ws (S := s.st) false hm
          refine ⟨vl_ws0 v false (by omega) hm, ?_, ?_⟩
          · simp only [Bool.not_false] at m2; simp only [m2]; exact h1
          · simp only [m1]; omega
        · rw [if_neg c]; exact ⟨v, h1, h2⟩
      cases x with
      | turn => rw [wk_turn inv]; exact ⟨v, h1, h2⟩
      | delay k => rw [wk_delay inv]; exact ⟨v, h1, h2⟩
      | on k =>
        rw [wk_on inv (k := k) hn]
        split
        · exact D k hn
        · exact U k hn
      | off k =>
        rw [wk_off inv (k := k) hn]
        split
        · exact U k hn
        · exact D k hn
  obtain ⟨v, h1, h2⟩ := key row hr
  have inv := wksB_inv hp hq row
  have hat := ha row
  exact ⟨hp, hq, v, h1, h2, (wksB_above hp hq row).2, by have := inv.h; omega, by have := inv.l; omega⟩
theorem vl_nn {T : List Sg} (V : Vl T) : Nn T := by
  induction V with
  | nil => intro s hs; nomatch hs
  | snoc _ h0 _ _ ih => exact ih.app fun s hs => by simp at hs; subst hs; show 0 ≤ _; omega
namespace PF
variable {p q : Int} {s t : W}
theorem under_hi (h : PF p q s) {k : Int} (hk : p ≤ k) : under s.st true k ↔ s.hi ≤ k := by
  rw [← mst_le (by have := h.p0; omega), h.hi]; omega
theorem under_de (h : PF p q s) {k : Int} (hk : q ≤ k) : under s.st false k ↔ -s.lo ≤ k := by
  rw [← mst_le (by have := h.q0; omega), h.lo]; omega
end PF
/-- on here, off there -/
def ShowsW (s t : W) (x : Fl) (n : Int) : Prop := semF (fbare s x) n = true ∧ semF (fbare t x) n = false
section
variable {p q : Int} {s t : W}
theorem witB_l0 (m : Int) (h : s.l0 < t.l0) : ShowsW s t (false, [m]) (m + s.l0) := by
  unfold ShowsW fbare
  rw [fcl_up, fcl_up]
  simp [fM, sh, semF, sem]; omega
theorem witB_l1 (m : Int) (h : t.l1 < s.l1) : ShowsW s t (true, [m]) (m + t.l1) := by
  unfold ShowsW fbare
  rw [fcl_up, fcl_up]
  simp [fM, sh, semF, sem]; omega
theorem witB_de (ha : PF p q s) (hb : PF p q t) (m : Int) (h : -t.lo < -s.lo) : ShowsW s t (true, [m, m + -t.lo + 1]) (m + t.l1) := by
  have e : m + -t.lo + 1 - m - 1 = -t.lo := by omega
  have hq : q ≤ -t.lo := by rw [hb.lo]; omega
  have h1 : fcl s.st (true, [m, m + -t.lo + 1]) = (true, []) := fcl_gap_gone (by rw [e, ha.under_de hq]; omega)
  have h2 : fcl t.st (true, [m, m + -t.lo + 1]) = (true, [m, m + -t.lo + 1]) := fcl_gap (by rw [e, hb.under_de hq]; omega)
  unfold ShowsW fbare
  rw [h1, h2]
  have := hb.dn
  refine ⟨rfl, ?_⟩
  simp [fM, sh, semF, sem]; omega
theorem witB_hi (ha : PF p q s) (hb : PF p q t) (m : Int) (h : s.hi < t.hi) : ShowsW s t (false, [m, m + s.hi + 1]) (m + s.l0) := by
  have e : m + s.hi + 1 - m - 1 = s.hi := by omega
  have hq : p ≤ s.hi := by rw [ha.hi]; omega
  have h1 : fcl s.st (false, [m, m + s.hi + 1]) = (false, [m, m + s.hi + 1]) := fcl_one (by rw [e, ha.under_hi hq]; omega)
  have h2 : fcl t.st (false, [m, m + s.hi + 1]) = (false, []) := fcl_one_gone (by rw [e, hb.under_hi hq]; omega)
  unfold ShowsW fbare
  rw [h1, h2]
  have := ha.up
  refine ⟨?_, rfl⟩
  simp [fM, sh, semF, sem]; omega
theorem witB_train (ha : PF p q s) (m : Int) {k l : Int} (hk : p ≤ k) (hl : q ≤ l) (h1 : ¬ under (ahd s.st true k) false l) (h2 : ¬ under (ahd t.st false l) true k) (n : Nat) (hn : s.hi < tlen (k + 1) (l + 1) n) : ShowsW s t (false, trnA (k + 1) (l + 1) (n + 1) m) (m + s.l0) := by
  have p0 := ha.p0
  have q0 := ha.q0
  have hh := ha.hi
  unfold ShowsW fbare
  rw [fcl_filled h1 n m ((ha.under_hi (by omega)).mpr (by omega)), fcl_dropped h2]
  have := ha.up
  refine ⟨?_, rfl⟩
  simp [fM, sh, semF, sem]; omega
/-- what stands ahead is told by numbers from the promise on -/
theorem ahd_low {S : List Sg} {b : Bool} {k j : Int} (hk : k ≤ j) (h : ∀ x ∈ S, x.1 = b → j < x.2) : ahd S b k = ahd S b j := by
  induction S with
  | nil => rfl
  | cons x S ih =>
    have ih := ih fun y hy => h y (by simp [hy])
    by_cases c : x.1 = b
    · have := h x (by simp) c
      rw [ahd_cons_stop ⟨c, by omega⟩, ahd_cons_stop ⟨c, by omega⟩]
    · rw [ahd_cons_go (fun e => c e.1), ahd_cons_go (fun e => c e.1), ih]
theorem ab_t (ha : PF p q s) : ∀ x ∈ s.st, x.1 = true → p < x.2 := fun x hx h => by have := ha.ab x hx; rw [h] at this; simpa using this
theorem ab_f (ha : PF p q s) : ∀ x ∈ s.st, x.1 = false → q < x.2 := fun x hx h => by have := ha.ab x hx; rw [h] at this; simpa using this
theorem ph_ab_t (ha : PF p q s) {k : Int} : ph s.st true k = 0 ∨ q < ph s.st true k := by
  by_cases c : ph s.st true k ≤ q
  · left
    have h0 := mst_nn false (ahd s.st true k)
    have hu : under (ahd s.st true k) false q := (mst_le ha.q0).mp c
    have : mst (ahd s.st true k) false ≤ 0 := by
      rw [mst_le (Int.le_refl 0)]
      intro x hx hb
      have a := hu x hx hb
      have b := ab_f ha x (ahd_sub _ _ _ x hx) hb
      omega
    show mst (ahd s.st true k) false = 0
    omega
  · right; omega
theorem ph_ab_f (ha : PF p q s) {k : Int} : ph s.st false k = 0 ∨ p < ph s.st false k := by
  by_cases c : ph s.st false k ≤ p
  · left
    have h0 := mst_nn true (ahd s.st false k)
    have hu : under (ahd s.st false k) true p := (mst_le ha.p0).mp c
    have : mst (ahd s.st false k) true ≤ 0 := by
      rw [mst_le (Int.le_refl 0)]
      intro x hx hb
      have a := hu x hx hb
      have b := ab_t ha x (ahd_sub _ _ _ x hx) hb
      omega
    show mst (ahd s.st false k) true = 0
    omega
  · right; omega
/-- a fill here that is no fill there: a train shows it -/
theorem viol_f (ha : PF p q s) (hb : PF p q t) (hd : -s.lo ≤ -t.lo) {k : Int} (hk : p ≤ k) (hv : ph t.st true k < ph s.st true k) : q ≤ max q (ph t.st true k) ∧ ¬ under (ahd s.st true k) false (max q (ph t.st true k)) ∧ ¬ under (ahd t.st false (max q (ph t.st true k))) true k := by
  have p0 := ha.p0
  have q0 := ha.q0
  have t0 := mst_nn false (ahd t.st true k)
  have ht0 : 0 ≤ ph t.st true k := t0
  have s0 := ph_ab_t ha (k := k)
  have l0 : 0 ≤ max q (ph t.st true k) := by omega
  have u1 : under (ahd t.st true k) false (max q (ph t.st true k)) := (mst_le l0).mp (by show ph t.st true k ≤ _; omega)
  refine ⟨by omega, fun hu => ?_, ?_⟩
  · have : ph s.st true k ≤ max q (ph t.st true k) := (mst_le l0).mpr hu
    omega
  · refine other_first (b := true) (c := false) rfl u1 fun u => ?_
    have e1 := ph_all u
    have e2 := ph_le_mst s.st true k
    have e3 := ha.lo
    have e4 := hb.lo
    simp only [Bool.not_true] at e1 e2
    omega
theorem viol_d (ha : PF p q s) (hb : PF p q t) (hh : t.hi ≤ s.hi) {l : Int} (hl : q ≤ l) (hv : ph s.st false l < ph t.st false l) : p ≤ max p (ph s.st false l) ∧ ¬ under (ahd s.st true (max p (ph s.st false l))) false l ∧ ¬ under (ahd t.st false l) true (max p (ph s.st false l)) := by
  have p0 := ha.p0
  have q0 := ha.q0
  have t0 := mst_nn true (ahd s.st false l)
  have ht0 : 0 ≤ ph s.st false l := t0
  have s0 := ph_ab_f hb (k := l)
  have l0 : 0 ≤ max p (ph s.st false l) := by omega
  have u1 : under (ahd s.st false l) true (max p (ph s.st false l)) := (mst_le l0).mp (by show ph s.st false l ≤ _; omega)
  refine ⟨by omega, ?_, fun hu => ?_⟩
  · refine other_first (b := false) (c := true) rfl u1 fun u => ?_
    have e1 := ph_all u
    have e2 := ph_le_mst t.st false l
    have e3 := ha.hi
    have e4 := hb.hi
    simp only [Bool.not_false] at e1 e2
    omega
  · have : ph t.st false l ≤ max p (ph s.st false l) := (mst_le l0).mpr hu
    omega
theorem violB (ha : PF p q s) (hb : PF p q t) (h : ¬ Low s.st t.st) (hd : -s.lo ≤ -t.lo) (hh : t.hi ≤ s.hi) : ∃ k l, p ≤ k ∧ q ≤ l ∧ ¬ under (ahd s.st true k) false l ∧ ¬ under (ahd t.st false l) true k := by
  by_cases c : ∀ k, 0 ≤ k → ph s.st true k ≤ ph t.st true k
  · have : ∃ l, 0 ≤ l ∧ ph s.st false l < ph t.st false l := by
      refine Classical.byContradiction fun hx => h fun k hk => ⟨c k hk, ?_⟩
      exact Int.not_lt.mp fun e => hx ⟨k, hk, e⟩
    obtain ⟨l, hl, hv⟩ := this
    have hv' : ph s.st false (max l q) < ph t.st false (max l q) := by
      by_cases c : l ≤ q
      · have : max l q = q := by omega
        rw [this]
        unfold ph at hv ⊢
        rw [ahd_low c (ab_f ha), ahd_low c (ab_f hb)] at hv
        exact hv
      · have : max l q = l := by omega
        rw [this]; exact hv
    obtain ⟨a, b, d⟩ := viol_d ha hb hh (l := max l q) (by omega) hv'
    exact ⟨_, max l q, a, by omega, b, d⟩
  · have : ∃ k, 0 ≤ k ∧ ph t.st true k < ph s.st true k := by
      refine Classical.byContradiction fun hx => c fun k hk => ?_
      exact Int.not_lt.mp fun e => hx ⟨k, hk, e⟩
    obtain ⟨k, hk, hv⟩ := this
    have hv' : ph t.st true (max k p) < ph s.st true (max k p) := by
      by_cases c : k ≤ p
      · have : max k p = p := by omega
        rw [this]
        unfold ph at hv ⊢
        rw [ahd_low c (ab_t ha), ahd_low c (ab_t hb)] at hv
        exact hv
      · have : max k p = k := by omega
        rw [this]; exact hv
    obtain ⟨a, b, d⟩ := viol_f ha hb hd (k := max k p) (by omega) hv'
    exact ⟨max k p, _, by omega, a, b, d⟩
end
/-! within: nowhere more -/
theorem semF_Mon {a b p q : Int} {z : Fl} (hp : 0 ≤ p) (hq : 0 ≤ q) (hz : Wd p q z) (h : b ≤ a) (hab : a - b ≤ p) (t : Int) : semF (fM a b z) t = true ↔ ∀ y, t - a ≤ y → y ≤ t - b → semF z y = true := by
  have e1 : fD (a - b) z = z := fD_noop hab hz
  have e2 : fM a b z = fM b b (fM (a - b) 0 (fD (a - b) z)) := by rw [e1, fM_M]; congr 1 <;> omega
  rw [e2, semF_delay, semF_on (by omega) (Wd_mono hz hp hq)]
  have e3 : t - b - (a - b) = t - a := by omega
  rw [e3]
theorem semF_Moff {a b p q : Int} {z : Fl} (hp : 0 ≤ p) (hq : 0 ≤ q) (hz : Wd p q z) (h : a ≤ b) (hab : b - a ≤ q) (t : Int) : semF (fM a b z) t = false ↔ ∀ y, t - b ≤ y → y ≤ t - a → semF z y = false := by
  have e1 : fF (b - a) z = z := fF_noop hab hz
  have e2 : fM a b z = fM a a (fM 0 (b - a) (fF (b - a) z)) := by rw [e1, fM_M]; congr 1 <;> omega
  rw [e2, semF_delay, semF_off (by omega) (Wd_mono hz hp hq)]
  have e3 : t - a - (b - a) = t - b := by omega
  rw [e3]
theorem fM_le {a b a' b' p q p' q' : Int} {z z' : Fl} (hp : 0 ≤ p) (hq : 0 ≤ q) (hp' : 0 ≤ p') (hq' : 0 ≤ q') (hz : Wd p q z) (hz' : Wd p' q' z') (h1 : a - b ≤ p) (h2 : b - a ≤ q) (h3 : a' - b' ≤ p') (h4 : b' - a' ≤ q') (ha : a' ≤ a) (hb : b ≤ b') (h : leF z z') : leF (fM a b z) (fM a' b' z') := by
  intro t ht
  by_cases c : b ≤ a
  · have g := (semF_Mon hp hq hz c h1 t).mp ht
    by_cases c' : b' ≤ a'
    · exact (semF_Mon hp' hq' hz' c' h3 t).mpr fun y h5 h6 => h y (g y (by omega) (by omega))
    · cases hc : semF (fM a' b' z') t
      · have g' := (semF_Moff hp' hq' hz' (by omega) h4 t).mp hc
        have y1 := g (max (t - a) (t - b')) (by omega) (by omega)
        have y2 := g' (max (t - a) (t - b')) (by omega) (by omega)
        rw [h _ y1] at y2; nomatch y2
      · rfl
  · cases hc : semF (fM a' b' z') t
    · have g' := (semF_Moff hp' hq' hz' (by omega) h4 t).mp hc
      have : semF (fM a b z) t = false := (semF_Moff hp hq hz (by omega) h2 t).mpr fun y h5 h6 => by
        cases hy : semF z y
        · rfl
        · have := h y hy
          rw [g' y (by omega) (by omega)] at this; nomatch this
      rw [ht] at this; nomatch this
    · rfl
/-- the forms' own order -/
def CoreW (s t : W) : Prop := t.l0 ≤ s.l0 ∧ s.l1 ≤ t.l1 ∧ Low s.st t.st
def WithinW (s t : W) : Prop := s.t = t.t ∧ if s.t then CoreW t s else CoreW s t
theorem low_sameW {s t : W} (vs : Vl s.st) (vt : Vl t.st) : (WithinW s t ∧ WithinW t s) ↔ (s.t = t.t ∧ s.l0 = t.l0 ∧ s.l1 = t.l1 ∧ s.st = t.st) := by
  constructor
  · rintro ⟨⟨h1, h2⟩, ⟨k1, k2⟩⟩
    rw [← h1] at k2
    have cc : CoreW s t ∧ CoreW t s := by
      cases ht : s.t <;> rw [ht] at h2 k2 <;> simp at h2 k2
      · exact ⟨h2, k2⟩
      · exact ⟨k2, h2⟩
    obtain ⟨⟨a1, a2, a3⟩, ⟨b1, b2, b3⟩⟩ := cc
    exact ⟨h1, by omega, by omega, ladder_uniq vs vt (low_both a3 b3)⟩
  · rintro ⟨h1, h2, h3, h4⟩
    have l1 : Low s.st t.st := by rw [h4]; exact low_refl _
    have l2 : Low t.st s.st := by rw [h4]; exact low_refl _
    have c1 : CoreW s t := ⟨by omega, by omega, l1⟩
    have c2 : CoreW t s := ⟨by omega, by omega, l2⟩
    exact ⟨⟨h1, by split <;> assumption⟩, ⟨h1.symm, by split <;> assumption⟩⟩
theorem bare_le {s t : W} {x : Fl} (hx : Wd 0 0 x) (cs : CI s x) (ct : CI t x) (ns : Nn s.st) (vt : Vl t.st) (h : CoreW s t) : leF (fbare s x) (fbare t x) := by
  have h1 := low_le vt ns h.2.2 hx
  have a1 := cs.at_
  have a2 := ct.at_
  have b1 := cs.inv.h
  have b2 := cs.inv.l
  have b3 := ct.inv.h
  have b4 := ct.inv.l
  unfold fbare
  exact fM_le cs.hi (by have := cs.lo; omega) ct.hi (by have := ct.lo; omega) cs.wd ct.wd (by omega) (by omega) (by omega) (by omega) h.1 h.2.1 h1
theorem meant_le {s t : W} {x : Fl} (hx : Wd 0 0 x) (cs : CI s x) (ct : CI t x) (vs : Vl s.st) (vt : Vl t.st) (h : WithinW s t) : leF (fmeant s x) (fmeant t x) := by
  obtain ⟨h1, h2⟩ := h
  unfold fmeant
  rw [← h1]
  cases ht : s.t
  · rw [ht] at h2; exact bare_le hx cs ct (vl_nn vs) vt h2
  · rw [ht] at h2; exact leF_T (bare_le hx ct cs (vl_nn vt) vs h2)
end Law
end
section
set_option autoImplicit false
/-! Forms for promises: what they mean. -/
namespace Law
open PySem PL
theorem Wb_CI {p q : Int} (hp : 0 ≤ p) (hq : 0 ≤ q) {x : Fl} (h : Wd p q x) : CI (Wb p q) x := ⟨rfl, Wb_inv hp hq, hp, by show -q ≤ 0; omega, by show Wd p (- -q) x; rw [Int.neg_neg]; exact h, fun _ _ hb => nomatch hb⟩
theorem meaningB {p q : Int} (hp : 0 ≤ p) (hq : 0 ≤ q) {row : List Part} (hr : ∀ p ∈ row, 0 ≤ p.num) {x : Fl} (hx : Wd p q x) : CI (wksB p q row) x ∧ fmeant (wksB p q row) x = fans row x := by
  revert hr
  refine rev_ind (P := fun row => (∀ p ∈ row, 0 ≤ p.num) → CI (wksB p q row) x ∧ fmeant (wksB p q row) x = fans row x) ?_ ?_ row
  · intro _
    exact ⟨Wb_CI hp hq hx, by show fM 0 0 x = x; exact fM_zero x⟩
  · intro l y ih h
    obtain ⟨a, b⟩ := ih fun q hq => h q (List.mem_append_left _ hq)
    rw [wksB_snoc]
    obtain ⟨c, d⟩ := wk_step a (h y (by simp))
    exact ⟨c, by rw [d, b]; unfold fans; rw [List.foldl_append]; rfl⟩
end Law
end
section
set_option autoImplicit false
/-! Promises: what is not so is shown by one of the trials. Plain. -/
namespace Law
open PySem PL
def Part.tkN : Part → Int
  | .on k => k
  | .off k => k
  | _ => 0
def tkS (row : List Part) : Int := (row.map Part.tkN).sum
theorem tkS_snoc (l : List Part) (x : Part) : tkS (l ++ [x]) = tkS l + x.tkN := by simp [tkS]
theorem at_tk {p q : Int} (hp : 0 ≤ p) (hq : 0 ≤ q) {row : List Part} : (∀ x ∈ row, 0 ≤ x.num) → 0 ≤ tkS row ∧ (wksB p q row).at_ ≤ tkS row ∧ -(wksB p q row).at_ ≤ tkS row ∧ (wksB p q row).hi ≤ max p (tkS row) ∧ -(wksB p q row).lo ≤ max q (tkS row) := by
  refine rev_ind (P := fun row => (∀ x ∈ row, 0 ≤ x.num) → 0 ≤ tkS row ∧ (wksB p q row).at_ ≤ tkS row ∧ -(wksB p q row).at_ ≤ tkS row ∧ (wksB p q row).hi ≤ max p (tkS row) ∧ -(wksB p q row).lo ≤ max q (tkS row)) ?_ ?_ row
  · intro _
    show 0 ≤ (0 : Int) ∧ (0 : Int) ≤ 0 ∧ -(0 : Int) ≤ 0 ∧ p ≤ max p 0 ∧ - -q ≤ max q 0
    omega
  · intro l x ih h
    obtain ⟨i0, i1, i2, i3, i4⟩ := ih fun y hy => h y (List.mem_append_left _ hy)
    have hn := h x (by simp)
    have inv := wksB_inv hp hq l
    rw [wksB_snoc, tkS_snoc]
    generalize wksB p q l = s at *
    generalize tkS l = T at *
    have U : ∀ k, 0 ≤ k → 0 ≤ T + k ∧ (s.U k).at_ ≤ T + k ∧ -(s.U k).at_ ≤ T + k ∧ (s.U k).hi ≤ max p (T + k) ∧ -(s.U k).lo ≤ max q (T + k) := fun k hk => by
      unfold W.U; split <;> simp only <;> omega
    have D : ∀ k, 0 ≤ k → 0 ≤ T + k ∧ (s.D k).at_ ≤ T + k ∧ -(s.D k).at_ ≤ T + k ∧ (s.D k).hi ≤ max p (T + k) ∧ -(s.D k).lo ≤ max q (T + k) := fun k hk => by
      unfold W.D; split <;> simp only <;> omega
    cases x with
    | turn => rw [wk_turn inv]; simp only [Part.tkN]; omega
    | delay k => rw [wk_delay inv]; simp only [Part.tkN]; omega
    | on k =>
      rw [wk_on inv (k := k) hn]
      simp only [Part.tkN]
      split
      · exact D k hn
      · exact U k hn
    | off k =>
      rw [wk_off inv (k := k) hn]
      simp only [Part.tkN]
      split
      · exact U k hn
      · exact D k hn
theorem trnA_succ (p q : Int) : ∀ (n : Nat) (a : Int), trnA p q (n + 1) a = trnA p q n a ++ [a + n * (p + q), a + n * (p + q) + p]
  | 0, a => by simp [trnA]
  | n + 1, a => by
    have ih := trnA_succ p q n (a + p + q)
    rw [trnA, ih, trnA, List.cons_append, List.cons_append]
    have e : a + p + q + (n : Int) * (p + q) = a + ((n + 1 : Nat) : Int) * (p + q) := by push_cast; rw [Int.add_mul]; omega
    rw [e]
theorem trnA_trn (p q : Int) : ∀ n, trnA p q n 0 = trn p q n
  | 0 => rfl
  | n + 1 => by rw [trnA_succ, trn, trnA_trn p q n]; simp
theorem flat_fans {p q : Int} (hp : 0 ≤ p) (hq : 0 ≤ q) {row : List Part} (hr : ∀ x ∈ row, 0 ≤ x.num) (c : Bool) : fans row (c, []) = (c != (wksB p q row).t, []) := by
  rw [← (meaningB hp hq hr (x := (c, [])) (by cases c <;> exact trivial)).2]
  unfold fmeant fbare
  have e : fcl (wksB p q row).st (c, []) = (c, []) := by cases c; exact fcl_off _; exact fcl_on _
  rw [e]
  cases (wksB p q row).t <;> cases c <;> rfl
theorem core_trial {ons offs most : Int} (h1 : 1 ≤ ons) (h2 : 1 ≤ offs) {a b : List Part} (ha : ∀ x ∈ a, 0 ≤ x.num) (hb : ∀ x ∈ b, 0 ≤ x.num) (sa : tkS a ≤ most) (sb : tkS b ≤ most) (h : ¬ CoreW (wksB (ons - 1) (offs - 1) a) (wksB (ons - 1) (offs - 1) b)) :
    ∃ x ∈ trials ons offs most, ∃ t, ShowsW (wksB (ons - 1) (offs - 1) a) (wksB (ons - 1) (offs - 1) b) x t := by
  have p0 : 0 ≤ ons - 1 := by omega
  have q0 : 0 ≤ offs - 1 := by omega
  have fa := pf_row p0 q0 ha
  have fb := pf_row p0 q0 hb
  obtain ⟨_, _, _, a3, a4⟩ := at_tk p0 q0 ha
  obtain ⟨_, _, _, b3, b4⟩ := at_tk p0 q0 hb
  generalize wksB (ons - 1) (offs - 1) a = s at *
  generalize wksB (ons - 1) (offs - 1) b = t at *
  have mem1 : ∀ x, x ∈ ([(false, []), (true, []), (false, [0]), (true, [0])] : List Fl) → x ∈ trials ons offs most := fun x hx => List.mem_append_left _ (List.mem_append_left _ hx)
  have mem2 : ∀ off, offs ≤ off → off ≤ most + 1 → (true, [0, off]) ∈ trials ons offs most := fun off u v => List.mem_append_left _ (List.mem_append_right _ (List.mem_map.mpr ⟨off, mem_rangeI.mpr ⟨u, by omega⟩, rfl⟩))
  have mem3 : ∀ on, ons ≤ on → on ≤ most + 1 → (false, [0, on]) ∈ trials ons offs most := fun on u v => List.mem_append_right _ (List.mem_flatMap.mpr ⟨on, mem_rangeI.mpr ⟨u, by omega⟩, List.mem_cons_self⟩)
  have mem4 : ∀ on off, ons ≤ on → on ≤ most + 1 → offs ≤ off → off ≤ most + 1 → (false, trn on off (trnN on off most)) ∈ trials ons offs most := fun on off u v u' v' => List.mem_append_right _ (List.mem_flatMap.mpr ⟨on, mem_rangeI.mpr ⟨u, by omega⟩, List.mem_cons_of_mem _ (List.mem_map.mpr ⟨off, mem_rangeI.mpr ⟨u', by omega⟩, rfl⟩)⟩)
  have hsl := fa.lo
  have htl := fb.lo
  have hsh := fa.hi
  have hth := fb.hi
  by_cases c1 : s.l0 < t.l0
  · exact ⟨_, mem1 (false, [0]) (by simp), _, witB_l0 0 c1⟩
  by_cases c2 : t.l1 < s.l1
  · exact ⟨_, mem1 (true, [0]) (by simp), _, witB_l1 0 c2⟩
  by_cases c3 : -t.lo < -s.lo
  · have := witB_de fa fb 0 c3
    have e : (0 : Int) + -t.lo + 1 = -t.lo + 1 := by omega
    rw [e] at this
    exact ⟨_, mem2 (-t.lo + 1) (by omega) (by omega), _, this⟩
  by_cases c4 : s.hi < t.hi
  · have := witB_hi fa fb 0 c4
    have e : (0 : Int) + s.hi + 1 = s.hi + 1 := by omega
    rw [e] at this
    exact ⟨_, mem3 (s.hi + 1) (by omega) (by omega), _, this⟩
  have c5 : ¬ Low s.st t.st := fun hl => h ⟨by omega, by omega, hl⟩
  obtain ⟨k, l, hk, hl, k1, k2⟩ := violB fa fb c5 (by omega) (by omega)
  have hkh : k < s.hi := by
    refine Int.not_le.mp fun c => k2 fun z hz hzb => ?_
    have : under t.st true k := (fb.under_hi hk).mpr (by omega)
    exact this z (ahd_sub _ _ _ z hz) hzb
  have hld : l < -s.lo := by
    refine Int.not_le.mp fun c => k1 fun z hz hzb => ?_
    have : under s.st false l := (fa.under_de hl).mpr (by omega)
    exact this z (ahd_sub _ _ _ z hz) hzb
  have hN := trnN_stop (on := k + 1) (off := l + 1) (most := most) (by omega) (by omega) (trnN (k + 1) (l + 1) most) (by unfold trnN; omega)
  have hN2 : 2 ≤ trnN (k + 1) (l + 1) most := by unfold trnN; omega
  refine ⟨_, mem4 (k + 1) (l + 1) (by omega) (by omega) (by omega) (by omega), 0 + s.l0, ?_⟩
  generalize trnN (k + 1) (l + 1) most = N at *
  obtain ⟨n, rfl⟩ : ∃ n, N = n + 1 := ⟨N - 1, by omega⟩
  rw [← trnA_trn]
  refine witB_train fa 0 hk hl k1 k2 n ?_
  have h3 : ¬ (((n + 1 : Nat) : Int) * (k + 1 + (l + 1)) - (l + 1) ≤ most) := fun h => by have := hN.mpr h; omega
  have e : tlen (k + 1) (l + 1) n = ((n + 1 : Nat) : Int) * (k + 1 + (l + 1)) - (l + 1) := by
    unfold tlen; push_cast; rw [Int.add_mul]; omega
  omega
theorem trial_shows {ons offs most : Int} (h1 : 1 ≤ ons) (h2 : 1 ≤ offs) (h3 : 0 ≤ most) {a b : List Part} (ha : ∀ x ∈ a, 0 ≤ x.num) (hb : ∀ x ∈ b, 0 ≤ x.num) (sa : tkS a ≤ most) (sb : tkS b ≤ most) (h : ¬ WithinW (wksB (ons - 1) (offs - 1) a) (wksB (ons - 1) (offs - 1) b)) :
    ∃ x ∈ trials ons offs most, ∃ t, semF (fans a x) t = true ∧ semF (fans b x) t = false := by
  have p0 : 0 ≤ ons - 1 := by omega
  have q0 : 0 ≤ offs - 1 := by omega
  by_cases ht : (wksB (ons - 1) (offs - 1) a).t = (wksB (ons - 1) (offs - 1) b).t
  · have hc : ¬ (if (wksB (ons - 1) (offs - 1) a).t then CoreW (wksB (ons - 1) (offs - 1) b) (wksB (ons - 1) (offs - 1) a) else CoreW (wksB (ons - 1) (offs - 1) a) (wksB (ons - 1) (offs - 1) b)) := fun hc => h ⟨ht, hc⟩
    cases hta : (wksB (ons - 1) (offs - 1) a).t
    · rw [hta] at hc ht
      obtain ⟨x, hx, t, h5, h6⟩ := core_trial h1 h2 ha hb sa sb hc
      have hw := (trials_ok h1 h2 h3 hx).1
      refine ⟨x, hx, t, ?_, ?_⟩
      · rw [← (meaningB p0 q0 ha hw).2]; unfold fmeant; rw [hta]; exact h5
      · rw [← (meaningB p0 q0 hb hw).2]; unfold fmeant; rw [← ht]; exact h6
    · rw [hta] at hc ht
      obtain ⟨x, hx, t, h5, h6⟩ := core_trial h1 h2 hb ha sb sa hc
      have hw := (trials_ok h1 h2 h3 hx).1
      refine ⟨x, hx, t, ?_, ?_⟩
      · rw [← (meaningB p0 q0 ha hw).2]; unfold fmeant; rw [hta, if_pos rfl, semF_T, h6]; rfl
      · rw [← (meaningB p0 q0 hb hw).2]; unfold fmeant; rw [← ht, if_pos rfl, semF_T, h5]; rfl
  · have mem1 : ∀ x, x ∈ ([(false, []), (true, []), (false, [0]), (true, [0])] : List Fl) → x ∈ trials ons offs most := fun x hx => List.mem_append_left _ (List.mem_append_left _ hx)
    cases hta : (wksB (ons - 1) (offs - 1) a).t
    · have htb : (wksB (ons - 1) (offs - 1) b).t = true := by cases hh : (wksB (ons - 1) (offs - 1) b).t <;> simp_all
      exact ⟨(true, []), mem1 _ (by simp), 0, by rw [flat_fans p0 q0 ha, hta]; rfl, by rw [flat_fans p0 q0 hb, htb]; rfl⟩
    · have htb : (wksB (ons - 1) (offs - 1) b).t = false := by cases hh : (wksB (ons - 1) (offs - 1) b).t <;> simp_all
      exact ⟨(false, []), mem1 _ (by simp), 0, by rw [flat_fans p0 q0 ha, hta]; rfl, by rw [flat_fans p0 q0 hb, htb]; rfl⟩
theorem fans_leB {p q : Int} (hp : 0 ≤ p) (hq : 0 ≤ q) {a b : List Part} (ha : ∀ x ∈ a, 0 ≤ x.num) (hb : ∀ x ∈ b, 0 ≤ x.num) (h : WithinW (wksB p q a) (wksB p q b)) {x : Fl} (hx : Wd p q x) : leF (fans a x) (fans b x) := by
  rw [← (meaningB hp hq ha hx).2, ← (meaningB hp hq hb hx).2]
  exact meant_le (Wd_mono hx hp hq) (meaningB hp hq ha hx).1 (meaningB hp hq hb hx).1 (pf_row hp hq ha).vl (pf_row hp hq hb).vl h
/-- within, by all trials -/
theorem within_trials {ons offs most : Int} (h1 : 1 ≤ ons) (h2 : 1 ≤ offs) (h3 : 0 ≤ most) {a b : List Part} (ha : ∀ x ∈ a, 0 ≤ x.num) (hb : ∀ x ∈ b, 0 ≤ x.num) (sa : tkS a ≤ most) (sb : tkS b ≤ most) : (∀ x ∈ trials ons offs most, leF (fans a x) (fans b x)) ↔ WithinW (wksB (ons - 1) (offs - 1) a) (wksB (ons - 1) (offs - 1) b) := by
  constructor
  · intro h
    refine Classical.byContradiction fun hn => ?_
    obtain ⟨x, hx, t, u, v⟩ := trial_shows h1 h2 h3 ha hb sa sb hn
    have := h x hx t u
    rw [v] at this; nomatch this
  · intro h x hx
    exact fans_leB (by omega) (by omega) ha hb h (trials_ok h1 h2 h3 hx).1
def sameF (s t : W) : Prop := s.t = t.t ∧ s.l0 = t.l0 ∧ s.l1 = t.l1 ∧ s.st = t.st
/-- alike, by all trials -/
theorem alike_trials {ons offs most : Int} (h1 : 1 ≤ ons) (h2 : 1 ≤ offs) (h3 : 0 ≤ most) {a b : List Part} (ha : ∀ x ∈ a, 0 ≤ x.num) (hb : ∀ x ∈ b, 0 ≤ x.num) (sa : tkS a ≤ most) (sb : tkS b ≤ most) : (∀ x ∈ trials ons offs most, fans a x = fans b x) ↔ sameF (wksB (ons - 1) (offs - 1) a) (wksB (ons - 1) (offs - 1) b) := by
  have p0 : 0 ≤ ons - 1 := by omega
  have q0 : 0 ≤ offs - 1 := by omega
  have hs := low_sameW (pf_row p0 q0 ha).vl (pf_row p0 q0 hb).vl
  constructor
  · intro h
    refine hs.mp ⟨(within_trials h1 h2 h3 ha hb sa sb).mp fun x hx => ?_, (within_trials h1 h2 h3 hb ha sb sa).mp fun x hx => ?_⟩
    · rw [h x hx]; exact leF_refl _
    · rw [h x hx]; exact leF_refl _
  · rintro ⟨e1, e2, e3, e4⟩ x hx
    have hw := (trials_ok h1 h2 h3 hx).1
    rw [← (meaningB p0 q0 ha hw).2, ← (meaningB p0 q0 hb hw).2]
    unfold fmeant fbare
    rw [e1, e2, e3, e4]
theorem fans_sameB {p q : Int} (hp : 0 ≤ p) (hq : 0 ≤ q) {a b : List Part} (ha : ∀ x ∈ a, 0 ≤ x.num) (hb : ∀ x ∈ b, 0 ≤ x.num) (h : sameF (wksB p q a) (wksB p q b)) {x : Fl} (hx : Wd p q x) : fans a x = fans b x := by
  obtain ⟨e1, e2, e3, e4⟩ := h
  rw [← (meaningB hp hq ha hx).2, ← (meaningB hp hq hb hx).2]
  unfold fmeant fbare
  rw [e1, e2, e3, e4]
/-! rows so many times as great -/
def W.scale (k : Int) (s : W) : W := ⟨s.at_ * k, s.hi * k, s.lo * k, s.l0 * k, s.l1 * k, s.t, s.st.map fun x => (x.1, x.2 * k)⟩
theorem ws_scale (k : Int) (f : List Sg) (b : Bool) (n : Int) : (ws f b n).map (fun x => ((x.1, x.2 * k) : Sg)) = ws (f.map fun x => (x.1, x.2 * k)) b (n * k) := by
  unfold ws
  rw [List.map_append, List.getLast?_map]
  cases h : f.getLast? with
  | none => simp
  | some z =>
    by_cases c : z.1 = b
    · simp [c, List.map_dropLast]
    · simp [c]
theorem mul_lt_iff {k : Int} (hk : 0 < k) (a b : Int) : a * k < b * k ↔ a < b := ⟨fun h => Int.lt_of_mul_lt_mul_right h (by omega), fun h => Int.mul_lt_mul_of_pos_right h hk⟩
theorem U_scale {k : Int} (hk : 0 < k) (s : W) (j : Int) : (s.scale k).U (j * k) = (s.U j).scale k := by
  unfold W.U W.scale
  simp only
  have e : s.at_ * k + j * k = (s.at_ + j) * k := (Int.add_mul _ _ _).symm
  have e2 : s.l0 * k + j * k = (s.l0 + j) * k := (Int.add_mul _ _ _).symm
  rw [e, e2]
  by_cases c : s.at_ + j > s.hi
  · rw [if_pos c, if_pos ((mul_lt_iff hk _ _).mpr c)]
    simp only [ws_scale]
  · rw [if_neg c, if_neg fun h => c ((mul_lt_iff hk _ _).mp h)]
theorem D_scale {k : Int} (hk : 0 < k) (s : W) (j : Int) : (s.scale k).D (j * k) = (s.D j).scale k := by
  unfold W.D W.scale
  simp only
  have e : s.at_ * k - j * k = (s.at_ - j) * k := (Int.sub_mul _ _ _).symm
  have e2 : s.l1 * k + j * k = (s.l1 + j) * k := (Int.add_mul _ _ _).symm
  rw [e, e2]
  by_cases c : s.at_ - j < s.lo
  · rw [if_pos c, if_pos ((mul_lt_iff hk _ _).mpr c)]
    simp only [ws_scale, Int.neg_mul]
  · rw [if_neg c, if_neg fun h => c ((mul_lt_iff hk _ _).mp h)]
theorem wksB_scale {k : Int} (hk : 0 < k) {p q : Int} (hp : 0 ≤ p) (hq : 0 ≤ q) {row : List Part} : (∀ x ∈ row, 0 ≤ x.num) → wksB (p * k) (q * k) (row.map (Part.scale k)) = (wksB p q row).scale k := by
  have pk : 0 ≤ p * k := Int.mul_nonneg hp (by omega)
  have qk : 0 ≤ q * k := Int.mul_nonneg hq (by omega)
  refine rev_ind (P := fun row => (∀ x ∈ row, 0 ≤ x.num) → wksB (p * k) (q * k) (row.map (Part.scale k)) = (wksB p q row).scale k) ?_ ?_ row
  · intro _
    show Wb (p * k) (q * k) = (Wb p q).scale k
    unfold Wb W.scale
    simp [Int.neg_mul]
  · intro l x ih h
    have i := ih fun y hy => h y (List.mem_append_left _ hy)
    have hn := h x (by simp)
    have inv := wksB_inv hp hq l
    have inv2 := wksB_inv pk qk (l.map (Part.scale k))
    rw [List.map_append, List.map_cons, List.map_nil, wksB_snoc, wksB_snoc]
    rw [i] at inv2 ⊢
    generalize wksB p q l = s at *
    have et : (s.scale k).t = s.t := rfl
    cases x with
    | turn => show wk (s.scale k) .turn = _; rw [wk_turn inv, wk_turn inv2]; rfl
    | delay j =>
      show wk (s.scale k) (.delay (j * k)) = _
      rw [wk_delay inv, wk_delay inv2]
      simp only [W.scale, Int.add_mul]
    | on j =>
      have hj : 0 ≤ j := hn
      show wk (s.scale k) (.on (j * k)) = _
      rw [wk_on inv hj, wk_on inv2 (Int.mul_nonneg hj (by omega)), et]
      split
      · exact D_scale hk s j
      · exact U_scale hk s j
    | off j =>
      have hj : 0 ≤ j := hn
      show wk (s.scale k) (.off (j * k)) = _
      rw [wk_off inv hj, wk_off inv2 (Int.mul_nonneg hj (by omega)), et]
      split
      · exact U_scale hk s j
      · exact D_scale hk s j
theorem same_scale {k : Int} (hk : 0 < k) (s t : W) : sameF (s.scale k) (t.scale k) ↔ sameF s t := by
  unfold sameF W.scale
  simp only
  have inj : ∀ a b : Int, a * k = b * k ↔ a = b := fun a b => ⟨fun h => Int.eq_of_mul_eq_mul_right (by omega) h, fun h => by rw [h]⟩
  rw [inj, inj]
  constructor
  · rintro ⟨h1, h2, h3, h4⟩
    refine ⟨h1, h2, h3, ?_⟩
    exact (List.map_inj_right fun x y h => by
      have h5 := congrArg Prod.fst h
      have h6 := congrArg Prod.snd h
      simp only at h5 h6
      exact Prod.ext h5 ((inj _ _).mp h6)).mp h4
  · rintro ⟨h1, h2, h3, h4⟩
    exact ⟨h1, h2, h3, by rw [h4]⟩
end Law
end
section
set_option autoImplicit false
/-! Answers to all trials, run: what the laws k33, k34 share. -/
namespace Law
open PySem PL
theorem eL_inj : ∀ l l' : List Int, eL l = eL l' → l = l'
  | [], [], _ => rfl
  | [], [_], h => by simp [eL] at h
  | [], _ :: _ :: _, h => by simp [eL] at h
  | [_], [], h => by simp [eL] at h
  | _ :: _ :: _, [], h => by simp [eL] at h
  | [a], [b], h => by simp [eL] at h; simp [h]
  | [a], b :: c :: l, h => by simp [eL] at h
  | a :: b :: l, [c], h => by simp [eL] at h
  | a :: b :: l, c :: d :: l', h => by
    simp [eL] at h
    obtain ⟨⟨h1, h2⟩, h3⟩ := h
    rw [h1, h2, eL_inj l l' h3]
theorem eL_some : ∀ l r L, eL l = r :: L → r.1.isSome = true
  | [], _, _, h => by simp [eL] at h
  | [a], r, L, h => by simp [eL] at h; rw [← h.1]; rfl
  | a :: b :: l, r, L, h => by simp [eL] at h; rw [← h.1]; rfl
theorem eF_inj {x y : Fl} (h : eF x = eF y) : x = y := by
  rcases x with ⟨b, l⟩
  rcases y with ⟨c, k⟩
  unfold eF at h
  cases b <;> cases c <;> simp at h
  · rw [eL_inj _ _ h]
  · exfalso
    cases k with
    | nil => have := eL_some _ _ _ h; simp at this
    | cons a k => have := eL_some _ _ _ h; simp at this
  · exfalso
    cases l with
    | nil => have := eL_some _ _ _ h.symm; simp at this
    | cons a k => have := eL_some _ _ _ h.symm; simp at this
  · cases l <;> cases k <;> simp [eT] at h
    · rfl
    · rename_i a l b k
      obtain ⟨h1, h2⟩ := h
      rw [h1, eL_inj _ _ h2]
theorem tks_tkS : ∀ row : List Part, tks row = tkS row
  | [] => rfl
  | p :: row => by
    have ih := tks_tkS row
    unfold tks tkS at *
    cases p <;> simp [Part.tk, Part.tkN, List.filterMap_cons, ih]
theorem tkS_le {n : Nat} {B : Int} (hB : 0 ≤ B) : ∀ {row : List Part}, row.length ≤ n → (∀ x ∈ row, x.ok B) → 0 ≤ tkS row ∧ tkS row ≤ n * B := by
  have key : ∀ row : List Part, (∀ x ∈ row, x.ok B) → 0 ≤ tkS row ∧ tkS row ≤ row.length * B := by
    intro row
    induction row with
    | nil => intro _; simp [tkS]
    | cons p row ih =>
      intro h
      obtain ⟨i1, i2⟩ := ih fun x hx => h x (by simp [hx])
      have hp := h p (by simp)
      have h1 := hp.1
      have h2 := hp.2
      have e : tkS (p :: row) = p.tkN + tkS row := by simp [tkS]
      have hk : 0 ≤ p.tkN ∧ p.tkN ≤ B := by
        cases p <;> simp only [Part.tkN, Part.num] at * <;> omega
      have e2 : ((p :: row).length : Int) * B = row.length * B + B := by simp [Int.add_mul]
      rw [e, e2]; omega
  intro row hl h
  obtain ⟨a, b⟩ := key row h
  exact ⟨a, Int.le_trans b (Int.mul_le_mul_of_nonneg_right (by omega) hB)⟩
/-- rows of few ticks, and the signals that try them -/
structure Tr1 (row : List Part) : Prop where
  len : row.length ≤ 12
  ok : ∀ x ∈ row, x.ok 8
theorem Tr1.pos {row : List Part} (h : Tr1 row) : ∀ x ∈ row, 0 ≤ x.num := fun x hx => (h.ok x hx).1
theorem Tr1.fit {row : List Part} (h : Tr1 row) : Fit row := ⟨h.pos, ⟨8, by decide, fun x hx => h.ok x hx⟩, by have := h.len; omega⟩
theorem Tr1.tk {row : List Part} (h : Tr1 row) : 0 ≤ tkS row ∧ tkS row ≤ 96 := by have := tkS_le (n := 12) (by decide) h.len h.ok; omega
theorem Tr1.rx {row : List Part} (h : Tr1 row) {M : Int} (hM : 0 ≤ M ∧ M ≤ 10 ^ 90) {x : Fl} (hx : FOk M x) : RX0 M 8 row x := ⟨hM.1, hx, fun p hp => h.ok p hp, by have := h.len; omega, by
  have : (10 : Int) ^ 90 + 1000 * ((8 : Nat) : Int) ≤ 10 ^ 100 := by decide
  omega⟩
theorem Tr1.out {row : List Part} (h : Tr1 row) {M : Int} (hM : 0 ≤ M ∧ M ≤ 10 ^ 90) {x : Fl} (hx : FOk M x) : FOk (M + 300 * (8 : Nat)) (fans row x) := by
  have := (h.rx hM hx).take row.length
  rwa [List.take_length] at this
/-- one signal led through a row -/
theorem led1 {row : List Part} (h : Tr1 row) {M : Int} (hM : 0 ≤ M ∧ M ≤ 10 ^ 90) {x : Fl} (hx : FOk M x) (hl : x.2.length ≤ 1000) (a : Nat) (μ : Mem) (ha : μ[a]? = some (.lst ((eF x).map ER.pv))) : (m__law_led [pvs row, .ref a] μ).sat (AtK μ a ((eF (fans row x)).map ER.pv)) := lled_ev (h.rx hM hx) (by omega) a μ ha
theorem flatMap_le {α β : Type} {f : α → List β} {n : Nat} : ∀ l : List α, (∀ x ∈ l, (f x).length ≤ n) → (l.flatMap f).length ≤ l.length * n
  | [], _ => by simp
  | x :: l, h => by
    have ih := flatMap_le l fun y hy => h y (by simp [hy])
    have hx := h x (by simp)
    rw [List.flatMap_cons, List.length_append, List.length_cons, Nat.add_mul]
    omega
theorem trials_many (ons offs most : Int) (hm : most ≤ 100) (h1 : 1 ≤ ons) (h2 : 1 ≤ offs) : (trials ons offs most).length ≤ 106 + 102 * 103 := by
  unfold trials
  have l1 : (rangeI offs (most + 2)).length ≤ 102 := by rw [rangeI_len]; omega
  have l2 : (rangeI ons (most + 2)).length ≤ 102 := by rw [rangeI_len]; omega
  rw [List.length_append, List.length_append, List.length_map]
  have h3 := flatMap_le (n := 103) (f := fun on => ((false, [0, on]) :: (rangeI offs (most + 2)).map (fun off => ((false, trn on off (trnN on off most)) : Fl)) : List Fl)) (rangeI ons (most + 2)) (fun x _ => by simp only [List.length_cons, List.length_map]; omega)
  have h4 : (rangeI ons (most + 2)).length * 103 ≤ 102 * 103 := Nat.mul_le_mul_right _ l2
  simp only [List.length_cons, List.length_nil]
  omega
theorem trial_fok {ons offs most : Int} (h1 : 1 ≤ ons) (h2 : 1 ≤ offs) (h3 : 0 ≤ most) (h4 : most ≤ 100) {x : Fl} (hx : x ∈ trials ons offs most) : FOk 1000 x ∧ x.2.length ≤ 1000 := by
  obtain ⟨a, b, c⟩ := trials_ok h1 h2 h3 hx
  exact ⟨⟨Wd_mono a (by omega) (by omega), fun v hv => by have := b v hv; omega⟩, by omega⟩
theorem big90 {M : Int} (hM : 0 ≤ M ∧ M ≤ 10 ^ 90) : Big (M + 300 * (8 : Nat)) := ⟨by omega, by
  have : (10 : Int) ^ 90 + 300 * ((8 : Nat) : Int) ≤ 10 ^ 100 := by decide
  omega⟩
end Law
end
section
set_option autoImplicit false
/-! Stretches within stretches. Plain. -/
namespace Law
open PySem PL
def onE (r : ER) (t : Int) : Bool := (match r.1 with | none => true | some a => decide (a ≤ t)) && (match r.2 with | none => true | some b => decide (t < b))
def fitE (r s : ER) : Bool := (match s.1 with | none => true | some a => match r.1 with | none => false | some lo => decide (a ≤ lo)) && (match s.2 with | none => true | some b => match r.2 with | none => false | some hi => decide (hi ≤ b))
def isIn (L K : List ER) : Bool := L.all fun r => K.any fun s => fitE r s
theorem alt_after {l : List Int} {p : Int} : alt 0 0 l → (∀ a r, l = a :: r → p < a) → ∀ v ∈ l, p < v := by
  induction l generalizing p with
  | nil => intro _ _ v hv; nomatch hv
  | cons a l ih =>
    intro h hp v hv
    have ha := hp a l rfl
    rcases List.mem_cons.mp hv with rfl | hv
    · exact ha
    · refine ih (alt_tail h) (fun b r hb => ?_) v hv
      subst hb
      have := h.1
      omega
theorem eL_from : ∀ (l : List Int), ∀ r ∈ eL l, ∃ a ∈ l, r.1 = some a
  | [], r, hr => by simp [eL] at hr
  | [a], r, hr => by simp [eL] at hr; exact ⟨a, by simp, by rw [hr]⟩
  | a :: b :: l, r, hr => by
    simp [eL] at hr
    rcases hr with rfl | hr
    · exact ⟨a, by simp, rfl⟩
    · obtain ⟨c, hc, e⟩ := eL_from l r hr
      exact ⟨c, by simp [hc], e⟩
theorem eL_before {l : List Int} {t : Int} (h : ∀ v ∈ l, t < v) : (eL l).any (fun r => onE r t) = false := by
  rw [List.any_eq_false]
  intro r hr
  obtain ⟨a, ha, e⟩ := eL_from l r hr
  have := h a ha
  unfold onE
  rw [e]
  simp; omega
theorem sem_eL : ∀ (l : List Int) (t : Int), alt 0 0 l → sem false l t = (eL l).any fun r => onE r t
  | [], t, _ => rfl
  | [a], t, _ => by
    simp only [sem, eL, List.any_cons, List.any_nil, onE, Bool.or_false, Bool.and_true]
    by_cases c : t < a
    · rw [if_pos c]; simp; omega
    · rw [if_neg c]; simp; omega
  | a :: b :: l, t, h => by
    have hab := h.1
    have ih := sem_eL l t (alt_tail (alt_tail h))
    have hl : ∀ v ∈ l, b < v := alt_after (alt_tail (alt_tail h)) fun c r hc => by subst hc; have := (alt_tail h).1; omega
    simp only [sem, eL, List.any_cons]
    by_cases c : t < a
    · rw [if_pos c, eL_before fun v hv => by have := hl v hv; omega]
      simp [onE]; omega
    · rw [if_neg c]
      by_cases d : t < b
      · rw [if_pos d]
        have : onE (some a, some b) t = true := by simp [onE]; omega
        rw [this]; rfl
      · rw [if_neg d, Bool.not_false, Bool.not_true, ih]
        have : onE (some a, some b) t = false := by simp [onE]; omega
        rw [this]; simp
theorem sem_neg (l : List Int) (t : Int) : sem true l t = !sem false l t := sem_T false l t
theorem semF_eF {x : Fl} (h : Wd 0 0 x) (t : Int) : semF x t = (eF x).any fun r => onE r t := by
  rcases x with ⟨b, l⟩
  unfold semF eF
  cases b
  · exact sem_eL l t h
  · have h' : alt 0 0 l := h
    cases l with
    | nil => rfl
    | cons a l =>
      have hl : ∀ v ∈ l, a < v := alt_after (alt_tail h') fun c r hc => by subst hc; have := h'.1; omega
      show sem true (a :: l) t = List.any ((none, some a) :: eL l) _
      rw [List.any_cons]
      show (if t < a then true else sem false l t) = _
      by_cases c : t < a
      · rw [if_pos c]
        have : onE (none, some a) t = true := by simp [onE]; omega
        rw [this]; rfl
      · rw [if_neg c, sem_eL l t (alt_tail h')]
        have : onE (none, some a) t = false := by simp [onE]; omega
        rw [this]; rfl
theorem onE_fit {r s : ER} {t : Int} (h : fitE r s = true) (ho : onE r t = true) : onE s t = true := by
  rcases r with ⟨r1, r2⟩
  rcases s with ⟨s1, s2⟩
  unfold fitE at h
  unfold onE at ho ⊢
  cases r1 <;> cases r2 <;> cases s1 <;> cases s2 <;> simp at h ho ⊢ <;> omega
/-- an unbroken on lies in one stretch -/
theorem fit_eL : ∀ (l : List Int), alt 0 0 l → ∀ (lo : Int) (hi : Option Int), (∀ v, hi = some v → lo < v) → (∀ t, lo ≤ t → (∀ v, hi = some v → t < v) → sem false l t = true) → ∃ s ∈ eL l, fitE (some lo, hi) s = true
  | [], _, lo, hi, h1, h2 => by have := h2 lo (Int.le_refl _) h1; simp [sem] at this
  | [a], _, lo, hi, h1, h2 => by
    have := h2 lo (Int.le_refl _) h1
    simp only [sem] at this
    refine ⟨(some a, none), by simp [eL], ?_⟩
    by_cases c : lo < a
    · rw [if_pos c] at this; nomatch this
    · simp [fitE]; omega
  | a :: b :: l, h, lo, hi, h1, h2 => by
    have hab := h.1
    have hl : ∀ v ∈ l, b < v := alt_after (alt_tail (alt_tail h)) fun c r hc => by subst hc; have := (alt_tail h).1; omega
    have h3 := h2 lo (Int.le_refl _) h1
    simp only [sem] at h3
    by_cases c : lo < a
    · rw [if_pos c] at h3; nomatch h3
    · by_cases d : lo < b
      · have hb : sem false (a :: b :: l) b = false := by
          simp only [sem]
          rw [if_neg (by omega), if_neg (by omega), Bool.not_false, Bool.not_true]
          exact sem_before fun v r hv => by
            have := hl v (by rw [hv]; simp)
            omega
        refine ⟨(some a, some b), by simp [eL], ?_⟩
        have hhi : ∃ v, hi = some v ∧ v ≤ b := by
          refine Classical.byContradiction fun hn => ?_
          have := h2 b (by omega) fun v hv => Int.not_le.mp fun hle => hn ⟨v, hv, hle⟩
          rw [hb] at this; nomatch this
        obtain ⟨v, rfl, hv⟩ := hhi
        simp [fitE]; omega
      · obtain ⟨s, hs, hf⟩ := fit_eL l (alt_tail (alt_tail h)) lo hi h1 fun t ht hv => by
          have := h2 t ht hv
          simp only [sem] at this
          rw [if_neg (by omega), if_neg (by omega)] at this
          simpa using this
        exact ⟨s, by simp [eL, hs], hf⟩
theorem fit_eF {y : Fl} (hy : Wd 0 0 y) (r : ER) (hne : ∀ a b, r.1 = some a → r.2 = some b → a < b) (h : ∀ t, onE r t = true → semF y t = true) : ∃ s ∈ eF y, fitE r s = true := by
  rcases y with ⟨b, l⟩
  rcases r with ⟨lo, hi⟩
  have far : ∀ l : List Int, alt 0 0 l → ∃ T : Int, ∀ t, t ≤ T → ∀ c, sem c l t = c := by
    intro l hl
    cases l with
    | nil => exact ⟨0, fun t _ c => rfl⟩
    | cons a l => exact ⟨a - 1, fun t ht c => by simp only [sem]; rw [if_pos (by omega)]⟩
  cases b
  · have hl : alt 0 0 l := hy
    cases lo with
    | none =>
      exfalso
      obtain ⟨T, hT⟩ := far l hl
      have := h (match hi with | none => T | some v => min T (v - 1)) (by cases hi <;> simp [onE]; omega)
      unfold semF at this
      simp only at this
      rw [hT _ (by cases hi <;> simp; omega)] at this
      nomatch this
    | some lo =>
      exact fit_eL l hl lo hi (fun v hv => hne lo v rfl hv) fun t ht hv => h t (by
        unfold onE
        cases hi with
        | none => simp [ht]
        | some v => have := hv v rfl; simp; omega)
  · have hl : alt 0 0 l := hy
    cases l with
    | nil => exact ⟨(none, none), by simp [eF, eT], by simp [fitE]⟩
    | cons a l =>
      have hla : ∀ v ∈ l, a < v := alt_after (alt_tail hl) fun c r hc => by subst hc; have := hl.1; omega
      have ha : semF (true, a :: l) a = false := by
        show (if a < a then true else sem false l a) = false
        rw [if_neg (by omega)]
        exact sem_before fun v r hv => by
          have := hla v (by rw [hv]; simp)
          omega
      by_cases c : ∀ v, lo = some v → v < a
      · refine ⟨(none, some a), by simp [eF, eT], ?_⟩
        have hhi : ∃ v, hi = some v ∧ v ≤ a := by
          refine Classical.byContradiction fun hn => ?_
          have := h a (by
            unfold onE
            have c1 : ∀ v, hi = some v → a < v := fun v hv => Int.not_le.mp fun hle => hn ⟨v, hv, hle⟩
            cases lo with
            | none => cases hi with
              | none => rfl
              | some v => have := c1 v rfl; simp; omega
            | some w =>
              have := c w rfl
              cases hi with
              | none => simp; omega
              | some v => have := c1 v rfl; simp; omega)
          rw [ha] at this; nomatch this
        obtain ⟨v, rfl, hv⟩ := hhi
        simp [fitE, hv]
      · obtain ⟨w, rfl, hw⟩ : ∃ w, lo = some w ∧ a ≤ w := by
          refine Classical.byContradiction fun hn => c fun v hv => Int.not_le.mp fun hle => hn ⟨v, hv, hle⟩
        obtain ⟨s, hs, hf⟩ := fit_eL l (alt_tail hl) w hi (fun v hv => hne w v rfl hv) fun t ht hv => by
          have := h t (by
            unfold onE
            cases hi with
            | none => simp [ht]
            | some v => have := hv v rfl; simp; omega)
          have e : semF (true, a :: l) t = sem false l t := by
            show (if t < a then true else sem false l t) = _
            rw [if_neg (by omega)]
          rw [e] at this; exact this
        exact ⟨s, by simp [eF, eT, hs], hf⟩
theorem eL_lt : ∀ (l : List Int), alt 0 0 l → ∀ r ∈ eL l, ∀ a b, r.1 = some a → r.2 = some b → a < b
  | [], _, r, hr, _, _, _, _ => by simp [eL] at hr
  | [a], _, r, hr, x, y, h1, h2 => by simp [eL] at hr; rw [hr] at h2; nomatch h2
  | a :: b :: l, h, r, hr, x, y, h1, h2 => by
    simp [eL] at hr
    rcases hr with rfl | hr
    · simp at h1 h2; have := h.1; omega
    · exact eL_lt l (alt_tail (alt_tail h)) r hr x y h1 h2
theorem eF_lt {x : Fl} (h : Wd 0 0 x) : ∀ r ∈ eF x, ∀ a b, r.1 = some a → r.2 = some b → a < b := by
  rcases x with ⟨c, l⟩
  unfold eF
  cases c
  · exact eL_lt l h
  · have hl : alt 0 0 l := h
    cases l with
    | nil => intro r hr a b h1 _; simp [eT] at hr; rw [hr] at h1; nomatch h1
    | cons v l =>
      intro r hr a b h1 h2
      simp [eT] at hr
      rcases hr with rfl | hr
      · nomatch h1
      · exact eL_lt l (alt_tail hl) r hr a b h1 h2
theorem isIn_iff {x y : Fl} (hx : Wd 0 0 x) (hy : Wd 0 0 y) : isIn (eF x) (eF y) = true ↔ leF x y := by
  unfold isIn
  rw [List.all_eq_true]
  constructor
  · intro h t ht
    rw [semF_eF hx, List.any_eq_true] at ht
    obtain ⟨r, hr, ho⟩ := ht
    have := h r hr
    rw [List.any_eq_true] at this
    obtain ⟨s, hs, hf⟩ := this
    rw [semF_eF hy, List.any_eq_true]
    exact ⟨s, hs, onE_fit hf ho⟩
  · intro h r hr
    rw [List.any_eq_true]
    exact fit_eF hy r (eF_lt hx r hr) fun t ht => h t (by rw [semF_eF hx, List.any_eq_true]; exact ⟨r, hr, ht⟩)
end Law
end
section
set_option autoImplicit false
/-! _law_is_in, run. -/
namespace Law
open PySem PL
theorem is_in_ev {L K : List ER} {a b : Nat} {μ : Mem} (ha : μ[a]? = some (.lst (L.map ER.pv))) (hb : μ[b]? = some (.lst (K.map ER.pv))) : m__law_is_in [.ref a, .ref b] μ = .ok (.bl (isIn L K)) μ := by
  apply fn_sat_data rfl
  apply run_sat
  unfold b__law_is_in
  simp only [List.map_cons, List.map_nil, List.length_cons, List.length_nil, List.replicate, List.cons_append, List.nil_append, Nat.reduceAdd, Nat.reduceSub]
  simp only [seq_ev, forS_ev]
  have hit : iVal (v 0) [some (.ref a), some (.ref b), none, none, none, none, none] μ = .ok ⟨L.map ER.pv, [(a, L.map ER.pv)]⟩ μ := by
    simp [iVal, itsOf, getL, ha]
  rw [hit]
  simp only [Out.of_ok]
  refine for_sat ER.pv L (fun i e m => m = μ ∧ (isIn (L.take i) K = true) ∧ ∃ q2 q3 q4 q5 q6, e = [some (.ref a), some (.ref b), q2, q3, q4, q5, q6]) ?_ ⟨rfl, rfl, none, none, none, none, none, rfl⟩ ?_ ?_
  · rintro i e m ⟨rfl, _⟩
    exact locked_lst _ ha
  · rintro i r e m hr ⟨rfl, hall, q2, q3, q4, q5, q6, rfl⟩
    have htt : ∀ (env : PL.Env), tt 2 (tc (tn 2) (tc (tn 3) t0)) (ER.pv r) env m = .ok ((env.set 2 (some (opt r.1))).set 3 (some (opt r.2))) m := fun env => by rw [tt_er]; simp
    simp only [turn_ev, htt, Out.of_ok, List.set]
    refine seq_sat (fun e m' => m' = m ∧ e = [some (.ref a), some (.ref b), some (opt r.1), some (opt r.2), some (.bl false), q5, q6]) (by simp) ?_
    rintro e m' ⟨rfl, rfl⟩
    refine seq_sat (fun e m => m = m' ∧ ∃ q5 q6, e = [some (.ref a), some (.ref b), some (opt r.1), some (opt r.2), some (.bl (K.any fun s => fitE r s)), q5, q6]) ?_ ?_
    · simp only [forS_ev]
      have hit2 : iVal (v 1) [some (.ref a), some (.ref b), some (opt r.1), some (opt r.2), some (.bl false), q5, q6] m' = .ok ⟨K.map ER.pv, [(b, K.map ER.pv)]⟩ m' := by
        simp [iVal, itsOf, getL, hb]
      rw [hit2]
      simp only [Out.of_ok]
      refine for_sat0 ER.pv K (fun i e m => m = m' ∧ ∃ q5 q6, e = [some (.ref a), some (.ref b), some (opt r.1), some (opt r.2), some (.bl ((K.take i).any fun s => fitE r s)), q5, q6]) ?_ ⟨rfl, q5, q6, rfl⟩ ?_ ?_
      · rintro i e m ⟨rfl, _⟩
        exact locked_lst _ hb
      · rintro i s e m hs ⟨rfl, q5, q6, rfl⟩
        have htt : ∀ (env : PL.Env), tt 2 (tc (tn 5) (tc (tn 6) t0)) (ER.pv s) env m = .ok ((env.set 5 (some (opt s.1))).set 6 (some (opt s.2))) m := fun env => by rw [tt_er]; simp
        simp only [turn_ev, htt, Out.of_ok, List.set]
        have stp : ((K.take (i + 1)).any fun s => fitE r s) = (((K.take i).any fun s => fitE r s) || fitE r s) := by
          rw [take_succ' hs, List.any_append]; simp
        rw [stp]
        generalize ((K.take i).any fun s => fitE r s) = t
        rcases r with ⟨r1, r2⟩
        rcases s with ⟨s1, s2⟩
        cases s1 with
        | none => cases s2 with
          | none => simp [opt, isNon, fitE]
          | some s2 => cases r2 with
            | none => simp [opt, isNon, fitE]
            | some r2 => by_cases c : r2 ≤ s2 <;> simp [opt, isNon, fitE, c]
        | some s1 => cases r1 with
          | none => simp [opt, isNon, fitE]
          | some r1 =>
            by_cases c1 : s1 ≤ r1
            · cases s2 with
              | none => simp [opt, isNon, fitE, c1]
              | some s2 => cases r2 with
                | none => simp [opt, isNon, fitE, c1]
                | some r2 => by_cases c : r2 ≤ s2 <;> simp [opt, isNon, fitE, c, c1]
            · simp [opt, isNon, fitE, c1]
      · rintro e m ⟨rfl, q5, q6, rfl⟩
        rw [List.take_length]
        exact ⟨rfl, q5, q6, rfl⟩
    rintro e m ⟨rfl, q5, q6, rfl⟩
    have stp : isIn (L.take (i + 1)) K = K.any fun s => fitE r s := by
      unfold isIn at hall ⊢
      rw [take_succ' hr, List.all_append, hall]; simp
    cases hc : K.any fun s => fitE r s
    · have : isIn L K = false := by
        unfold isIn
        rw [List.all_eq_false]
        exact ⟨r, List.mem_of_getElem? hr, by rw [hc]; simp⟩
      simp [this]
    · rw [hc] at stp
      simp [stp]
  · rintro e m ⟨rfl, hall, q2, q3, q4, q5, q6, rfl⟩
    rw [List.take_length] at hall
    simp [hall]
end Law
end
section
set_option autoImplicit false
/-! _law_is_within, run. -/
namespace Law
open PySem PL
def AllLe (a b : List Part) (as : List (Nat × Fl)) : Prop := ∀ z ∈ as, leF (fans a z.2) (fans b z.2)
theorem is_within_ev {a b : List Part} (ha : Tr1 a) (hb : Tr1 b) {ons offs : Int} (h1 : 1 ≤ ons ∧ ons ≤ 1000000) (h2 : 1 ≤ offs ∧ offs ≤ 1000000) (μ : Mem) {d : Bool} (hd : d = true ↔ WithinW (wksB (ons - 1) (offs - 1) a) (wksB (ons - 1) (offs - 1) b)) : m__law_is_within [pvs a, pvs b, .int ons, .int offs] μ = .ok (.bl d) μ := by
  obtain ⟨a0, a1⟩ := ha.tk
  obtain ⟨b0, b1⟩ := hb.tk
  obtain ⟨most, hmost, m0, m1, ma, mb⟩ : ∃ most : Int, (if tkS b > tkS a then tkS b else tkS a) = most ∧ 0 ≤ most ∧ most ≤ 100 ∧ tkS a ≤ most ∧ tkS b ≤ most := ⟨_, rfl, by split <;> omega, by split <;> omega, by split <;> omega, by split <;> omega⟩
  have hiff := within_trials h1.1 h2.1 m0 ha.pos hb.pos ma mb
  rw [← hiff] at hd
  have la := fun μ => law_ticks_ev (row := a) (by have := ha.len; omega) μ
  have lb := fun μ => law_ticks_ev (row := b) (by have := hb.len; omega) μ
  rw [tks_tkS] at la lb
  have mx : ∀ μ, fMax [.int (tkS a), .int (tkS b)] μ = .ok (.int most) μ := fun μ => by rw [← hmost]; rfl
  obtain ⟨p, m1', e1, k, as, rfl, hk, hrl, has, hx1⟩ := rsat_ex (law_trials_ev h1 h2 m0 m1 μ)
  apply fn_sat_data rfl
  apply run_sat
  unfold b__law_is_within
  simp only [List.map_cons, List.map_nil, List.length_cons, List.length_nil, List.replicate, List.cons_append, List.nil_append, Nat.reduceAdd, Nat.reduceSub]
  have hit : iVal (app m__law_trials (ac (v 2) (ac (v 3) (ac (app fMax (ac (app m__law_ticks (ac (v 0) an)) (ac (app m__law_ticks (ac (v 1) an)) an))) an)))) [some (pvs a), some (pvs b), some (.int ons), some (.int offs), none] μ = .ok ⟨as.map fun z => .ref z.1, [(k, as.map fun z => .ref z.1)]⟩ m1' := by
    generalize pvs a = pa at *
    generalize pvs b = pb at *
    simp [iVal, la, lb, mx, e1, itsOf, getL, hrl.at_, -fMax_int]
  have hmem : ∀ z ∈ as, z.2 ∈ trials ons offs most := fun z hz => by rw [← has]; exact List.mem_map_of_mem hz
  simp only [seq_ev, forS_ev]
  rw [hit]
  simp only [Out.of_ok]
  refine for_sat (fun z : Nat × Fl => PV.ref z.1) as (fun i e m' => Ext m1' m' ∧ AllLe a b (as.take i) ∧ ∃ q4, e = [some (pvs a), some (pvs b), some (.int ons), some (.int offs), q4]) ?_ ⟨Ext.refl _, by simp [AllLe], none, rfl⟩ ?_ ?_
  · rintro i e m' ⟨x, _⟩
    exact locked_lst _ (x.get hrl.at_)
  · rintro i ⟨b', x⟩ e m' hz ⟨hx, hall, q4, rfl⟩
    have hzm := List.mem_of_getElem? hz
    obtain ⟨fo, fl⟩ := trial_fok h1.1 h2.1 m0 m1 (hmem _ hzm)
    have M0 : (0 : Int) ≤ 1000 ∧ (1000 : Int) ≤ 10 ^ 90 := ⟨by decide, by decide⟩
    have hbx := hx.get (hrl.el _ hzm).2
    obtain ⟨p, m2, e2, k2, rfl, w0, w1, w2⟩ := rsat_ex (led1 ha M0 fo fl b' m' hbx)
    obtain ⟨p, m3, e3, k3, rfl, u0, u1, u2⟩ := rsat_ex (led1 hb M0 fo fl b' m2 (w2.get hbx))
    have cm := is_in_ev (u2.get w1) u1
    have o1 := ha.out M0 fo
    have o2 := hb.out M0 fo
    have hle := isIn_iff o1.wd o2.wd
    have hx3 := (hx.trans w2).trans u2
    simp only [turn_ev, tn_ev, Out.of_ok, List.set]
    by_cases c : leF (fans a x) (fans b x)
    · rw [hle.mpr c] at cm
      have : AllLe a b (as.take (i + 1)) := fun z hz' => by
        rw [take_succ' hz] at hz'
        rcases List.mem_append.mp hz' with hz' | hz'
        · exact hall z hz'
        · simp at hz'; subst hz'; exact c
      generalize pvs a = pa at *
      generalize pvs b = pb at *
      simp [e2, e3, cm]
      exact ⟨hx3, this⟩
    · have cf : isIn (eF (fans a x)) (eF (fans b x)) = false := by
        cases hh : isIn (eF (fans a x)) (eF (fans b x))
        · rfl
        · exact absurd (hle.mp hh) c
      rw [cf] at cm
      have hdf : d = false := by
        cases hdd : d
        · rfl
        · exact absurd (hd.mp hdd x (hmem _ hzm)) c
      generalize pvs a = pa at *
      generalize pvs b = pb at *
      simp [e2, e3, cm, hdf]
      exact hx1.trans hx3
  · rintro e m' ⟨hx, hall, q4, rfl⟩
    rw [List.take_length] at hall
    have : d = true := hd.mpr fun x hx' => by
      rw [← has] at hx'
      obtain ⟨z, hz, rfl⟩ := List.mem_map.mp hx'
      exact hall z hz
    simp [this]
    exact hx1.trans hx
end Law
end
section
set_option autoImplicit false
namespace Law
open PySem PL
theorem ticks_up_ev (p : Part) (t : Bool) (μ : Mem) : m_ticks_up [p.pv, .bl t] μ = .ok (.int (p.up t)) μ := by
  apply fn_pure0
  unfold b_ticks_up
  rw [run_ev]
  cases p <;> cases t <;> simp [Part.pv, Part.up]
theorem moves_ev (row : List Part) (μ : Mem) (hz : row.length ≤ 1000000) : m_moves [pvs row] μ = .ok (.tup [.ref μ.length, .bl (mvs row).2]) (μ ++ [.lst ((mvs row).1.map .int)]) := by
  have key : (run 4 b_moves [pvs row] μ).sat fun p m => p = .tup [.ref μ.length, .bl (mvs row).2] ∧ m = μ ++ [.lst ((mvs row).1.map .int)] := by
    apply run_sat
    unfold b_moves
    simp
    refine for_sat Part.pv row (fun i env m => ∃ q, env = [some (pvs row), q, some (.ref μ.length), some (.bl ((row.take i).foldl mvStep ([], false)).2)] ∧ m = μ ++ [.lst (((row.take i).foldl mvStep ([], false)).1.map .int)])
      (fun _ _ _ _ => locked_nil _) ⟨none, by simp⟩ ?_ ?_
    · rintro i x env m hx ⟨q, rfl, rfl⟩
      have hi := lt_of_get hx
      rw [take_succ' hx, List.foldl_append]
      generalize hs : (row.take i).foldl mvStep ([], false) = s
      have hlen : s.1.length = i := by
        rw [← hs, mvs_len]; simp; omega
      have hz2 : s.1.length < 16777216 := by omega
      have tk := fun t μ => ticks_up_ev x t μ
      cases x <;> simp only [Part.pv] at tk <;> simp [mvStep, Part.pv, Part.flip, hz2, tk]
    · rintro e2 m ⟨q, rfl, rfl⟩
      simp [mvs]
  obtain ⟨p, m, e, rfl, rfl⟩ := rsat_ex key
  unfold m_moves
  rw [fn_ev, e, gc_keep]
  simp [PV.under, PV.unders]
theorem heights_ev (row : List Part) (μ : Mem) (hz : row.length ≤ 1000000) : m_heights [pvs row] μ = .ok (.tup ((hts (mvs row).1).map .int)) μ := by
  apply fn_sat_data (by simp)
  apply run_sat
  unfold b_heights
  have hm : (mvs row).1.length = row.length := by unfold mvs; rw [mvs_len]; simp
  simp [moves_ev row _ hz]
  generalize hms : (mvs row).1 = ms at *
  refine for_sat PV.int ms (fun i env m => ∃ q, env = [some (pvs row), q, some (.ref μ.length), some (.int ((ms.take i).foldl htStep ([], 0)).2)] ∧ m = μ ++ [.lst (((ms.take i).foldl htStep ([], 0)).1.map .int), .lst (ms.map .int)])
      ?_ ⟨none, by simp⟩ ?_ ?_
  · rintro i env m ⟨q, rfl, rfl⟩
    exact locked_lst _ (by simp)
  · rintro i x env m hx ⟨q, rfl, rfl⟩
    have hi := lt_of_get hx
    rw [take_succ' hx, List.foldl_append]
    generalize hs : (ms.take i).foldl htStep ([], 0) = s
    have hlen : s.1.length = i := by
      rw [← hs, hts_len]; simp; omega
    have hz2 : s.1.length < 16777216 := by omega
    simp [htStep, hz2]
  · rintro e2 m ⟨q, rfl, rfl⟩
    simp [hts]
theorem with_stage_ev (f : List Sg) (b : Bool) (n : Int) (a : Nat) (μ : Mem) (hf : ∀ s ∈ f, sml s.2) (hz : f.length ≤ 1000000) (ha : μ[a]? = some (.lst (f.map Sg.pv))) :
    (m_with_stage [.ref a, .str (if b then "drop" else "fill" : String), .int n] μ).sat (NewL μ ((ws f b n).map Sg.pv)) := by
  apply fn_sat_new
  apply run_sat
  unfold b_with_stage
  simp
  have e1 : fNe [.ref a, .ref μ.length] (μ ++ [.lst []]) = .ok (.bl (!f.isEmpty)) (μ ++ [.lst []]) := by
    rw [fNe_nil (l := f.map Sg.pv) (by simp [ha]) (by simp) (datas_map _ Sg_data f) (sms_map _ _ fun s hs => Sg_sm s (hf s hs)) (dps_map _ _ _ fun s _ => by rw [Sg_dp s]; decide)]
    simp
  rw [e1]
  rcases List.eq_nil_or_concat f with rfl | ⟨f', s, rfl⟩
  · simp [ha, ws, Ext.app, Sg.pv]
  · have hz2 : f'.length + 1 + 1 ≤ 16777216 := by simp at hz; omega
    have hz3 : f'.length + 1 ≤ 16777216 := by omega
    rcases s with ⟨c, k⟩
    cases b <;> cases c <;> simp [ha, ws, Sg.pv, hz2, hz3, cut_last, List.concat_eq_append, Ext.app]
theorem stages_beyond_ev (row : List Part) (hi de : Int) (μ : Mem) (hz : row.length ≤ 100000) (hs : ∀ h ∈ hts (mvs row).1, sml h) : m_stages_beyond [pvs row, .int hi, .int de] μ = .ok (.tup ((stgs row hi de).st.map Sg.pv)) μ := by
  apply fn_sat_data (by simp [datas_map _ Sg_data])
  apply run_sat
  unfold b_stages_beyond
  simp [heights_ev row _ (by omega : row.length ≤ 1000000)]
  have hl := hts_len0 (mvs row).1
  rw [mvs_len0] at hl
  generalize hH : hts (mvs row).1 = H at *
  refine for_sat PV.int H (fun i env m => ∃ q a, env = [some (pvs row), some (.int ((H.take i).foldl stg ⟨hi, de, []⟩).hi), some (.int ((H.take i).foldl stg ⟨hi, de, []⟩).de), some (.ref a), q] ∧ Ext μ m ∧ μ.length ≤ a ∧ m[a]? = some (.lst (((H.take i).foldl stg ⟨hi, de, []⟩).st.map Sg.pv)))
      (fun _ _ _ _ => locked_nil _) ⟨none, μ.length, by simp [Ext.app]⟩ ?_ ?_
  · rintro i x env m hx ⟨q, a, rfl, h1, h2, h3⟩
    have hlt := lt_of_get hx
    have hf := stg_fold (H.take i) ⟨hi, de, []⟩ (fun h hh => hs h (List.mem_of_mem_take hh)) (by simp)
    rw [take_succ' hx, List.foldl_append]
    generalize hS : (H.take i).foldl stg ⟨hi, de, []⟩ = S at *
    have hlen : S.st.length ≤ 1000000 := by
      have := hf.1
      simp at this
      omega
    have w := fun b n => rsat_ex (with_stage_ev S.st b n a m hf.2 hlen h3)
    simp only [List.foldl_cons, List.foldl_nil]
    unfold stg
    by_cases c1 : x > S.hi
    · obtain ⟨p, m2, e, k, rfl, w1, w2, w3⟩ := w true x
      simp at e
      simp [c1, e]
      exact ⟨_, _, ⟨rfl, rfl⟩, h1.trans w3, Nat.le_trans h1.len w1, w2⟩
    · by_cases c2 : S.de < -x
      · obtain ⟨p, m2, e, k, rfl, w1, w2, w3⟩ := w false (-x)
        simp at e
        simp [c1, c2, e]
        exact ⟨_, _, ⟨rfl, rfl⟩, h1.trans w3, Nat.le_trans h1.len w1, w2⟩
      · simp [c1, c2]
        exact ⟨_, _, ⟨rfl, rfl⟩, h1, h2, h3⟩
  · rintro e2 m ⟨q, a, rfl, h1, h2, h3⟩
    rw [List.take_length] at h3
    simp [h3]
    exact ⟨by rw [← hH], h1⟩
theorem form_beyond_ev (row : List Part) (hi de : Int) (μ : Mem) (hz : row.length ≤ 100000) (hs : ∀ h ∈ hts (mvs row).1, sml h) : m_form_beyond [pvs row, .int hi, .int de] μ = .ok (formP row hi de) μ := by
  apply fn_sat_data (by simp [formP, datas_map _ Sg_data])
  apply run_sat
  unfold b_form_beyond
  have hl := mvs_len0 row
  simp [moves_ev row _ (by omega : row.length ≤ 1000000)]
  refine lc_of Part.pv (fun p => p.dl.map PV.int) row (filterMap_map' _ _ _) rfl (locked_nil _) (by simp; omega) ?_ ?_
  · intro x _ l
    refine ⟨_, rfl, ?_⟩
    cases x <;> simp [Part.pv, Part.dl, wipe]
  simp
  rw [fSum_lst (l := row.filterMap Part.dl) (by simp)]
  simp
  refine lc_of PV.int (fun p => if decide (p > 0) = true then some (.int p) else none) (mvs row).1 (filterMap_if _ _ _) (lk := [(μ.length, _)]) (by simp; exact ⟨rfl, rfl⟩) (locked_lst _ (by simp)) (by simp; omega) ?_ ?_
  · intro x _ l
    refine ⟨_, rfl, ?_⟩
    by_cases c : x > 0 <;> simp [wipe, c]
  simp
  rw [fSum_lst (l := (mvs row).1.filter (· > 0)) (by simp)]
  simp
  refine lc_of PV.int (fun p => if decide (p < 0) = true then some (.int p) else none) (mvs row).1 (filterMap_if _ _ _) (lk := [(μ.length, _)]) (by simp; exact ⟨rfl, rfl⟩) (locked_lst _ (by simp)) (by simp; omega) ?_ ?_
  · intro x _ l
    refine ⟨_, rfl, ?_⟩
    by_cases c : x < 0 <;> simp [wipe, c]
  simp
  rw [fSum_lst (l := (mvs row).1.filter (· < 0)) (by simp)]
  simp [stages_beyond_ev row hi de _ hz hs, formP, lateOn, lateOff]
theorem heights_fit {row : List Part} (h : Fit row) (μ : Mem) : m_heights [pvs row] μ = .ok (.tup ((foundL row).map .int)) μ := by
  rw [heights_ev row μ (by have := h.len; omega), hts_found row h.pos]
end Law
end
section
set_option autoImplicit false
/-! The program's order of forms, run. -/
namespace Law
open PySem PL
def wrd (b : Bool) : PV := .str (if b then "drop" else "fill" : String)
theorem sg_wrd (s : Sg) : Sg.pv s = .tup [wrd s.1, .int s.2] := rfl
def nms (S : List Sg) (b : Bool) : List Int := (S.filter fun s => s.1 == b).map (·.2)
theorem maxL_mst (b : Bool) : ∀ (S : List Sg) (a : Int), maxL a (nms S b) = S.foldl (fun a s => if s.1 == b then max a s.2 else a) a
  | [], a => rfl
  | s :: S, a => by
    unfold nms
    rw [List.filter_cons, List.foldl_cons]
    by_cases c : (s.1 == b) = true
    · rw [if_pos c, if_pos c, List.map_cons]
      have := maxL_mst b S (max a s.2)
      unfold nms at this
      rw [← this]
      simp only [maxL]
      congr 1
      split <;> omega
    · rw [if_neg c, if_neg c]
      exact maxL_mst b S a
theorem intsOf_nms (z : Int) (L : List Int) : intsOf (.int z :: L.map .int) = some (z :: L) := intsOf_mapI (z :: L)
theorem most_of_ev (S : List Sg) (b : Bool) (hl : S.length ≤ 100000) (μ : Mem) : m_most_of [.tup (S.map Sg.pv), wrd b] μ = .ok (.int (mst S b)) μ := by
  apply fn_sat_data (by simp)
  apply run_sat
  unfold b_most_of
  simp
  refine lc_of Sg.pv (fun s => if (s.1 == b) = true then some (.int s.2) else none) S (ys := (nms S b).map PV.int) ?_ rfl (locked_nil _) (by show S.length < 16777216; omega) ?_ ?_
  · unfold nms
    rw [filterMap_if (fun s : Sg => s.1 == b) (fun s => .int s.2), List.map_map]; rfl
  · rintro ⟨w, n⟩ _ l
    refine ⟨_, by simp [wipe, sg_wrd]; rfl, ?_⟩
    cases w <;> cases b <;> simp [wrd]
  have hf : ∀ (n : Nat) (μ : Mem), μ[n]? = some (.lst (.int 0 :: (nms S b).map .int)) → fMax [.ref n] μ = .ok (.int (mst S b)) μ := fun n μ h => by
    have e : fMax [.ref n] μ = match (getL μ (.ref n)).bind intsOf with
      | some (i :: is) => .ok (.int (maxL i is)) μ
      | _ => .stuck := rfl
    rw [e]
    simp only [getL, h, Option.bind_some, intsOf_nms]
    rw [maxL_mst]; rfl
  have hn : (nms S b).length ≤ 100000 := by unfold nms; simp; exact Nat.le_trans (List.length_filter_le _ _) hl
  have hz : (nms S b).length + 1 ≤ 16777216 := by omega
  have h2 := hf (μ.length + 1) (μ ++ [.lst ((nms S b).map .int), .lst (.int 0 :: (nms S b).map .int)]) (by simp)
  have fl : ∀ μ : Mem, fLst (PV.int 0 :: (nms S b).map .int) μ = .ok (.ref μ.length) (μ ++ [.lst (.int 0 :: (nms S b).map .int)]) := fun μ => by
    unfold fLst
    rw [if_pos (by show _ ≤ 16777216; simp; omega)]
    rfl
  simp [fl]
  rw [h2]
  simp
/-! ahead_of -/
def blk (b : Bool) (k : Int) (s : Sg) : Bool := s.1 == b && decide (s.2 > k)
theorem ahd_at {S : List Sg} {b : Bool} {k : Int} {i : Nat} {s : Sg} (h : ∀ z ∈ S.take i, blk b k z = false) (hi : S[i]? = some s) (hb : blk b k s = true) : ahd S b k = S.take i := by
  have hl := (List.getElem?_eq_some_iff.mp hi).1
  have e : S = S.take i ++ s :: S.drop (i + 1) := by
    have := List.take_append_drop i S
    rw [List.drop_eq_getElem_cons hl] at this
    rw [(List.getElem?_eq_some_iff.mp hi).2] at this
    exact this.symm
  unfold ahd
  conv => lhs; rw [e]
  rw [List.takeWhile_append_of_pos (fun z hz => by have := h z hz; unfold blk at this; rw [this]; rfl), List.takeWhile_cons, if_neg (by unfold blk at hb; rw [hb]; simp), List.append_nil]
theorem ahd_none {S : List Sg} {b : Bool} {k : Int} (h : ∀ z ∈ S, blk b k z = false) : ahd S b k = S := twAll fun z hz => by have := h z hz; unfold blk at this; rw [this]; rfl
theorem enum_get (l : List PV) : ∀ k, enumL k l = (l.zipIdx k).map fun z => PV.tup [.int (z.2 : Nat), z.1] := by
  induction l with
  | nil => intro k; rfl
  | cons p l ih => intro k; simp [enumL, ih, List.zipIdx_cons]
theorem ahead_of_ev (S : List Sg) (b : Bool) (k : Int) (μ : Mem) : m_ahead_of [.tup (S.map Sg.pv), wrd b, .int k] μ = .ok (.tup ((ahd S b k).map Sg.pv)) μ := by
  apply fn_sat_data (by simp [datas_map _ Sg_data])
  apply run_sat
  unfold b_ahead_of
  simp only [List.map_cons, List.map_nil, List.length_cons, List.length_nil, List.replicate, List.cons_append, List.nil_append, Nat.reduceAdd, Nat.reduceSub]
  simp only [seq_ev, forS_ev]
  have hit : iEnum (v 0) [some (.tup (S.map Sg.pv)), some (wrd b), some (.int k), none, none, none] μ = .ok ⟨S.zipIdx.map (fun z => PV.tup [.int (z.2 : Nat), Sg.pv z.1]), []⟩ μ := by
    have e : (S.map Sg.pv).zipIdx.map (fun z => PV.tup [.int (z.2 : Nat), z.1]) = S.zipIdx.map (fun z => PV.tup [.int (z.2 : Nat), Sg.pv z.1]) := by
      rw [List.zipIdx_map, List.map_map]; rfl
    rw [← e, ← enum_get]
    simp [iEnum, enumOf]
  rw [hit]
  simp only [Out.of_ok]
  refine for_nb (fun z : Sg × Nat => PV.tup [.int (z.2 : Nat), Sg.pv z.1]) S.zipIdx (fun i e m => m = μ ∧ (∀ z ∈ S.take i, blk b k z = false) ∧ ∃ q3 q4 q5, e = [some (.tup (S.map Sg.pv)), some (wrd b), some (.int k), q3, q4, q5]) (fun _ _ _ _ => locked_nil _) ⟨rfl, by simp, none, none, none, rfl⟩ ?_ ?_
  · rintro i ⟨s, pl⟩ e m hx ⟨rfl, hn, q3, q4, q5, rfl⟩
    have hpl : pl = i ∧ S[i]? = some s := by
      rw [List.getElem?_zipIdx] at hx
      cases hs : S[i]? with
      | none => rw [hs] at hx; nomatch hx
      | some z => rw [hs] at hx; simp at hx; exact ⟨hx.2.symm, by rw [hx.1]⟩
    obtain ⟨rfl, hs⟩ := hpl
    have hw : ∀ b' : Bool, fEq [wrd s.1, wrd b] m = .ok (.bl (s.1 == b)) m := fun _ => by
      rcases s with ⟨w, n⟩
      cases w <;> cases b <;> simp [wrd]
    have hw := hw true
    by_cases c : blk b k s = true
    · have ha := ahd_at hn hs c
      unfold blk at c
      simp only [Bool.and_eq_true, decide_eq_true_eq] at c
      have ct : PL.cut (S.map Sg.pv) none (some (pl : Int)) = (ahd S b k).map Sg.pv := by rw [cut_to, ← List.map_take, ha]
      rw [c.1] at hw
      generalize ahd S b k = A at *
      generalize hb : wrd b = pb at *
      generalize hs1 : wrd s.1 = pw at *
      simp [sg_wrd, hs1, hw, c.2]
      rw [ha, List.map_take]
    · have c' : blk b k s = false := by simpa using c
      have hn2 : ∀ z ∈ S.take (pl + 1), blk b k z = false := fun z hz => by
        rw [take_succ' hs] at hz
        rcases List.mem_append.mp hz with hz | hz
        · exact hn z hz
        · simp at hz; subst hz; exact c'
      unfold blk at c'
      generalize hb : wrd b = pb at *
      generalize hs1 : wrd s.1 = pw at *
      cases hsb : (s.1 == b)
      · rw [hsb] at hw
        simp [sg_wrd, hs1, hw]
        exact ⟨fun z h => hn2 _ h, fun z h => hn2 _ h⟩
      · rw [hsb] at hw c'
        simp at c'
        have hk : ¬ s.2 > k := by omega
        simp [sg_wrd, hs1, hw, hk]
        exact ⟨fun z h => hn2 _ h, fun z h => hn2 _ h⟩
  · rintro e m ⟨rfl, hn, q3, q4, q5, rfl⟩
    rw [List.length_zipIdx, List.take_length] at hn
    rw [ahd_none hn]
    simp
theorem filled_ahead_ev (S : List Sg) (k : Int) (hl : S.length ≤ 100000) (μ : Mem) : m_filled_ahead [.tup (S.map Sg.pv), .int k] μ = .ok (.int (ph S true k)) μ := by
  have a := fun μ => ahead_of_ev S true k μ
  have hl2 : (ahd S true k).length ≤ 100000 := Nat.le_trans (List.Sublist.length_le (List.takeWhile_sublist _)) hl
  have b := fun μ => most_of_ev (ahd S true k) false hl2 μ
  apply fn_pure0
  rw [run_ev]
  unfold b_filled_ahead
  have e1 : wrd true = K_DROP := rfl
  have e2 : wrd false = K_FILL := rfl
  rw [e1] at a
  rw [e2] at b
  simp [a, b, ph]
theorem dropped_ahead_ev (S : List Sg) (k : Int) (hl : S.length ≤ 100000) (μ : Mem) : m_dropped_ahead [.tup (S.map Sg.pv), .int k] μ = .ok (.int (ph S false k)) μ := by
  have a := fun μ => ahead_of_ev S false k μ
  have hl2 : (ahd S false k).length ≤ 100000 := Nat.le_trans (List.Sublist.length_le (List.takeWhile_sublist _)) hl
  have b := fun μ => most_of_ev (ahd S false k) true hl2 μ
  apply fn_pure0
  rw [run_ev]
  unfold b_dropped_ahead
  have e1 : wrd true = K_DROP := rfl
  have e2 : wrd false = K_FILL := rfl
  rw [e2] at a
  rw [e1] at b
  simp [a, b, ph]
/-- low, as the program finds it -/
def lowB (S T : List Sg) : Bool := (bnds S T).all fun k => decide (ph S true k ≤ ph T true k) && decide (ph T false k ≤ ph S false k)
theorem lowB_iff (S T : List Sg) : lowB S T = true ↔ LowB S T := by
  unfold lowB LowB
  rw [List.all_eq_true]
  constructor
  · intro h k hk; have := h k hk; simpa using this
  · intro h k hk; have := h k hk; simpa using this
theorem lowB_low {S T : List Sg} (hn : ∀ s ∈ S ++ T, 0 ≤ s.2) : lowB S T = true ↔ Low S T := by rw [lowB_iff, low_iff S T hn]
theorem bounds_in_ev (S T : List Sg) (hs : S.length ≤ 1000) (ht : T.length ≤ 1000) (μ : Mem) : (m_bounds_in [.tup (S.map Sg.pv), .tup (T.map Sg.pv)] μ).sat (NewL μ ((bnds S T).map .int)) := by
  apply fn_sat_new
  apply run_sat
  unfold b_bounds_in
  have ad : ∀ μ : Mem, fAdd [.tup (S.map Sg.pv), .tup (T.map Sg.pv)] μ = .ok (.tup ((S ++ T).map Sg.pv)) μ := fun μ => by
    rw [List.map_append]
    apply fAdd_tup
    have : SL = 16777216 := rfl
    rw [this]; simp; omega
  simp
  refine lc_of Sg.pv (fun s => some (.int s.2)) (S ++ T) (ys := ((S ++ T).map (·.2)).map .int) (by rw [filterMap_some, List.map_map]; rfl) (lk := []) (μ1 := μ ++ [.lst [.int 0]]) (by simp [ad]) (locked_nil _) (by show (S ++ T).length < 16777216; simp; omega) ?_ ?_
  · rintro ⟨w, n⟩ _ l
    exact ⟨_, by simp [wipe, sg_wrd]; rfl, by simp⟩
  have hz : ((S ++ T).map (·.2)).length + 1 ≤ 16777216 := by simp; omega
  have fa : ∀ (a b : Nat) (x y : List PV) (μ : Mem), μ[a]? = some (.lst x) → μ[b]? = some (.lst y) → x.length + y.length ≤ 16777216 → fAdd [.ref a, .ref b] μ = .ok (.ref μ.length) (μ ++ [.lst (x ++ y)]) := by
    intro a b x y μ h1 h2 h3
    rw [fAdd_ref, h1, h2]
    simp [h3, newL]
  rw [fa μ.length _ [.int 0] (((S ++ T).map (·.2)).map .int) _ (by simp) (by simp) (by simp; omega)]
  simp
  simp [bnds, Function.comp_def]
theorem is_low_ev (S T : List Sg) (hs : S.length ≤ 1000) (ht : T.length ≤ 1000) (μ : Mem) : m_is_low [.tup (S.map Sg.pv), .tup (T.map Sg.pv)] μ = .ok (.bl (lowB S T)) μ := by
  apply fn_sat_data (by simp)
  apply run_sat
  unfold b_is_low
  have f1 := fun k μ => filled_ahead_ev S k (by omega) μ
  have f2 := fun k μ => filled_ahead_ev T k (by omega) μ
  have d1 := fun k μ => dropped_ahead_ev S k (by omega) μ
  have d2 := fun k μ => dropped_ahead_ev T k (by omega) μ
  obtain ⟨p, m1, e1, k1, rfl, hk, hc, hx⟩ := rsat_ex (bounds_in_ev S T hs ht μ)
  generalize PV.tup (S.map Sg.pv) = ps at *
  generalize PV.tup (T.map Sg.pv) = pt at *
  simp [e1, hc]
  refine for_nb PV.int (bnds S T) (fun i e m => Ext m1 m ∧ (∀ k ∈ (bnds S T).take i, ph S true k ≤ ph T true k ∧ ph T false k ≤ ph S false k) ∧ ∃ q2, e = [some ps, some pt, q2]) ?_ ⟨Ext.refl _, by simp, none, rfl⟩ ?_ ?_
  · rintro i e m ⟨x, _⟩
    exact locked_lst _ (x.get hc)
  · rintro i k e m hki ⟨x, hn, q2, rfl⟩
    have hm := List.mem_of_getElem? hki
    have no : ¬ (ph S true k ≤ ph T true k ∧ ph T false k ≤ ph S false k) → lowB S T = false := fun h => by
      cases hl : lowB S T
      · rfl
      · exact absurd ((lowB_iff S T).mp hl k hm) h
    by_cases c1 : ph S true k ≤ ph T true k
    · have c1' : ¬ ph S true k > ph T true k := by omega
      by_cases c2 : ph T false k ≤ ph S false k
      · have c2' : ¬ ph S false k < ph T false k := by omega
        have hn2 : ∀ z ∈ (bnds S T).take (i + 1), ph S true z ≤ ph T true z ∧ ph T false z ≤ ph S false z := fun z hz => by
          rw [take_succ' hki] at hz
          rcases List.mem_append.mp hz with hz | hz
          · exact hn z hz
          · simp at hz; subst hz; exact ⟨c1, c2⟩
        simp [f1, f2, d1, d2, c1', c2']
        exact ⟨x, hn2⟩
      · have c2' : ph S false k < ph T false k := by omega
        have := no fun h => c2 h.2
        simp [f1, f2, d1, d2, c1', c2', this]
        exact hx.trans x
    · have c1' : ph S true k > ph T true k := by omega
      have := no fun h => c1 h.1
      simp [f1, f2, d1, d2, c1', this]
      exact hx.trans x
  · rintro e m ⟨x, hn, q2, rfl⟩
    rw [List.take_length] at hn
    have : lowB S T = true := (lowB_iff S T).mpr hn
    simp [this]
    exact hx.trans x
end Law
end
section
set_option autoImplicit false
/-! forms_within: run. -/
namespace Law
open PySem PL
def coreB (s t : W) : Bool := decide (s.l0 ≥ t.l0) && (decide (s.l1 ≤ t.l1) && lowB s.st t.st)
def winB (s t : W) : Bool := (s.t == t.t) && (if s.t then coreB t s else coreB s t)
structure WOk (s : W) : Prop where
  len : s.st.length ≤ 1000
theorem sh0 (s : W) (μ : Mem) : fIx [shapeP s, .int 0] μ = .ok (.bl s.t) μ := by simp [shapeP]
theorem sh1 (s : W) (μ : Mem) : fIx [shapeP s, .int 1] μ = .ok (.int s.l0) μ := by simp [shapeP]
theorem sh2 (s : W) (μ : Mem) : fIx [shapeP s, .int 2] μ = .ok (.int s.l1) μ := by simp [shapeP]
theorem sh3 (s : W) (μ : Mem) : fIx [shapeP s, .int 3] μ = .ok (.tup (s.st.map Sg.pv)) μ := by simp [shapeP]
theorem cores_within_ev {s t : W} (hs : WOk s) (ht : WOk t) (μ : Mem) : m_cores_within [shapeP s, shapeP t] μ = .ok (.bl (coreB s t)) μ := by
  have e := fun μ => is_low_ev s.st t.st hs.len ht.len μ
  have a1 := sh1 s; have a2 := sh2 s; have a3 := sh3 s; have b1 := sh1 t; have b2 := sh2 t; have b3 := sh3 t
  unfold coreB
  generalize shapeP s = ps at *
  generalize shapeP t = pt at *
  apply fn_pure0
  rw [run_ev]
  unfold b_cores_within
  by_cases c1 : t.l0 ≤ s.l0
  · by_cases c2 : s.l1 ≤ t.l1
    · simp [a1, a2, a3, b1, b2, b3, c1, c2, e]
    · simp [a1, a2, b1, b2, c1, c2]
  · simp [a1, b1, c1]
theorem forms_within_ev {s t : W} (hs : WOk s) (ht : WOk t) (μ : Mem) : m_forms_within [shapeP s, shapeP t] μ = .ok (.bl (winB s t)) μ := by
  have e1 := fun μ => cores_within_ev hs ht μ
  have e2 := fun μ => cores_within_ev ht hs μ
  have a0 := sh0 s; have b0 := sh0 t
  unfold winB
  generalize shapeP s = ps at *
  generalize shapeP t = pt at *
  apply fn_pure0
  rw [run_ev]
  unfold b_forms_within
  cases hs' : s.t <;> cases ht' : t.t <;> rw [hs'] at a0 <;> rw [ht'] at b0 <;> simp [a0, b0, e1, e2]
end Law
end
section
set_option autoImplicit false
/-! Forms behind promises: plain. -/
namespace Law
open PySem PL
theorem stB_good {row : List Part} (h : Fit row) (hi de : Int) : Good 601 (.tup ((wksB hi de row).st.map Sg.pv)) := by
  have f := wksB_sml h hi de row.length
  rw [List.take_length] at f
  exact (Good.tup (Goods.map Sg.pv _ fun x hx => sg_good (f.1 x hx)) (dps_map _ _ _ fun p _ => by rw [Sg_dp p]; decide)).mono (by have := f.2; omega)
theorem shapeB_good {row : List Part} (h : Fit row) (hi de : Int) : Good 605 (shapeP (wksB hi de row)) := by
  have f := wksB_f hi de row
  have l := late_sml h
  rw [← f.2.2.1, ← f.2.2.2] at l
  exact (Good.tup (Goods.cons (Good.bl _) (Goods.cons (Good.int l.1) (Goods.cons (Good.int l.2) (Goods.cons (stB_good h hi de) Goods.nil)))) (by have := st_dp (wksB hi de row); simp; omega)).mono (by decide)
/-- beyond all heights there are no stages -/
theorem wksB_none {hi de : Int} (row : List Part) : (wks row).hi ≤ hi → -(wks row).lo ≤ de → (wksB hi de row).st = [] ∧ (wksB hi de row).hi = hi ∧ (wksB hi de row).lo = -de := by
  induction row using rev_ind with
  | h0 => intro _ _; exact ⟨rfl, rfl, rfl⟩
  | hs l x ih =>
    intro h1 h2
    rw [wks_snoc] at h1 h2
    have w := wk_more (wks l) x
    obtain ⟨a, b, c⟩ := ih (by omega) (by omega)
    have inv := wk_inv (wks l) x
    have f := wksB_f hi de (l ++ [x])
    rw [wks_snoc] at f
    have at_ : (wksB hi de (l ++ [x])).at_ = (wk (wks l) x).at_ := f.2.1
    rw [wksB_snoc] at at_ ⊢
    have i1 := inv.h
    have i2 := inv.l
    generalize wksB hi de l = s at *
    generalize wk (wks l) x = y at *
    have m : (s.mv x).hi = s.hi ∧ (s.mv x).lo = s.lo ∧ (s.mv x).st = s.st := by
      cases x with
      | turn => exact ⟨rfl, rfl, rfl⟩
      | delay k => exact ⟨rfl, rfl, rfl⟩
      | on k => unfold W.mv; simp only; split <;> exact ⟨rfl, rfl, rfl⟩
      | off k => unfold W.mv; simp only; split <;> exact ⟨rfl, rfl, rfl⟩
    have fH := upH_f (s.mv x)
    have fL := upL_f (s.mv x).upH
    have e : (s.mv x).at_ = y.at_ := by rw [← at_]; unfold wk; rw [fL.2.1, fH.2.1]
    unfold wk
    have g1 : (s.mv x).upH = s.mv x := by unfold W.upH; rw [if_neg (by omega)]
    have g2 : (s.mv x).upL = s.mv x := by unfold W.upL; rw [if_neg (by omega)]
    rw [g1, g2, m.1, m.2.1, m.2.2]
    exact ⟨a, b, c⟩
end Law
end
section
set_option autoImplicit false
/-! form_for: run. -/
namespace Law
open PySem PL
theorem form_for_ev {row : List Part} (h : Fit row) (ons offs : Int) (h1 : 1 ≤ ons) (h2 : 1 ≤ offs) (μ : Mem) : m_form_for [pvs row, .int ons, .int offs] μ = .ok (shapeP (wksB (ons - 1) (offs - 1) row)) μ := by
  apply fn_pure0
  rw [run_ev]
  unfold b_form_for
  simp [form_beyond_ev row (ons - 1) (offs - 1) μ (by have := h.len; omega) (hts_sml h), formB (by omega : 0 ≤ ons - 1) (by omega : 0 ≤ offs - 1) h.pos]
end Law
end
section
set_option autoImplicit false
/-! within_for: run. -/
namespace Law
open PySem PL
theorem wokB {row : List Part} (h : Fit row) (hi de : Int) : WOk (wksB hi de row) := ⟨by have := (wksB_sml h hi de row.length).2; rw [List.take_length] at this; omega⟩
theorem winB_W {s t : W} (ns : Nn s.st) (nt : Nn t.st) : winB s t = true ↔ WithinW s t := by
  have core : ∀ {s t : W}, Nn s.st → Nn t.st → (coreB s t = true ↔ CoreW s t) := fun {s t} hs ht => by
    unfold coreB CoreW
    rw [Bool.and_eq_true, Bool.and_eq_true, lowB_low (hs.app ht)]
    simp
  unfold winB WithinW
  rw [Bool.and_eq_true]
  have h1 := core ns nt
  have h2 := core nt ns
  cases s.t <;> simp [h1, h2]
theorem nnB {p q : Int} (hp : 0 ≤ p) (hq : 0 ≤ q) {row : List Part} (hr : ∀ x ∈ row, 0 ≤ x.num) : Nn (wksB p q row).st := vl_nn (pf_row hp hq hr).vl
theorem within_for_ev {a b : List Part} (ha : Fit a) (hb : Fit b) (ons offs : Int) (h1 : 1 ≤ ons) (h2 : 1 ≤ offs) {d : Bool} (hd : d = true ↔ WithinW (wksB (ons - 1) (offs - 1) a) (wksB (ons - 1) (offs - 1) b)) (μ : Mem) : m_within_for [pvs a, pvs b, .int ons, .int offs] μ = .ok (.bl d) μ := by
  have e1 := fun μ => form_for_ev ha ons offs h1 h2 μ
  have e2 := fun μ => form_for_ev hb ons offs h1 h2 μ
  have e3 := fun μ => forms_within_ev (wokB ha (ons - 1) (offs - 1)) (wokB hb (ons - 1) (offs - 1)) μ
  have e4 : winB (wksB (ons - 1) (offs - 1) a) (wksB (ons - 1) (offs - 1) b) = d := by
    rw [Bool.eq_iff_iff, winB_W (nnB (by omega) (by omega) ha.pos) (nnB (by omega) (by omega) hb.pos), hd]
  rw [e4] at e3
  generalize shapeP (wksB (ons - 1) (offs - 1) a) = p1 at *
  generalize shapeP (wksB (ons - 1) (offs - 1) b) = p2 at *
  generalize pvs a = pa at *
  generalize pvs b = pb at *
  apply fn_pure0
  rw [run_ev]
  unfold b_within_for
  simp [e1, e2, e3]
end Law
end
section
set_option autoImplicit false
/-! Forms compared. -/
namespace Law
open PySem PL
def sameW (s t : W) : Prop := s.t = t.t ∧ s.l0 = t.l0 ∧ s.l1 = t.l1 ∧ s.st = t.st
theorem eqv_sg (s t : Sg) : PyData.eqv (Sg.pv s).pd (Sg.pv t).pd = true ↔ s = t := by
  rcases s with ⟨a, m⟩
  rcases t with ⟨b, n⟩
  cases a <;> cases b <;> simp [Sg.pv, PyData.eqv, PyData.eqvAll]
theorem eqv_sgs : ∀ S T : List Sg, PyData.eqvAll (PV.pds (S.map Sg.pv)) (PV.pds (T.map Sg.pv)) = true ↔ S = T
  | [], [] => by simp [PyData.eqvAll]
  | [], t :: T => by simp [PyData.eqvAll]
  | s :: S, [] => by simp [PyData.eqvAll]
  | s :: S, t :: T => by
    have ih := eqv_sgs S T
    have hp := eqv_sg s t
    simp only [List.map_cons, pds_cons, PyData.eqvAll, Bool.and_eq_true, ih, hp, List.cons.injEq]
theorem eqv_shape (s t : W) : PyData.eqv (shapeP s).pd (shapeP t).pd = true ↔ sameW s t := by
  have h := eqv_sgs s.st t.st
  unfold shapeP sameW
  simp [PyData.eqv, PyData.eqvAll, h, and_assoc]
end Law
end
section
set_option autoImplicit false
/-! == of data: run. -/
namespace Law
open PySem PL
theorem fEq_data {k j : Nat} {p q : PV} (hs : scalP p q = none) (h1 : Good k p) (h2 : Good j q) (μ : Mem) : fEq [p, q] μ = .ok (.bl (PyData.eqv p.pd q.pd)) μ := by
  simp only [fEq, eqR, hs]
  rw [toD_data h1.data, toD_data h2.data]
  simp only
  rw [if_pos ⟨shaped_sm h1.sm (by have := h1.dp; omega), shaped_sm h2.sm (by have := h2.dp; omega)⟩]
theorem fNe_data {k j : Nat} {p q : PV} (hs : scalP p q = none) (h1 : Good k p) (h2 : Good j q) (μ : Mem) : fNe [p, q] μ = .ok (.bl (!PyData.eqv p.pd q.pd)) μ := by
  simp only [fNe, eqR, hs]
  rw [toD_data h1.data, toD_data h2.data]
  simp only
  rw [if_pos ⟨shaped_sm h1.sm (by have := h1.dp; omega), shaped_sm h2.sm (by have := h2.dp; omega)⟩]
end Law
end
section
set_option autoImplicit false
/-! alike_for: run. -/
namespace Law
open PySem PL
open Classical in
theorem alike_for_ev {a b : List Part} (ha : Fit a) (hb : Fit b) (ons offs : Int) (h1 : 1 ≤ ons) (h2 : 1 ≤ offs) (μ : Mem) : m_alike_for [pvs a, pvs b, .int ons, .int offs] μ = .ok (.bl (decide (sameF (wksB (ons - 1) (offs - 1) a) (wksB (ons - 1) (offs - 1) b)))) μ := by
  have e1 := fun μ => form_for_ev ha ons offs h1 h2 μ
  have e2 := fun μ => form_for_ev hb ons offs h1 h2 μ
  have g1 := shapeB_good ha (ons - 1) (offs - 1)
  have g2 := shapeB_good hb (ons - 1) (offs - 1)
  have hq := eqv_shape (wksB (ons - 1) (offs - 1) a) (wksB (ons - 1) (offs - 1) b)
  have e3 := fun μ => fEq_data (p := shapeP (wksB (ons - 1) (offs - 1) a)) (q := shapeP (wksB (ons - 1) (offs - 1) b)) rfl g1 g2 μ
  have hd : PyData.eqv (shapeP (wksB (ons - 1) (offs - 1) a)).pd (shapeP (wksB (ons - 1) (offs - 1) b)).pd = decide (sameF (wksB (ons - 1) (offs - 1) a) (wksB (ons - 1) (offs - 1) b)) := by
    rw [Bool.eq_iff_iff, hq, decide_eq_true_eq]; rfl
  rw [hd] at e3
  generalize shapeP (wksB (ons - 1) (offs - 1) a) = p1 at *
  generalize shapeP (wksB (ons - 1) (offs - 1) b) = p2 at *
  generalize pvs a = pa at *
  generalize pvs b = pb at *
  apply fn_pure0
  rw [run_ev]
  unfold b_alike_for
  simp [e1, e2, e3]
end Law
end
section
set_option autoImplicit false
/-! _law_signal: a drawn signal that keeps a promise, run. -/
namespace Law
open PySem PL
def IsSig (ons offs B : Int) (m : Mem) (p : PV) (m' : Mem) : Prop := ∃ (a : Nat) (x : Fl), p = .ref a ∧ m.length ≤ a ∧ m'[a]? = some (.lst ((eF x).map ER.pv)) ∧ x.2.length ≤ 10 ∧ FOk (4 + 20 * B) x ∧ Wd (ons - 1) (offs - 1) x
def sigEnv (j : Nat) (ons offs most : Int) (al q5 : Option PV) (t : Int) (A : Nat) (on off : Int) : PL.Env := [some (.ref j), some (.int ons), some (.int offs), some (.int most), al, q5, some (.int t), some (.ref A), some (.int on), some (.int off)]
def SigQ1 (j : Nat) (ons offs most B : Int) (q4 q5 : Option PV) (t : Int) (A : Nat) (on off : Int) (m : Mem) (e : PL.Env) (m6 : Mem) : Prop := ∃ (c : Bool) (G : List Int), e = sigEnv j ons offs most q4 q5 t A on off ∧ (jarF j).Go m m6 ∧ m6[A]? = some (.lst ((eF (c, G)).map ER.pv)) ∧ G.length ≤ 10 ∧ Wd (ons - 1) (offs - 1) (c, G) ∧ (∀ z ∈ G, -4 ≤ z ∧ z ≤ 4 + 20 * B) ∧ (G.length % 2 = if c then 1 else 0)
def SigQ2 (j : Nat) (ons offs most B : Int) (q4 q5 : Option PV) (t : Int) (A : Nat) (on off : Int) (m : Mem) (e : PL.Env) (m7 : Mem) : Prop := ∃ x : Fl, e = sigEnv j ons offs most q4 q5 t A on off ∧ (jarF j).Go m m7 ∧ m7[A]? = some (.lst ((eF x).map ER.pv)) ∧ x.2.length ≤ 10 ∧ Wd (ons - 1) (offs - 1) x ∧ (∀ z ∈ x.2, -4 ≤ z ∧ z ≤ 4 + 20 * B)
theorem law_signal_ev {j : Nat} (m : Mem) (hp : (jarF j).inv m) (ons offs most B : Int) (h1 : 1 ≤ ons ∧ ons ≤ B) (h2 : 1 ≤ offs ∧ offs ≤ B) (h3 : most ≤ B) (hB : B ≤ 10 ^ 62) :
    (m__law_signal [.ref j, .int ons, .int offs, .int most] m).sat fun p m' => IsSig ons offs B m p m' ∧ (jarF j).Go m m' := by
  have c62 : (10 : Int) ^ 62 = 100000000000000000000000000000000000000000000000000000000000000 := by decide
  have c100 : (10 : Int) ^ 100 = 10000000000000000000000000000000000000000000000000000000000000000000000000000000000000000000000000000 := by decide
  have c400 : (10 : Int) ^ 62 < 2 ^ 400 := by decide
  have hjl := (jarF j).lt m hp
  have hjt : (jarF j).top = j + 1 := rfl
  refine fn_sat ?_ ?_
  rotate_left
  · rintro p m' ⟨⟨a, x, rfl, h, _⟩, _⟩ _ hu
    simp [PV.under] at hu; omega
  apply run_sat
  unfold b__law_signal
  simp only [List.map_cons, List.map_nil, List.length_cons, List.length_nil, List.replicate, List.cons_append, List.nil_append, Nat.reduceAdd, Nat.reduceSub]
  obtain ⟨p, m1, e1, ⟨r1, rfl, r10, r11⟩, g1⟩ := rsat_ex (draw_ev m hp 9 (by decide))
  have l1 := g1.len
  have g1' : (jarF j).Go m (m1 ++ [.lst []]) := g1.app _
  obtain ⟨p, m2, e2, ⟨r2, rfl, r20, r21⟩, g2⟩ := rsat_ex (draw_ev (m1 ++ [.lst []]) g1'.i 3 (by decide))
  obtain ⟨p, m3, e3, ⟨r3, rfl, r30, r31⟩, g3⟩ := rsat_ex (draw_ev m2 g2.i most (by omega))
  obtain ⟨p, m4, e4, ⟨r4, rfl, r40, r41⟩, g4⟩ := rsat_ex (draw_ev m3 g3.i most (by omega))
  have g14 := ((g1'.trans g2).trans g3).trans g4
  have cA : m4[m1.length]? = some (.lst []) := ((g2.trans g3).trans g4).get (by simp) (by omega)
  refine seq_sat (fun e m' => m' = m1 ++ [.lst []] ∧ e = [some (.ref j), some (.int ons), some (.int offs), some (.int most), none, none, some (.int (r1 - 4)), some (.ref m1.length), none, none]) (by simp [e1]) ?_
  rintro e m' ⟨rfl, rfl⟩
  refine seq_sat (fun e m' => m' = m2 ∧ e = [some (.ref j), some (.int ons), some (.int offs), some (.int most), some (.bl (decide (r2 = 0))), none, some (.int (r1 - 4)), some (.ref m1.length), none, none]) (by simp [e2]) ?_
  rintro e m' ⟨rfl, rfl⟩
  refine seq_sat (fun e m' => m' = m4 ∧ e = sigEnv j ons offs most (some (.bl (decide (r2 = 0)))) none (r1 - 4) m1.length (ons + r3) (offs + r4)) (by simp [e3, e4, sigEnv]) ?_
  rintro e m' ⟨rfl, rfl⟩
  -- the ons
  refine seq_sat (fun e m5 => ∃ (F : List Int) (q5 : Option PV) (t on off : Int), e = sigEnv j ons offs most (some (.bl (decide (r2 = 0)))) q5 t m1.length on off ∧ (jarF j).Go m m5 ∧ m5[m1.length]? = some (.lst ((eL F).map ER.pv)) ∧ F.length % 2 = 0 ∧ F.length ≤ 10 ∧ alt (ons - 1) (offs - 1) F ∧ ∀ z ∈ F, -4 ≤ z ∧ z ≤ 4 + 20 * B) ?_ ?_
  · simp only [forS_ev]
    obtain ⟨p, m5, e5, ⟨r5, rfl, r50, r51⟩, g5⟩ := rsat_ex (draw_ev m' g4.i 6 (by decide))
    have hr : iRng1 (app m__law_draw (ac (v 0) (ac (c (.int 6)) an))) (sigEnv j ons offs most (some (.bl (decide (r2 = 0)))) none (r1 - 4) m1.length (ons + r3) (offs + r4)) m' = .ok ⟨(List.range r5.toNat).map (fun k : Nat => PV.int (0 + k)), []⟩ m5 := by
      simp [iRng1, big62, rangeL, sigEnv, e5]
      omega
    rw [hr]
    simp only [Out.of_ok]
    refine for_sat0 (fun k : Nat => PV.int (0 + k)) (List.range r5.toNat) (fun i e m5 => ∃ (F : List Int) (q5 : Option PV) (t on off : Int), e = sigEnv j ons offs most (some (.bl (decide (r2 = 0)))) q5 t m1.length on off ∧ (jarF j).Go m m5 ∧ m5[m1.length]? = some (.lst ((eL F).map ER.pv)) ∧ F.length = 2 * i ∧ alt (ons - 1) (offs - 1) F ∧ (∀ z ∈ F, -4 ≤ z ∧ z ≤ t) ∧ (∀ z, F.getLast? = some z → offs ≤ t - z) ∧ -4 ≤ t ∧ t ≤ 4 + i * (4 * B) ∧ ons ≤ on ∧ on ≤ 2 * B ∧ offs ≤ off ∧ off ≤ 2 * B) (fun _ _ _ _ => locked_nil _) ?_ ?_ ?_
    · exact ⟨[], none, r1 - 4, ons + r3, offs + r4, rfl, g14.trans g5, g5.get cA (by omega), rfl, trivial, by simp, by simp, by omega, by omega, by omega, by omega, by omega, by omega⟩
    · rintro i y e m5 hy ⟨F, q5, t, on, off, rfl, g, cF, hF, ha, hb, hl, t0, t1, o1, o2, o3, o4⟩
      have hi : i < r5.toNat := by have := (List.getElem?_eq_some_iff.mp hy).1; simpa using this
      have hy2 : (i : Int) ≤ 4 := by omega
      have hiB : (i : Int) * (4 * B) ≤ 4 * (4 * B) := Int.mul_le_mul_of_nonneg_right hy2 (by omega)
      have hiS : ((i + 1 : Nat) : Int) * (4 * B) = i * (4 * B) + 4 * B := by push_cast; rw [Int.add_mul]; omega
      simp only [turn_ev, tn_ev, Out.of_ok, sigEnv, List.set]
      refine seq_sat (fun e m6 => ∃ on off, e = sigEnv j ons offs most (some (.bl (decide (r2 = 0)))) (some (.int (0 + y))) t m1.length on off ∧ (jarF j).Go m m6 ∧ m6[m1.length]? = some (.lst ((eL F).map ER.pv)) ∧ ons ≤ on ∧ on ≤ 2 * B ∧ offs ≤ off ∧ off ≤ 2 * B) ?_ ?_
      · obtain ⟨p, m7, e7, ⟨r7, rfl, r70, r71⟩, g7⟩ := rsat_ex (draw_ev m5 g.i most (by omega))
        obtain ⟨p, m8, e8, ⟨r8, rfl, r80, r81⟩, g8⟩ := rsat_ex (draw_ev m7 g7.i most (by omega))
        have c8 := g8.get (g7.get cF (by omega)) (by omega)
        by_cases hc : r2 = 0
        · simp [hc]
          exact ⟨on, off, rfl, g, cF, o1, o2, o3, o4⟩
        · simp [hc, e7, e8]
          exact ⟨_, _, rfl, (g.trans g7).trans g8, c8, by omega, by omega, by omega, by omega⟩
      rintro e m6 ⟨on, off, rfl, g', cF', o1, o2, o3, o4⟩
      have hz := eL_len F
      have hz2 : (eL F).length < 16777216 := by omega
      have h2 := eL_two F t (t + on) (by omega)
      have hs := g'.set (by omega) (k := m1.length) l1 (.lst ((eL (F ++ [t, t + on])).map ER.pv))
      have hs2 : (m6.set m1.length (.lst ((eL (F ++ [t, t + on])).map ER.pv)))[m1.length]? = some (.lst ((eL (F ++ [t, t + on])).map ER.pv)) := get_set_same cF'
      have hm : (eL (F ++ [t, t + on])).map ER.pv = (eL F).map ER.pv ++ [PV.tup [.int t, .int (t + on)]] := by rw [h2]; simp [ER.pv, opt]
      have fin : (F ++ [t, t + on]).length = 2 * (i + 1) ∧ alt (ons - 1) (offs - 1) (F ++ [t, t + on]) ∧ (∀ z ∈ F ++ [t, t + on], -4 ≤ z ∧ z ≤ t + on + off) ∧ (∀ z, (F ++ [t, t + on]).getLast? = some z → offs ≤ t + on + off - z) := by
        refine ⟨by simp; omega, alt_two F t (t + on) (by omega) ha (fun z hz => by have := hl z hz; omega) (by omega), ?_, ?_⟩
        · intro z hz
          rcases List.mem_append.mp hz with hz | hz
          · have := hb z hz; omega
          · simp at hz; omega
        · intro z hz
          simp at hz; omega
      rw [hm] at hs hs2
      simp [sigEnv, cF', hz2]
      refine ⟨F ++ [t, t + on], some (.int y), t + on + off, on, off, ⟨rfl, rfl, rfl, rfl⟩, hs, ?_, fin.1, fin.2.1, fin.2.2.1, fin.2.2.2, by omega, ?_, o1, o2, o3, o4⟩
      · rw [hm] <;> exact hs2
      · simp at hiS; omega
    · rintro e m6 ⟨F, q5, t, on, off, rfl, g, cF, hF, ha, hb, hl, t0, t1, o1, o2, o3, o4⟩
      simp at hF t1
      have hiB : ((r5.toNat : Nat) : Int) * (4 * B) ≤ 5 * (4 * B) := Int.mul_le_mul_of_nonneg_right (by omega) (by omega)
      rw [Int.max_eq_left r50] at t1
      have hre : ((r5.toNat : Nat) : Int) = r5 := by omega
      rw [hre] at hiB
      exact ⟨F, q5, t, on, off, rfl, g, cF, by omega, by omega, ha, fun z hz => by have := hb z hz; omega⟩
  rintro e m5 ⟨F, q5, t, on, off, rfl, g, cF, hev, hl10, ha, hb⟩
  have hBig : Big (4 + 20 * B) := ⟨by omega, by rw [c62] at hB; rw [c100]; omega⟩
  have hsmX : ∀ x : Fl, Wd (ons - 1) (offs - 1) x → (∀ z ∈ x.2, -4 ≤ z ∧ z ≤ 4 + 20 * B) → FOk (4 + 20 * B) x := fun x hw hb => ⟨Wd_mono hw (by omega) (by omega), fun z hz => by have := hb z hz; omega⟩
  -- the first one
  refine seq_sat (SigQ1 j ons offs most B (some (.bl (decide (r2 = 0)))) q5 t m1.length on off m) ?_ ?_
  · have hsm := smallF' (by omega) (hsmX (false, F) ha hb)
    have en := ers_ne hBig hsm (μ := m5 ++ [.lst []]) (a := m1.length) (n := m5.length) (get_some cF) (by simp)
    obtain ⟨p, m6, e6, ⟨r6, rfl, r60, r61⟩, g6⟩ := rsat_ex (draw_ev (m5 ++ [.lst []]) (g.app _).i 3 (by decide))
    have c6 := g6.get (get_some (l := [PO.lst []]) cF) (by omega)
    have g6' := (g.app [.lst []]).trans g6
    match F, hev with
    | [], _ =>
      simp [eF, eL] at en
      simp [sigEnv, en]
      exact ⟨false, [], rfl, g.app _, by simpa [eF, eL] using (get_some (l := [PO.lst []]) cF), by simp, trivial, by simp, by simp⟩
    | [a], h => simp at h
    | a :: b :: F', hev =>
      have hE : (eF (false, a :: b :: F')).isEmpty = false := rfl
      rw [hE] at en
      by_cases hr : r6 = 0
      · have gs := g6'.set (by omega) (k := m1.length) l1 (.lst ((eF (true, b :: F')).map ER.pv))
        have gs2 : (m6.set m1.length (.lst ((eF (true, b :: F')).map ER.pv)))[m1.length]? = some (.lst ((eF (true, b :: F')).map ER.pv)) := get_set_same c6
        have i1 : ∀ μ, fIx [ER.pv (some a, some b), .int 1] μ = .ok (.int b) μ := fun μ => rfl
        have hm2 : (eF (true, b :: F')).map ER.pv = PV.tup [.non, .int b] :: (eL F').map ER.pv := rfl
        have hm3 : (eL (a :: b :: F')).map ER.pv = ER.pv (some a, some b) :: (eL F').map ER.pv := rfl
        rw [hm3] at c6
        rw [hm2] at gs gs2
        generalize (eL F').map ER.pv = pl at *
        have ix0 : ixN (pl.length + 1) 0 = some 0 := by unfold ixN; simp
        simp [sigEnv, en, e6, hr, c6, i1, ix0]
        exact ⟨true, b :: F', rfl, gs, by rw [hm2]; exact gs2, by simp at hl10 ⊢; omega, alt_tail ha, fun z hz => hb z (List.mem_cons_of_mem _ hz), by simp at hev ⊢; omega⟩
      · simp [sigEnv, en, e6, hr]
        exact ⟨false, a :: b :: F', rfl, g6', c6, hl10, ha, hb, by simpa using hev⟩
  rintro e m6 ⟨c, G, rfl, g6, c6, hGl, hGw, hGb, hGe⟩
  -- the last one
  refine seq_sat (SigQ2 j ons offs most B (some (.bl (decide (r2 = 0)))) q5 t m1.length on off m) ?_ ?_
  · have hsm := smallF' (by omega) (hsmX (c, G) hGw hGb)
    have en := ers_ne hBig hsm (μ := m6 ++ [.lst []]) (a := m1.length) (n := m6.length) (get_some c6) (by simp)
    obtain ⟨p, m7, e7, ⟨r7, rfl, r70, r71⟩, g7⟩ := rsat_ex (draw_ev (m6 ++ [.lst []]) (g6.app _).i 3 (by decide))
    have c7 := g7.get (get_some (l := [PO.lst []]) c6) (by omega)
    have g7' := (g6.app [.lst []]).trans g7
    rcases List.eq_nil_or_concat G with rfl | ⟨G', z, rfl⟩
    · cases c
      · simp [eF, eL] at en
        simp [sigEnv, en]
        exact ⟨(false, []), rfl, g6.app _, by simpa [eF, eL] using (get_some (l := [PO.lst []]) c6), by simp, trivial, by simp⟩
      · simp at hGe
    · rw [List.concat_eq_append] at *
      obtain ⟨L', o, hL1, hL2⟩ := eF_last c G' z (by cases c <;> simp at hGe ⊢ <;> omega)
      have hE : (eF (c, G' ++ [z])).isEmpty = false := by rw [hL1]; simp
      rw [hE] at en
      have hw2 : Wd (ons - 1) (offs - 1) (c, G') := by
        cases c
        · have := @alt_drop1 (ons - 1) (offs - 1) (G' ++ [z]) hGw
          rw [List.dropLast_concat] at this
          exact this
        · have := @alt_drop1 (offs - 1) (ons - 1) (G' ++ [z]) hGw
          rw [List.dropLast_concat] at this
          exact this
      by_cases hr : r7 = 0
      · have gs := g7'.set (by omega) (k := m1.length) l1 (.lst ((eF (c, G')).map ER.pv))
        have gs2 : (m7.set m1.length (.lst ((eF (c, G')).map ER.pv)))[m1.length]? = some (.lst ((eF (c, G')).map ER.pv)) := get_set_same c7
        have i0 : ∀ μ, fIx [ER.pv (o, some z), .int 0] μ = .ok (opt o) μ := fun μ => rfl
        have hm2 : (eF (c, G')).map ER.pv = L'.map ER.pv ++ [PV.tup [opt o, .non]] := by rw [hL2]; simp [ER.pv, opt]
        have hm3 : (eF (c, G' ++ [z])).map ER.pv = L'.map ER.pv ++ [ER.pv (o, some z)] := by rw [hL1]; simp
        rw [hm3] at c7
        rw [hm2] at gs gs2
        generalize L'.map ER.pv = pl at *
        simp [sigEnv, en, e7, hr, c7, i0]
        exact ⟨(c, G'), rfl, gs, by rw [hm2]; exact gs2, by simp at hGl ⊢; omega, hw2, fun y hy => hGb y (List.mem_append_left _ hy)⟩
      · simp [sigEnv, en, e7, hr]
        exact ⟨(c, G' ++ [z]), rfl, g7', c7, hGl, hGw, hGb⟩
  rintro e m7 ⟨x, rfl, g7, c7, hxl, hxw, hxb⟩
  simp [sigEnv]
  exact ⟨⟨m1.length, x, rfl, l1, c7, hxl, hsmX x hxw hxb, hxw⟩, g7⟩
end Law
end
section
set_option autoImplicit false
namespace Law
open PySem PL
def En (j : Nat) (q2 q3 q4 q5 q6 q7 q8 q9 q10 q11 q12 : Option PV) : PL.Env := [some (.ref 0), some (.ref j), q2, q3, q4, q5, q6, q7, q8, q9, q10, q11, q12]
def HasEn (j : Nat) (e : PL.Env) : Prop := ∃ q2 q3 q4 q5 q6 q7 q8 q9 q10 q11 q12, e = En j q2 q3 q4 q5 q6 q7 q8 q9 q10 q11 q12
theorem IsPair.tr {p : PV} (h : IsPair p) : ∃ a b, p = .tup [pvs a, pvs b] ∧ (Tr1 a ∧ ∀ x ∈ a, x.ok 4) ∧ Tr1 b ∧ ∀ x ∈ b, x.ok 4 := by
  obtain ⟨a, b, e, h1, h2, h3, h4⟩ := h
  exact ⟨a, b, e, ⟨⟨by omega, fun x hx => ok_mono (h3 x hx) (by decide)⟩, h3⟩, ⟨by omega, fun x hx => ok_mono (h4 x hx) (by decide)⟩, h4⟩
theorem within_more {p q p' q' : Int} (hp : 0 ≤ p) (hq : 0 ≤ q) (h1 : p ≤ p') (h2 : q ≤ q') {a b : List Part} (ha : ∀ x ∈ a, 0 ≤ x.num) (hb : ∀ x ∈ b, 0 ≤ x.num) (h : WithinW (wksB p q a) (wksB p q b)) : WithinW (wksB p' q' a) (wksB p' q' b) := by
  have e1 : p' + 1 - 1 = p' := by omega
  have e2 : q' + 1 - 1 = q' := by omega
  have hw := within_trials (ons := p' + 1) (offs := q' + 1) (most := max 0 (max (tkS a) (tkS b))) (by omega) (by omega) (by omega) ha hb (by omega) (by omega)
  rw [e1, e2] at hw
  refine hw.mp fun x hx => ?_
  have := (trials_ok (by omega) (by omega) (by omega) hx).1
  exact fans_leB hp hq ha hb h (Wd_mono this (by omega) (by omega))
theorem law_pure (ns : List Int) (hn : ns.length ≤ 63) (_ : ∀ z ∈ ns, Builtin.Int.intBits z ≤ 1048576) : ∃ μ', m_law [.ref 0] [.ro (ns.map PV.int)] = .ok (.bl true) μ' := by
  have key : (run 13 b_law [.ref 0] [.ro (ns.map PV.int)]).sat fun p _ => p = .bl true := by
    apply run_sat
    unfold b_law
    simp only [List.map_cons, List.map_nil, List.length_cons, List.length_nil, List.replicate, List.cons_append, List.nil_append, Nat.reduceAdd, Nat.reduceSub]
    obtain ⟨p, m1, e1, j, rfl, hj, hinv, hx⟩ := rsat_ex (jar_ev [.ro (ns.map PV.int)] 0 ns (.inl (by simp)) (by omega))
    refine seq_sat (fun e m => m = m1 ∧ e = En j none none none none none none none none none none none) ?_ ?_
    · simp [En, e1]
    rintro e m ⟨rfl, rfl⟩
    refine seq_sat (fun e m => True) ?_ (by rintro e m -; simp)
    simp only [forS_ev]
    have hrng : iRng1 (c (.int 3)) (En j none none none none none none none none none none none) m = .ok ⟨(List.range 3).map (fun k : Nat => PV.int (0 + k)), []⟩ m := by
      simp [iRng1, big62, rangeL]
    rw [hrng]
    simp only [Out.of_ok]
    refine for_sat0 (fun k : Nat => PV.int (0 + k)) (List.range 3) (fun _ e m => (jarF j).inv m ∧ HasEn j e) (fun _ _ _ _ => locked_nil _) ⟨hinv, none, none, none, none, none, none, none, none, none, none, none, rfl⟩ ?_ (fun e m h => trivial)
    rintro i y e m0 hy ⟨hp, q2, q3, q4, q5, q6, q7, q8, q9, q10, q11, q12, rfl⟩
    simp only [turn_ev, tn_ev, Out.of_ok, En, List.set]
    obtain ⟨p, m1, e1, hq, g1⟩ := rsat_ex (pair_ev m0 hp)
    obtain ⟨a0, b0, rfl, _, _⟩ := hq.tr
    refine seq_sat (fun e m' => m' = m1 ∧ e = En j (some (.int (0 + y))) q3 q4 q5 (some (pvs a0)) (some (pvs b0)) q8 q9 q10 q11 q12) ?_ ?_
    · generalize pvs a0 = pa at *
      generalize pvs b0 = pb at *
      simp [En, e1]
    rintro e m' ⟨rfl, rfl⟩
    obtain ⟨p, m2, e2, ⟨r, rfl, r0, r1⟩, g2⟩ := rsat_ex (draw_ev m' g1.i 4 (by omega))
    refine seq_sat (fun e m' => (jarF j).Go m0 m' ∧ ∃ a b, (Tr1 a ∧ ∀ x ∈ a, x.ok 4) ∧ (Tr1 b ∧ ∀ x ∈ b, x.ok 4) ∧ e = En j (some (.int (0 + y))) q3 q4 q5 (some (pvs a)) (some (pvs b)) q8 q9 q10 q11 q12) ?_ ?_
    · obtain ⟨a0', b0', e0, ta, tb⟩ := hq.tr
      obtain ⟨p, m3, e3, hq3, g3⟩ := rsat_ex (swapped_ev m2 g2.i)
      obtain ⟨a1, b1, rfl, ta1, tb1⟩ := hq3.tr
      have eqs : pvs a0 = pvs a0' ∧ pvs b0 = pvs b0' := by simpa using e0
      rw [eqs.1, eqs.2]
      by_cases c0 : r = 0
      · subst c0
        have fin : (jarF j).Go m0 m3 ∧ ∃ a b, (Tr1 a ∧ ∀ x ∈ a, x.ok 4) ∧ (Tr1 b ∧ ∀ x ∈ b, x.ok 4) ∧ [some (PV.ref 0), some (PV.ref j), some (PV.int (0 + y)), q3, q4, q5, some (pvs a1), some (pvs b1), q8, q9, q10, q11, q12] = En j (some (.int (0 + y))) q3 q4 q5 (some (pvs a)) (some (pvs b)) q8 q9 q10 q11 q12 := ⟨(g1.trans g2).trans g3, a1, b1, ta1, tb1, rfl⟩
        generalize pvs a1 = pa1 at *
        generalize pvs b1 = pb1 at *
        generalize pvs a0' = pa at *
        generalize pvs b0' = pb at *
        simp [En, e2, e3] at fin ⊢
        exact fin
      · have fin : (jarF j).Go m0 m2 ∧ ∃ a b, (Tr1 a ∧ ∀ x ∈ a, x.ok 4) ∧ (Tr1 b ∧ ∀ x ∈ b, x.ok 4) ∧ [some (PV.ref 0), some (PV.ref j), some (PV.int (0 + y)), q3, q4, q5, some (pvs a0'), some (pvs b0'), q8, q9, q10, q11, q12] = En j (some (.int (0 + y))) q3 q4 q5 (some (pvs a)) (some (pvs b)) q8 q9 q10 q11 q12 := ⟨g1.trans g2, a0', b0', ta, tb, rfl⟩
        generalize pvs a0' = pa at *
        generalize pvs b0' = pb at *
        simp [En, e2, c0] at fin ⊢
        exact fin
    rintro e m3 ⟨g3, a, b, ⟨ta, oa⟩, ⟨tb, ob⟩, rfl⟩
    clear e1 e2 hq
    obtain ⟨p, m4, e4, ⟨s, rfl, s0, s1⟩, g4⟩ := rsat_ex (draw_ev m3 g3.i 4 (by omega))
    obtain ⟨p, m5, e5, ⟨t, rfl, t0, t1⟩, g5⟩ := rsat_ex (draw_ev m4 g4.i 4 (by omega))
    have g35 := (g3.trans g4).trans g5
    obtain ⟨ons, hons⟩ : ∃ z, z = 1 + s := ⟨_, rfl⟩
    obtain ⟨offs, hoffs⟩ : ∃ z, z = 1 + t := ⟨_, rfl⟩
    refine seq_sat (fun e m' => m' = m5 ∧ e = En j (some (.int (0 + y))) q3 q4 q5 (some (pvs a)) (some (pvs b)) (some (.int ons)) (some (.int offs)) q10 q11 q12) ?_ ?_
    · generalize pvs a = pa at *
      generalize pvs b = pb at *
      simp [En, e4, e5, hons, hoffs]
    rintro e m6 ⟨rfl, rfl⟩
    have h1 : 1 ≤ ons ∧ ons ≤ 5 := by omega
    have h2 : 1 ≤ offs ∧ offs ≤ 5 := by omega
    have p0 : 0 ≤ ons - 1 := by omega
    have q0 : 0 ≤ offs - 1 := by omega
    open Classical in
    obtain ⟨d, hd⟩ : ∃ d : Bool, d = decide (WithinW (wksB (ons - 1) (offs - 1) a) (wksB (ons - 1) (offs - 1) b)) := ⟨_, rfl⟩
    open Classical in
    obtain ⟨d2, hd2⟩ : ∃ d : Bool, d = decide (WithinW (wksB (ons - 1) (offs - 1) b) (wksB (ons - 1) (offs - 1) a)) := ⟨_, rfl⟩
    have hd' : d = true ↔ WithinW (wksB (ons - 1) (offs - 1) a) (wksB (ons - 1) (offs - 1) b) := by rw [hd]; simp
    have hd2' : d2 = true ↔ WithinW (wksB (ons - 1) (offs - 1) b) (wksB (ons - 1) (offs - 1) a) := by rw [hd2]; simp
    have al0 := fun μ => is_within_ev ta tb (ons := ons) (offs := offs) ⟨h1.1, by omega⟩ ⟨h2.1, by omega⟩ μ hd'
    have al0' := fun μ => is_within_ev tb ta (ons := ons) (offs := offs) ⟨h1.1, by omega⟩ ⟨h2.1, by omega⟩ μ hd2'
    have al1 := fun μ => within_for_ev ta.fit tb.fit ons offs h1.1 h2.1 hd' μ
    have al2 := fun μ => within_for_ev tb.fit ta.fit ons offs h1.1 h2.1 hd2' μ
    have al3 : ∀ μ, m_alike_for [pvs a, pvs b, .int ons, .int offs] μ = .ok (.bl (d && d2)) μ := fun μ => by
      rw [alike_for_ev ta.fit tb.fit ons offs h1.1 h2.1]
      congr 2
      rw [Bool.eq_iff_iff, Bool.and_eq_true, hd', hd2', decide_eq_true_eq, low_sameW (pf_row p0 q0 ta.pos).vl (pf_row p0 q0 tb.pos).vl]
      rfl
    have ga : Good 301 (pvs a) := (pvs_good (B := 4) (by decide) oa).mono (by have := ta.len; omega)
    have gb : Good 301 (pvs b) := (pvs_good (B := 4) (by decide) ob).mono (by have := tb.len; omega)
    have gg : Goods 7000 [pvs a, pvs b] := (Goods.cons ga (Goods.cons gb Goods.nil)).mono (by decide)
    have rr := fun (μ : Mem) n h => repr_goods (μ := μ) (n := n) (l := [pvs a, pvs b]) h gg
    have rb := fun (bb : Bool) (μ : Mem) => repr_good (p := .bl bb) (μ := μ) ((Good.bl bb).mono (by decide))
    obtain ⟨kept, hkept⟩ : ∃ s, s = (PyData.list (PV.pds [pvs a, pvs b])).shown := ⟨_, rfl⟩
    rw [← hkept] at rr
    have r1 := rr (m6 ++ [.lst [pvs a, pvs b]]) m6.length (by simp)
    refine seq_sat (fun e m' => (∃ l, m' = m6 ++ l) ∧ e = En j (some (.int (0 + y))) q3 q4 q5 (some (pvs a)) (some (pvs b)) (some (.int ons)) (some (.int offs)) (some (.bl d)) (some (.str kept)) q12) ?_ ?_
    · generalize pvs a = pa at *
      generalize pvs b = pb at *
      simp [En, al0, r1]
    rintro e m7 ⟨⟨l7, rfl⟩, rfl⟩
    have g7 := g35.app l7
    generalize m6 ++ l7 = m7 at *
    have pm : ∀ p q r s : PV, perm [3, 2, 1, 0] [p, q, r, s] = [s, r, q, p] := fun _ _ _ _ => rfl
    refine seq_sat (fun e m' => m' = m7 ∧ e = En j (some (.int (0 + y))) (some (.bl d)) q4 q5 (some (pvs a)) (some (pvs b)) (some (.int ons)) (some (.int offs)) (some (.bl d)) (some (.str kept)) q12) ?_ ?_
    · generalize pvs a = pa at *
      generalize pvs b = pb at *
      by_cases c : y = 1
      · subst c; simp [En, al1, pm]
      · have : ¬ ((y : Int) = 1) := by omega
        simp [En, al1, this]
    rintro e m8 ⟨rfl, rfl⟩
    have r2 := rr (m8 ++ [.lst [pvs a, pvs b]]) m8.length (by simp)
    refine seq_sat (fun e m' => (∃ l, m' = m8 ++ l) ∧ e = En j (some (.int (0 + y))) (some (.bl d)) q4 q5 (some (pvs a)) (some (pvs b)) (some (.int ons)) (some (.int offs)) (some (.bl d)) (some (.str kept)) q12) ?_ ?_
    · generalize pvs a = pa at *
      generalize pvs b = pb at *
      simp [En, rb, r2]
    rintro e m9 ⟨⟨l9, rfl⟩, rfl⟩
    have g9 := g7.app l9
    generalize m8 ++ l9 = m9 at *
    refine seq_sat (fun e m' => m' = m9 ∧ e = En j (some (.int (0 + y))) (some (.bl d)) (some (.bl d2)) q5 (some (pvs a)) (some (pvs b)) (some (.int ons)) (some (.int offs)) (some (.bl d)) (some (.str kept)) q12) ?_ ?_
    · generalize pvs a = pa at *
      generalize pvs b = pb at *
      simp [En, al2]
    rintro e m10 ⟨rfl, rfl⟩
    refine seq_sat (fun e m' => m' = m10 ∧ e = En j (some (.int (0 + y))) (some (.bl d)) (some (.bl d2)) q5 (some (pvs a)) (some (pvs b)) (some (.int ons)) (some (.int offs)) (some (.bl d)) (some (.str kept)) q12) ?_ ?_
    · generalize pvs a = pa at *
      generalize pvs b = pb at *
      simp [En, al0', rb]
    rintro e m11 ⟨rfl, rfl⟩
    refine seq_sat (fun e m' => m' = m11 ∧ e = En j (some (.int (0 + y))) (some (.bl d)) (some (.bl d2)) q5 (some (pvs a)) (some (pvs b)) (some (.int ons)) (some (.int offs)) (some (.bl d)) (some (.str kept)) q12) ?_ ?_
    · generalize pvs a = pa at *
      generalize pvs b = pb at *
      cases d <;> cases d2 <;> simp at al3 <;> simp [En, al3, rb]
    rintro e m12 ⟨rfl, rfl⟩
    -- drawn signals
    refine seq_sat (fun e m' => (jarF j).Go m0 m' ∧ ∃ q5 q12, e = En j (some (.int (0 + y))) (some (.bl d)) (some (.bl d2)) q5 (some (pvs a)) (some (pvs b)) (some (.int ons)) (some (.int offs)) (some (.bl d)) (some (.str kept)) q12) ?_ ?_
    · simp only [forS_ev]
      have hr : iRng1 (PL.ite (v 10) (c (.int 5)) (c (.int 0))) (En j (some (.int (0 + y))) (some (.bl d)) (some (.bl d2)) q5 (some (pvs a)) (some (pvs b)) (some (.int ons)) (some (.int offs)) (some (.bl d)) (some (.str kept)) q12) m12 = .ok ⟨(List.range (if d then 5 else 0)).map (fun k : Nat => PV.int (0 + k)), []⟩ m12 := by
        generalize pvs a = pa at *
        generalize pvs b = pb at *
        cases d <;> simp [iRng1, big62, rangeL, En]
      rw [hr]
      simp only [Out.of_ok]
      refine for_sat0 (fun k : Nat => PV.int (0 + k)) (List.range (if d then 5 else 0)) (fun _ e m' => (jarF j).Go m0 m' ∧ ∃ q5 q12, e = En j (some (.int (0 + y))) (some (.bl d)) (some (.bl d2)) q5 (some (pvs a)) (some (pvs b)) (some (.int ons)) (some (.int offs)) (some (.bl d)) (some (.str kept)) q12) (fun _ _ _ _ => locked_nil _) ⟨g9, q5, q12, rfl⟩ ?_ (fun e m h => h)
      rintro i2 z e m13 hz ⟨g13, q5, q12, rfl⟩
      have hdt : d = true := by
        cases hdd : d
        · rw [hdd] at hz; simp at hz
        · rfl
      simp only [turn_ev, tn_ev, Out.of_ok, En, List.set]
      obtain ⟨p, m14, e14, hs, g14⟩ := rsat_ex (law_signal_ev m13 g13.i ons offs 5 5 h1 h2 (by decide) (by decide))
      obtain ⟨k, x, rfl, hk, hc, xl, xo, xw⟩ := hs
      have g014 := g13.trans g14
      refine seq_sat (fun e m' => m' = m14 ∧ e = En j (some (.int (0 + y))) (some (.bl d)) (some (.bl d2)) (some (.int (0 + z))) (some (pvs a)) (some (pvs b)) (some (.int ons)) (some (.int offs)) (some (.bl d)) (some (.str kept)) (some (.ref k))) ?_ ?_
      · generalize pvs a = pa at *
        generalize pvs b = pb at *
        simp [En, e14]
      rintro e m15 ⟨rfl, rfl⟩
      have M0 : (0 : Int) ≤ 4 + 20 * 5 ∧ (4 + 20 * 5 : Int) ≤ 10 ^ 90 := ⟨by decide, by decide⟩
      obtain ⟨p, m16, e16, k2, rfl, w0, w1, w2⟩ := rsat_ex (led1 ta M0 xo (by omega) k m15 hc)
      obtain ⟨p, m17, e17, k3, rfl, u0, u1, u2⟩ := rsat_ex (led1 tb M0 xo (by omega) k m16 (w2.get hc))
      have o1 := ta.out M0 xo
      have o2 := tb.out M0 xo
      have cm := is_in_ev (u2.get w1) u1
      rw [(isIn_iff o1.wd o2.wd).mpr (fans_leB p0 q0 ta.pos tb.pos (hd'.mp hdt) xw)] at cm
      have gx : (jarF j).Go m0 m17 := (g014.ext w2).ext u2
      generalize pvs a = pa at *
      generalize pvs b = pb at *
      simp [En, e16, e17, cm]
      exact gx
    rintro e m13 ⟨g13, q5, q12, rfl⟩
    cases hdd : d
    · have gE := g13.i
      generalize pvs a = pa at *
      generalize pvs b = pb at *
      simp [En]
      exact ⟨gE, _, _, _, _, _, _, _, _, _, _, _, rfl⟩
    · obtain ⟨p, m14, e14, ⟨u, rfl, u0, u1⟩, g14⟩ := rsat_ex (draw_ev m13 g13.i 3 (by omega))
      obtain ⟨p, m15, e15, ⟨w, rfl, w0, w1⟩, g15⟩ := rsat_ex (draw_ev m14 g14.i 3 (by omega))
      have hm := within_more p0 q0 (p' := ons + u - 1) (q' := offs + w - 1) (by omega) (by omega) ta.pos tb.pos (hd'.mp hdd)
      have fin := fun μ => within_for_ev ta.fit tb.fit (ons + u) (offs + w) (by omega) (by omega) (d := true) ⟨fun _ => hm, fun _ => rfl⟩ μ
      have gE := ((g13.trans g14).trans g15).i
      generalize pvs a = pa at *
      generalize pvs b = pb at *
      simp [En, e14, e15, fin, fNotB]
      exact ⟨gE, _, _, _, _, _, _, _, _, _, _, _, rfl⟩
  obtain ⟨p, m, e, rfl⟩ := rsat_ex key
  unfold m_law
  rw [fn_ev, e]
  unfold gc
  simp only
  split
  · exact ⟨_, rfl⟩
  · exact ⟨_, rfl⟩
end Law
end
section
set_option Elab.async false
open PySem PySem.W PyProof.Rows
set_option maxRecDepth 100000 in
set_option maxHeartbeats 0 in
theorem PySem.Challenge.cw_latewires_k34_whole_within_for_promised_holds : PySem.Challenge.rw_latewires_k34_whole_within_for_promised.Holds := by
  w_on; o_law; k_head; (case hw => w_witness2)
  k_fill
  refine PL.walkP (l := PySem.Challenge.rw_latewires_k34_whole_within_for_promised) (n := 63) (k := 8) (x := "script") (st := Law.s_law) (m := Law.m_law) rfl (by decide) rfl ⟨rfl, by decide, by decide⟩ (fun w h Y => PySem.W.kIn_of Y) Law.bd_law ?F Law.law_pure
  case F =>
    intro w mg h base KX G Kb Gb
    refine' Law.all_mk KX G ?z_abs ?z_enumerate ?z_int ?z_len ?z_max ?z_min ?z_range ?z_repr ?z_sum ?z_tuple ?z_zip ?y_DROP ?y_FILL ?y_TURN ?a_ticks_up ?l_ticks_up ?c_ticks_up ?k_ticks_up ?a_moves ?l_moves ?c_moves ?k_moves ?a_heights ?l_heights ?c_heights ?k_heights ?a_with_stage ?l_with_stage ?c_with_stage ?k_with_stage ?a_stages_beyond ?l_stages_beyond ?c_stages_beyond ?k_stages_beyond ?a_form_beyond ?l_form_beyond ?c_form_beyond ?k_form_beyond ?a_form_for ?l_form_for ?c_form_for ?k_form_for ?a_alike_for ?l_alike_for ?c_alike_for ?k_alike_for ?a_most_of ?l_most_of ?c_most_of ?k_most_of ?a_ahead_of ?l_ahead_of ?c_ahead_of ?k_ahead_of ?a_filled_ahead ?l_filled_ahead ?c_filled_ahead ?k_filled_ahead ?a_dropped_ahead ?l_dropped_ahead ?c_dropped_ahead ?k_dropped_ahead ?a_bounds_in ?l_bounds_in ?c_bounds_in ?k_bounds_in ?a_is_low ?l_is_low ?c_is_low ?k_is_low ?a_cores_within ?l_cores_within ?c_cores_within ?k_cores_within ?a_forms_within ?l_forms_within ?c_forms_within ?k_forms_within ?a_within_for ?l_within_for ?c_within_for ?k_within_for ?a__law_jar ?l__law_jar ?c__law_jar ?k__law_jar ?a__law_draw ?l__law_draw ?c__law_draw ?k__law_draw ?a__law_turned ?l__law_turned ?c__law_turned ?k__law_turned ?a__law_part ?l__law_part ?c__law_part ?k__law_part ?a__law_led ?l__law_led ?c__law_led ?k__law_led ?a__law_signal ?l__law_signal ?c__law_signal ?k__law_signal ?a__law_is_in ?l__law_is_in ?c__law_is_in ?k__law_is_in ?a__law_ticks ?l__law_ticks ?c__law_ticks ?k__law_ticks ?a__law_trials ?l__law_trials ?c__law_trials ?k__law_trials ?a__law_is_within ?l__law_is_within ?c__law_is_within ?k__law_is_within ?a__law_pick ?l__law_pick ?c__law_pick ?k__law_pick ?a__law_row ?l__law_row ?c__law_row ?k__law_row ?a__law_near ?l__law_near ?c__law_near ?k__law_near ?a__law_pair ?l__law_pair ?c__law_pair ?k__law_pair ?a__law_swapped ?l__law_swapped ?c__law_swapped ?k__law_swapped ?a_law ?l_law ?c_law ?k_law
    (case z_abs => k_is)
    (case z_enumerate => k_is)
    (case z_int => k_is)
    (case z_len => k_is)
    (case z_max => k_is)
    (case z_min => k_is)
    (case z_range => k_is)
    (case z_repr => k_is)
    (case z_sum => k_is)
    (case z_tuple => k_is)
    (case z_zip => k_is)
    (case y_DROP => k_is)
    (case y_FILL => k_is)
    (case y_TURN => k_is)
    (case a_ticks_up => k_is)
    (case l_ticks_up => k_is)
    (case c_ticks_up => k_is)
    (case k_ticks_up => k_is)
    (case a_moves => k_is)
    (case l_moves => k_is)
    (case c_moves => k_is)
    (case k_moves => k_is)
    (case a_heights => k_is)
    (case l_heights => k_is)
    (case c_heights => k_is)
    (case k_heights => k_is)
    (case a_with_stage => k_is)
    (case l_with_stage => k_is)
    (case c_with_stage => k_is)
    (case k_with_stage => k_is)
    (case a_stages_beyond => k_is)
    (case l_stages_beyond => k_is)
    (case c_stages_beyond => k_is)
    (case k_stages_beyond => k_is)
    (case a_form_beyond => k_is)
    (case l_form_beyond => k_is)
    (case c_form_beyond => k_is)
    (case k_form_beyond => k_is)
    (case a_form_for => k_is)
    (case l_form_for => k_is)
    (case c_form_for => k_is)
    (case k_form_for => k_is)
    (case a_alike_for => k_is)
    (case l_alike_for => k_is)
    (case c_alike_for => k_is)
    (case k_alike_for => k_is)
    (case a_most_of => k_is)
    (case l_most_of => k_is)
    (case c_most_of => k_is)
    (case k_most_of => k_is)
    (case a_ahead_of => k_is)
    (case l_ahead_of => k_is)
    (case c_ahead_of => k_is)
    (case k_ahead_of => k_is)
    (case a_filled_ahead => k_is)
    (case l_filled_ahead => k_is)
    (case c_filled_ahead => k_is)
    (case k_filled_ahead => k_is)
    (case a_dropped_ahead => k_is)
    (case l_dropped_ahead => k_is)
    (case c_dropped_ahead => k_is)
    (case k_dropped_ahead => k_is)
    (case a_bounds_in => k_is)
    (case l_bounds_in => k_is)
    (case c_bounds_in => k_is)
    (case k_bounds_in => k_is)
    (case a_is_low => k_is)
    (case l_is_low => k_is)
    (case c_is_low => k_is)
    (case k_is_low => k_is)
    (case a_cores_within => k_is)
    (case l_cores_within => k_is)
    (case c_cores_within => k_is)
    (case k_cores_within => k_is)
    (case a_forms_within => k_is)
    (case l_forms_within => k_is)
    (case c_forms_within => k_is)
    (case k_forms_within => k_is)
    (case a_within_for => k_is)
    (case l_within_for => k_is)
    (case c_within_for => k_is)
    (case k_within_for => k_is)
    (case a__law_jar => k_is)
    (case l__law_jar => k_is)
    (case c__law_jar => k_is)
    (case k__law_jar => k_is)
    (case a__law_draw => k_is)
    (case l__law_draw => k_is)
    (case c__law_draw => k_is)
    (case k__law_draw => k_is)
    (case a__law_turned => k_is)
    (case l__law_turned => k_is)
    (case c__law_turned => k_is)
    (case k__law_turned => k_is)
    (case a__law_part => k_is)
    (case l__law_part => k_is)
    (case c__law_part => k_is)
    (case k__law_part => k_is)
    (case a__law_led => k_is)
    (case l__law_led => k_is)
    (case c__law_led => k_is)
    (case k__law_led => k_is)
    (case a__law_signal => k_is)
    (case l__law_signal => k_is)
    (case c__law_signal => k_is)
    (case k__law_signal => k_is)
    (case a__law_is_in => k_is)
    (case l__law_is_in => k_is)
    (case c__law_is_in => k_is)
    (case k__law_is_in => k_is)
    (case a__law_ticks => k_is)
    (case l__law_ticks => k_is)
    (case c__law_ticks => k_is)
    (case k__law_ticks => k_is)
    (case a__law_trials => k_is)
    (case l__law_trials => k_is)
    (case c__law_trials => k_is)
    (case k__law_trials => k_is)
    (case a__law_is_within => k_is)
    (case l__law_is_within => k_is)
    (case c__law_is_within => k_is)
    (case k__law_is_within => k_is)
    (case a__law_pick => k_is)
    (case l__law_pick => k_is)
    (case c__law_pick => k_is)
    (case k__law_pick => k_is)
    (case a__law_row => k_is)
    (case l__law_row => k_is)
    (case c__law_row => k_is)
    (case k__law_row => k_is)
    (case a__law_near => k_is)
    (case l__law_near => k_is)
    (case c__law_near => k_is)
    (case k__law_near => k_is)
    (case a__law_pair => k_is)
    (case l__law_pair => k_is)
    (case c__law_pair => k_is)
    (case k__law_pair => k_is)
    (case a__law_swapped => k_is)
    (case l__law_swapped => k_is)
    (case c__law_swapped => k_is)
    (case k__law_swapped => k_is)
    (case a_law => k_is)
    (case l_law => k_is)
    (case c_law => k_is)
    (case k_law => k_is)
end
