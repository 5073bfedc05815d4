import PyProof.Rows.All
import Wide.All
import OpenK.AllK
import Wide.FinOn
import PyProof.ReprReads
import PyProof.EqLayable
import PyProof.ReprText
import PyProof.FitsInt
import PyProof.StrLawsRepr
import HandS.ForMost
import HandS.Deep
import HandS.TupAny
import HandS.TupMul
import HandS.Wide
import HandS.Zip
import HandS.IsInst
import HandS.Style
import HandS.EndBits
import HandS.Star
import HandS.WideBits
import HandS.SortInts
import HandS.SetFor
import HandS.Strs
import HandS.Flow
import HandS.Text
import KE.GoesMore
import PySem.Challenge.RW_latewires_k01_what_is_a_signal
set_option Elab.async false
section
set_option autoImplicit false
/-! The pure layer: Python values without a heap, lists as cells of a small memory, defs as functions. -/
namespace PL
open PySem
/-- a value: tuples are data, a list (or dict) is a cell of the memory, cst: an object of the module by its address -/
inductive PV where
  | non | bl (b : Bool) | int (i : Int) | str (x : Str) | tup (l : List PV) | ref (n : Nat) | cst (a : Nat)
deriving Inhabited
/-- a cell -/
inductive PO where
  | lst (l : List PV) | ro (l : List PV) | dct (kvs : List (Sum Int Str × PV))
deriving Inhabited
abbrev Mem := List PO
abbrev Env := List (Option PV)
/-- an exception: its class by name, what it keeps -/
structure PX where
  cls : Str
  fs : List (Str × PV)
inductive Res (α : Type) where
  | ok (a : α) (μ : Mem) | exc (c : PX) (μ : Mem) | stuck
namespace Res
variable {α β : Type}
def bind (r : Res α) (k : α → Mem → Res β) : Res β := match r with | .ok a μ => k a μ | .exc c μ => .exc c μ | .stuck => .stuck
@[simp] theorem bind_ok (a : α) (μ : Mem) (k : α → Mem → Res β) : (Res.ok a μ).bind k = k a μ := id rfl
@[simp] theorem bind_exc (c : PX) (μ : Mem) (k : α → Mem → Res β) : (Res.exc c μ : Res α).bind k = .exc c μ := id rfl
@[simp] theorem bind_stuck (k : α → Mem → Res β) : (Res.stuck : Res α).bind k = .stuck := id rfl
end Res
abbrev Ex := Env → Mem → Res PV
abbrev Fn := List PV → Mem → Res PV
abbrev Ag := Env → Mem → Res (List PV)
abbrev SL : Nat := 16777216
/-! ### expressions -/
def v (i : Nat) : Ex := fun env μ => match env[i]? with | some (some p) => .ok p μ | _ => .stuck
def c (p : PV) : Ex := fun _ μ => .ok p μ
def an : Ag := fun _ μ => .ok [] μ
def ac (a : Ex) (r : Ag) : Ag := fun env μ => (a env μ).bind fun p μ1 => (r env μ1).bind fun ps μ2 => .ok (p :: ps) μ2
/-- *a, .. -/
def acs (a : Ex) (r : Ag) : Ag := fun env μ => (a env μ).bind fun p μ1 => match p with
  | .tup l => (r env μ1).bind fun ps μ2 => .ok (l ++ ps) μ2
  | .ref n => match μ1[n]? with | some (.lst l) => (r env μ1).bind fun ps μ2 => .ok (l ++ ps) μ2 | _ => .stuck
  | _ => .stuck
def app (f : Fn) (as : Ag) : Ex := fun env μ => (as env μ).bind fun ps μ1 => f ps μ1
def app1 (f : Fn) (a : Ex) : Ex := fun env μ => (a env μ).bind fun p μ1 => f [p] μ1
/-- the receiver of a method: a list, a text, a dict -/
inductive Kd where | list | str | dict
def isKd (k : Kd) (μ : Mem) (p : PV) : Bool := match k, p with
  | .str, .str _ => true
  | .list, .ref n => match μ[n]? with | some (.lst _) => true | _ => false
  | .dict, .ref n => match μ[n]? with | some (.dct _) => true | _ => false
  | _, _ => false
def mth (k : Kd) (f : Fn) (o : Ex) (g : Ag) : Ex := fun env μ => (o env μ).bind fun p μ1 => if isKd k μ1 p = true then (g env μ1).bind fun ps μ2 => f (p :: ps) μ2 else .stuck
def app2 (f : Fn) (a b : Ex) : Ex := fun env μ => (a env μ).bind fun p μ1 => (b env μ1).bind fun q μ2 => f [p, q] μ2
def app3 (f : Fn) (a b d : Ex) : Ex := fun env μ => (a env μ).bind fun p μ1 => (b env μ1).bind fun q μ2 => (d env μ2).bind fun r μ3 => f [p, q, r] μ3
/-- what follows a truth value -/
def onB {α : Type} (p : PV) (a b : Res α) : Res α := match p with | .bl true => a | .bl false => b | _ => .stuck
@[simp] theorem onB_true {α : Type} (a b : Res α) : onB (.bl true) a b = a := id rfl
@[simp] theorem onB_false {α : Type} (a b : Res α) : onB (.bl false) a b = b := id rfl
theorem onB_bl {α : Type} (t : Bool) (a b : Res α) : onB (.bl t) a b = if t = true then a else b := by cases t <;> rfl
def asB (p : PV) (μ : Mem) : Res Bool := match p with | .bl b => .ok b μ | _ => .stuck
theorem onB_asB {α : Type} (p : PV) (μ : Mem) (a b : Res α) : onB p a b = (asB p μ).bind fun t _ => if t = true then a else b := by
  cases p with
  | bl t => cases t <;> rfl
  | _ => rfl
def ite (t a b : Ex) : Ex := fun env μ => (t env μ).bind fun p μ1 => onB p (a env μ1) (b env μ1)
def and (a b : Ex) : Ex := fun env μ => (a env μ).bind fun p μ1 => onB p (b env μ1) (.ok (.bl false) μ1)
def or (a b : Ex) : Ex := fun env μ => (a env μ).bind fun p μ1 => onB p (.ok (.bl true) μ1) (b env μ1)
def chain (f g : Fn) (a b d : Ex) : Ex := fun env μ => (a env μ).bind fun p μ1 => (b env μ1).bind fun q μ2 => (f [p, q] μ2).bind fun t μ3 =>
  onB t ((d env μ3).bind fun r μ4 => g [q, r] μ4) (.ok (.bl false) μ3)
/-! ### targets -/
abbrev Tg := PV → Env → Mem → Res Env
abbrev Tgs := List PV → Env → Mem → Res Env
def tn (i : Nat) : Tg := fun p env μ => .ok (env.set i (some p)) μ
def t0 : Tgs := fun ps env μ => match ps with | [] => .ok env μ | _ => .stuck
def tc (g : Tg) (r : Tgs) : Tgs := fun ps env μ => match ps with | p :: qs => (g p env μ).bind fun e μ1 => r qs e μ1 | [] => .stuck
def tt (n : Nat) (r : Tgs) : Tg := fun p env μ => match p with
  | .tup l => if l.length = n then r l env μ else .stuck
  | .ref k => match μ[k]? with | some (.lst l) => if l.length = n then r l env μ else .stuck | _ => .stuck
  | _ => .stuck
def tsub (f : Fn) (o i : Ex) : Tg := fun p env μ => (o env μ).bind fun x μ1 => (i env μ1).bind fun y μ2 => (f [x, y, p] μ2).bind fun _ μ3 => .ok env μ3
/-! ### statements -/
inductive Out where
  | nx (env : Env) (μ : Mem) | rt (p : PV) (μ : Mem) | bk (env : Env) (μ : Mem) | ct (env : Env) (μ : Mem) | exc (c : PX) (μ : Mem) | stuck
def Out.of {α : Type} (r : Res α) (k : α → Mem → Out) : Out := match r with | .ok a μ => k a μ | .exc c μ => .exc c μ | .stuck => .stuck
@[simp] theorem Out.of_ok {α : Type} (a : α) (μ : Mem) (k : α → Mem → Out) : Out.of (.ok a μ) k = k a μ := id rfl
@[simp] theorem Out.of_exc {α : Type} (c : PX) (μ : Mem) (k : α → Mem → Out) : Out.of (.exc c μ : Res α) k = .exc c μ := id rfl
@[simp] theorem Out.of_stuck {α : Type} (k : α → Mem → Out) : Out.of (.stuck : Res α) k = .stuck := id rfl
def Out.then (o : Out) (k : Env → Mem → Out) : Out := match o with | .nx e m => k e m | o => o
@[simp] theorem Out.then_nx (e : Env) (m : Mem) (k : Env → Mem → Out) : (Out.nx e m).then k = k e m := id rfl
@[simp] theorem Out.then_rt (p : PV) (m : Mem) (k : Env → Mem → Out) : (Out.rt p m).then k = .rt p m := id rfl
@[simp] theorem Out.then_bk (e : Env) (m : Mem) (k : Env → Mem → Out) : (Out.bk e m).then k = .bk e m := id rfl
@[simp] theorem Out.then_ct (e : Env) (m : Mem) (k : Env → Mem → Out) : (Out.ct e m).then k = .ct e m := id rfl
@[simp] theorem Out.then_exc (x : PX) (m : Mem) (k : Env → Mem → Out) : (Out.exc x m).then k = .exc x m := id rfl
@[simp] theorem Out.then_stuck (k : Env → Mem → Out) : (Out.stuck).then k = .stuck := id rfl
abbrev Sm := Env → Mem → Out
/-- what this layer does not follow -/
def stuckS : Sm := fun _ _ => .stuck
def skip : Sm := fun env μ => .nx env μ
def brk : Sm := fun env μ => .bk env μ
def cnt : Sm := fun env μ => .ct env μ
def seq (a b : Sm) : Sm := fun env μ => (a env μ).then b
def exp (e : Ex) : Sm := fun env μ => .of (e env μ) fun _ μ1 => .nx env μ1
def ret (e : Ex) : Sm := fun env μ => .of (e env μ) fun p μ1 => .rt p μ1
def onS (p : PV) (a b : Out) : Out := match p with | .bl true => a | .bl false => b | _ => .stuck
@[simp] theorem onS_true (a b : Out) : onS (.bl true) a b = a := id rfl
@[simp] theorem onS_false (a b : Out) : onS (.bl false) a b = b := id rfl
theorem onS_bl (t : Bool) (a b : Out) : onS (.bl t) a b = if t = true then a else b := by cases t <;> rfl
def cond (t : Ex) (a b : Sm) : Sm := fun env μ => .of (t env μ) fun p μ1 => onS p (a env μ1) (b env μ1)
def asg (g : Tg) (e : Ex) : Sm := fun env μ => .of (e env μ) fun p μ1 => .of (g p env μ1) fun e2 μ2 => .nx e2 μ2
def setv (i : Nat) (e : Ex) : Sm := fun env μ => .of (e env μ) fun p μ1 => .nx (env.set i (some p)) μ1
def par (i j : Nat) (a b : Ex) : Sm := fun env μ => .of (a env μ) fun p μ1 => .of (b env μ1) fun q μ2 => .nx ((env.set i (some p)).set j (some q)) μ2
def par3 (i j k : Nat) (a b d : Ex) : Sm := fun env μ => .of (a env μ) fun p μ1 => .of (b env μ1) fun q μ2 => .of (d env μ2) fun r μ3 => .nx (((env.set i (some p)).set j (some q)).set k (some r)) μ3
/-! ### loops -/
/-- what is walked: the items, the list cells that must stay as they are -/
structure Its where
  items : List PV
  lk : List (Nat × List PV)
abbrev It := Env → Mem → Res Its
def locked (lk : List (Nat × List PV)) (μ : Mem) : Prop := ∀ x ∈ lk, μ[x.1]? = some (.lst x.2) ∨ μ[x.1]? = some (.ro x.2)
theorem locked_nil (μ : Mem) : locked [] μ := fun _ h => (nomatch h)
open Classical in
noncomputable def forN (lk : List (Nat × List PV)) (g : Tg) (body : Sm) : List PV → Env → Mem → Out
  | [], env, μ => if locked lk μ then .nx env μ else .stuck
  | p :: ps, env, μ => if locked lk μ then .of (g p env μ) fun e1 μ1 => match body e1 μ1 with
      | .nx e m => forN lk g body ps e m
      | .ct e m => forN lk g body ps e m
      | .bk e m => .nx e m
      | o => o
    else .stuck
noncomputable def forS (it : It) (g : Tg) (body : Sm) : Sm := fun env μ => .of (it env μ) fun z μ1 => forN z.lk g body z.items env μ1
def whileN (t : Ex) (body : Sm) : Nat → Env → Mem → Out
  | 0, _, _ => .stuck
  | n + 1, env, μ => .of (t env μ) fun p μ1 => onS p (match body env μ1 with
      | .nx e m => whileN t body n e m
      | .ct e m => whileN t body n e m
      | .bk e m => .nx e m
      | o => o) (.nx env μ1)
def fuel : Nat := 100000000
def whileS (t : Ex) (body : Sm) : Sm := fun env μ => whileN t body fuel env μ
/-! ### comprehensions -/
def wipe (env : Env) : List Nat → Env
  | [] => env
  | i :: is => (wipe env is).set i none
def push1 (n : Nat) (p : PV) (μ : Mem) : Option Mem := match μ[n]? with
  | some (.lst l) => if l.length < SL then some (μ.set n (.lst (l ++ [p]))) else none
  | _ => none
/- n: the cell of the list that is made -/
open Classical in
noncomputable def lcN (lk : List (Nat × List PV)) (g : Tg) (t e : Ex) (vs : List Nat) (n : Nat) (env : Env) : List PV → Mem → Res Unit
  | [], μ => if locked lk μ then .ok () μ else .stuck
  | p :: ps, μ => if locked lk μ then (g p (wipe env vs) μ).bind fun e1 μ1 => (t e1 μ1).bind fun b μ2 =>
      onB b ((e e1 μ2).bind fun q μ3 => match push1 n q μ3 with
        | some μ4 => lcN lk g t e vs n env ps μ4
        | none => .stuck) (lcN lk g t e vs n env ps μ2)
    else .stuck
noncomputable def lc (it : It) (g : Tg) (t e : Ex) (vs : List Nat) : Ex := fun env μ => (it env μ).bind fun z μ1 =>
  (lcN z.lk g t e vs μ1.length env z.items (μ1 ++ [.lst []])).bind fun _ μ2 => .ok (.ref μ1.length) μ2
def yes : Ex := c (.bl true)
/-! ### values -/
mutual
def PV.under (n : Nat) : PV → Bool
  | .non => true | .bl _ => true | .int _ => true | .str _ => true | .cst _ => true
  | .tup l => PV.unders n l
  | .ref k => decide (k < n)
def PV.unders (n : Nat) : List PV → Bool
  | [] => true
  | p :: ps => PV.under n p && PV.unders n ps
end
def PO.under (n : Nat) : PO → Bool
  | .lst l => PV.unders n l
  | .ro l => PV.unders n l
  | .dct kvs => PV.unders n (kvs.map (·.2))
/-- what a def's own lists leave behind goes, where nothing speaks of it -/
def GcOk (μ : Mem) (p : PV) (m : Mem) : Prop := μ.length ≤ m.length ∧ p.under μ.length = true ∧ ∀ i, i < μ.length → m[i]? = μ[i]? ∨ ∃ o, m[i]? = some o ∧ o.under μ.length = true
open Classical in
noncomputable def gc (μ : Mem) (r : Res PV) : Res PV := match r with
  | .ok p m => if GcOk μ p m then .ok p (m.take μ.length) else .ok p m
  | r => r
/-- a body's end as a call's result -/
def Out.res : Out → Res PV
  | .rt p m => .ok p m
  | .nx _ m => .ok .non m
  | .exc x m => .exc x m
  | _ => .stuck
def run (n : Nat) (b : Sm) : Fn := fun args μ => (b (args.map some ++ List.replicate (n - args.length) none) μ).res
/-- a def of so many names with a body -/
noncomputable def fn (n : Nat) (b : Sm) : Fn := fun args μ => gc μ (run n b args μ)
/-! ### what is read of the memory -/
mutual
def PV.conv (r : Nat → Option PyData) : PV → Option PyData
  | .non => some .none
  | .bl b => some (.bool b)
  | .int i => some (.int i)
  | .str x => some (.str x)
  | .tup l => (PV.convs r l).map .tuple
  | .ref n => r n
  | .cst _ => none
def PV.convs (r : Nat → Option PyData) : List PV → Option (List PyData)
  | [] => some []
  | p :: ps => (PV.conv r p).bind fun d => (PV.convs r ps).map fun ds => d :: ds
end
def toDn (μ : Mem) : Nat → PV → Option PyData
  | 0 => PV.conv fun _ => none
  | n + 1 => PV.conv fun k => match μ[k]? with
    | some (.lst l) => (PV.convs (fun j => toDn μ n (.ref j)) l).map .list
    | some (.ro l) => (PV.convs (fun j => toDn μ n (.ref j)) l).map .list
    | _ => none
def toD (μ : Mem) (p : PV) : Option PyData := toDn μ 5 p
/-- data, or an empty dict -/
def toI (μ : Mem) (p : PV) : Option PyData := match toD μ p with
  | some d => some d
  | none => match p with
    | .ref n => match μ[n]? with
      | some (.dct []) => some (.dict [])
      | _ => none
    | _ => none
def toIs (μ : Mem) : List PV → Option (List PyData)
  | [] => some []
  | p :: ps => (toI μ p).bind fun d => (toIs μ ps).map fun ds => d :: ds
/-- a list of data and of empty dicts -/
def toX (μ : Mem) (p : PV) : Option PyData := match p with
  | .ref n => match μ[n]? with
    | some (.lst l) => (toIs μ l).map .list
    | some (.dct []) => some (.dict [])
    | _ => none
  | _ => none
def getL (μ : Mem) (p : PV) : Option (List PV) := match p with
  | .ref n => match μ[n]? with | some (.lst l) => some l | some (.ro l) => some l | _ => none
  | .tup l => some l
  | _ => none
/-! ### operations -/
def mulOk (i j : Int) : Prop := (-(2 ^ 64) < i ∧ i < 2 ^ 64) ∨ (-(2 ^ 64) < j ∧ j < 2 ^ 64) ∨ i.natAbs.log2 + j.natAbs.log2 < 1000000
instance (i j : Int) : Decidable (mulOk i j) := by unfold mulOk; infer_instance
def divOk (j : Int) : Prop := 0 < j ∧ j.natAbs.log2 < 9000
instance (j : Int) : Decidable (divOk j) := by unfold divOk; infer_instance
def newL (l : List PV) (μ : Mem) : Res PV := .ok (.ref μ.length) (μ ++ [.lst l])
def fTup : Fn := fun ps μ => if ps.length ≤ SL then .ok (.tup ps) μ else .stuck
def fLst : Fn := fun ps μ => if ps.length ≤ SL then newL ps μ else .stuck
def fAdd : Fn
  | [.int i, .int j], μ => .ok (.int (i + j)) μ
  | [.str a, .str b], μ => if a.length + b.length ≤ SL then .ok (.str (a ++ b)) μ else .stuck
  | [.tup a, .tup b], μ => if a.length + b.length ≤ SL then .ok (.tup (a ++ b)) μ else .stuck
  | [.ref a, .ref b], μ => match μ[a]?, μ[b]? with
    | some (.lst xs), some (.lst ys) => if xs.length + ys.length ≤ SL then newL (xs ++ ys) μ else .stuck
    | _, _ => .stuck
  | _, _ => .stuck
def fSub : Fn
  | [.int i, .int j], μ => .ok (.int (i - j)) μ
  | _, _ => .stuck
def fMul : Fn
  | [.int i, .int j], μ => if mulOk i j then .ok (.int (i * j)) μ else .stuck
  | [.ref a, .int k], μ => match μ[a]? with
    | some (.lst xs) => if -(2 ^ 63) ≤ k ∧ k < 2 ^ 63 ∧ xs.length * k.toNat ≤ SL then newL (List.replicate k.toNat xs).flatten μ else .stuck
    | _ => .stuck
  | [.tup xs, .int k], μ => if xs ≠ [] ∧ 2 ≤ k ∧ k ≤ 1000 ∧ xs.length ≤ 1000 then .ok (.tup (List.replicate k.toNat xs).flatten) μ else .stuck
  | _, _ => .stuck
def fDiv : Fn
  | [.int i, .int j], μ => if divOk j then .ok (.int (i / j)) μ else .stuck
  | _, _ => .stuck
def fMod : Fn
  | [.int i, .int j], μ => if 0 < j then .ok (.int (i % j)) μ else .stuck
  | _, _ => .stuck
def fPow : Fn
  | [.int i, .int j], μ => if 0 ≤ j ∧ j ≤ 1000000 ∧ i.natAbs < 2 ^ 64 then .ok (.int (i ^ j.toNat)) μ else .stuck
  | _, _ => .stuck
def shlOk (i j : Int) : Prop := 0 ≤ j ∧ (Builtin.Int.intBits i : Int) + j ≤ 2 ^ 27
instance (i j : Int) : Decidable (shlOk i j) := by unfold shlOk; infer_instance
def fShl : Fn
  | [.int i, .int j], μ => if shlOk i j then .ok (.int (i * 2 ^ j.toNat)) μ else .stuck
  | _, _ => .stuck
def fShr : Fn
  | [.int i, .int j], μ => if 0 ≤ j then .ok (.int (i / 2 ^ j.toNat)) μ else .stuck
  | _, _ => .stuck
def fBAnd : Fn
  | [.int i, .int j], μ => .ok (.int (Builtin.bitAnd i j)) μ
  | _, _ => .stuck
def fBOr : Fn
  | [.int i, .int j], μ => .ok (.int (Builtin.bitOr i j)) μ
  | _, _ => .stuck
def fBXor : Fn
  | [.int i, .int j], μ => .ok (.int (Builtin.bitXor i j)) μ
  | _, _ => .stuck
def fNeg : Fn
  | [.int i], μ => .ok (.int (-i)) μ
  | _, _ => .stuck
def fNot : Fn
  | [.bl b], μ => .ok (.bl (!b)) μ
  | _, _ => .stuck
/-- two flat values of one kind, or None beside one -/
def scalP : PV → PV → Option Bool
  | .int i, .int j => some (decide (i = j))
  | .str x, .str y => some (decide (x = y))
  | .bl x, .bl y => some (decide (x = y))
  | _, _ => none
def eqR (μ : Mem) (p q : PV) : Option Bool := match scalP p q with
  | some b => some b
  | none => match toD μ p, toD μ q with
    | some d, some e => if SeqAt.shaped d = true ∧ SeqAt.shaped e = true then some (PyData.eqv d e) else none
    | _, _ => none
def fEq : Fn
  | [p, q], μ => match eqR μ p q with | some b => .ok (.bl b) μ | none => .stuck
  | _, _ => .stuck
def fNe : Fn
  | [p, q], μ => match eqR μ p q with | some b => .ok (.bl (!b)) μ | none => .stuck
  | _, _ => .stuck
def fLt : Fn
  | [.int i, .int j], μ => .ok (.bl (decide (i < j))) μ
  | _, _ => .stuck
def fLe : Fn
  | [.int i, .int j], μ => .ok (.bl (decide (i ≤ j))) μ
  | _, _ => .stuck
def fGt : Fn
  | [.int i, .int j], μ => .ok (.bl (decide (j < i))) μ
  | _, _ => .stuck
def fGe : Fn
  | [.int i, .int j], μ => .ok (.bl (decide (j ≤ i))) μ
  | _, _ => .stuck
def isNon : PV → Bool
  | .non => true
  | _ => false
def fIsN : Fn
  | [p, .non], μ => .ok (.bl (isNon p)) μ
  | _, _ => .stuck
def fNotN : Fn
  | [p, .non], μ => .ok (.bl (!isNon p)) μ
  | _, _ => .stuck
def flatP : PV → Bool
  | .non => true | .bl _ => true | .int _ => true | .str _ => true
  | _ => false
/-- == of flat values -/
def eqF : PV → PV → Bool
  | .non, .non => true
  | .bl a, .bl b => a == b
  | .bl a, .int b => (if a then 1 else 0) == b
  | .int a, .bl b => a == (if b then 1 else 0)
  | .int a, .int b => a == b
  | .str a, .str b => a == b
  | _, _ => false
def inDeep (μ : Mem) (p q : PV) : Option Bool := match q with
  | .ref _ => match toD μ p, toD μ q with
    | some d, some (.list es) => if SeqAt.shaped d = true ∧ SeqAt.shaped (.list es) = true then some (es.any fun z => PyData.eqv z d) else none
    | _, _ => none
  | .tup _ => match toD μ p, toD μ q with
    | some d, some (.tuple es) => if SeqAt.shaped d = true ∧ SeqAt.shaped (.tuple es) = true then some (es.any fun z => PyData.eqv z d) else none
    | _, _ => none
  | _ => none
def inSeq (μ : Mem) (p q : PV) : Option Bool := match getL μ q with
  | some l => if flatP p = true ∧ l.all flatP = true then some (l.any fun z => eqF z p) else inDeep μ p q
  | none => none
def strPair (p q : PV) : Option (Str × Str) := match p, q with
  | .str x, .str y => some (x, y)
  | _, _ => none
def inStr (x y : Str) : Option Bool := match x.cps.toList with
  | [k] => some (decide (k ∈ y.cps.toList))
  | _ => none
def inR (μ : Mem) (p q : PV) : Option Bool := match strPair p q with
  | some z => inStr z.1 z.2
  | none => inSeq μ p q
def fIn : Fn
  | [p, q], μ => match inR μ p q with | some b => .ok (.bl b) μ | none => .stuck
  | _, _ => .stuck
def fNotIn : Fn
  | [p, q], μ => match inR μ p q with | some b => .ok (.bl (!b)) μ | none => .stuck
  | _, _ => .stuck
/-! places -/
def ixN (n : Nat) (i : Int) : Option Nat := if 0 ≤ i then (if i < n then some i.toNat else none) else if -(n : Int) ≤ i then some (i + n).toNat else none
def atI {α : Type} (xs : List α) (i : Int) : Option α := (ixN xs.length i).bind fun j => xs[j]?
def sIx (n d : Nat) : Option Int → Nat
  | none => d
  | some v => if v < 0 then (v + (n : Int)).toNat else min v.toNat n
def cut {α : Type} (xs : List α) (lo hi : Option Int) : List α := (xs.drop (sIx xs.length 0 lo)).take (sIx xs.length xs.length hi - sIx xs.length 0 lo)
def fIx : Fn
  | [.str z, .int i], μ => if z.length ≤ SL then match atI z.cps.toList i with | some k => .ok (.str ⟨#[k]⟩) μ | none => .stuck else .stuck
  | [p, .int i], μ => match getL μ p with
    | some l => match atI l i with | some q => .ok q μ | none => .stuck
    | none => .stuck
  | _, _ => .stuck
def optI : PV → Option (Option Int)
  | .non => some none
  | .int i => some (some i)
  | _ => none
def fSl : Fn
  | [p, lo, hi], μ => match optI lo, optI hi with
    | some lo, some hi => match p with
      | .tup l => .ok (.tup (cut l lo hi)) μ
      | .ref n => match getL μ (.ref n) with | some l => newL (cut l lo hi) μ | none => .stuck
      | .str z => if z.length ≤ SL then .ok (.str ⟨(cut z.cps.toList lo hi).toArray⟩) μ else .stuck
      | _ => .stuck
    | _, _ => .stuck
  | _, _ => .stuck
def fRev : Fn
  | [.tup l], μ => .ok (.tup l.reverse) μ
  | [.ref n], μ => match getL μ (.ref n) with | some l => newL l.reverse μ | none => .stuck
  | _, _ => .stuck
def fRevL : Fn
  | [.ref n], μ => fRev [.ref n] μ
  | [.tup l], μ => .ok (.tup l.reverse) μ
  | _, _ => .stuck
def fPart : Fn
  | [.int i], μ => .ok (.int i) μ
  | _, _ => .stuck
def onPart (q : PV) (m : Mem) : Res PV := match optI q with | some _ => .ok q m | none => .stuck
def sl (a lo hi : Ex) : Ex := fun env μ => (a env μ).bind fun p μ1 => ((lo env μ1).bind onPart).bind fun ql μ2 => ((hi env μ2).bind onPart).bind fun qh μ3 => fSl [p, ql, qh] μ3
/-- the values in the parameters' order -/
def perm {α : Type} (is : List Nat) (l : List α) : List α := is.filterMap (l[·]?)
def callK (m : Fn) (is : List Nat) (g gk : Ag) : Ex := fun env μ => (g env μ).bind fun as μ1 => (gk env μ1).bind fun bs μ2 => m (perm is (as ++ bs)) μ2
def fLen : Fn
  | [.str z], μ => if z.length ≤ SL then .ok (.int z.length) μ else .stuck
  | [p], μ => match getL μ p with | some l => .ok (.int l.length) μ | none => .stuck
  | _, _ => .stuck
def fInt : Fn
  | [.int i], μ => .ok (.int i) μ
  | [.bl b], μ => .ok (.int (if b then 1 else 0)) μ
  | _, _ => .stuck
def fAbs : Fn
  | [.int i], μ => .ok (.int (if i < 0 then -i else i)) μ
  | _, _ => .stuck
def intsOf : List PV → Option (List Int)
  | [] => some []
  | .int i :: r => (intsOf r).map fun is => i :: is
  | _ => none
def boolsOf : List PV → Option (List Bool)
  | [] => some []
  | .bl i :: r => (boolsOf r).map fun is => i :: is
  | _ => none
def maxL : Int → List Int → Int
  | m, [] => m
  | m, x :: xs => maxL (if x > m then x else m) xs
def minL : Int → List Int → Int
  | m, [] => m
  | m, x :: xs => minL (if x < m then x else m) xs
def fMax : Fn
  | [.int i, .int j], μ => .ok (.int (if j > i then j else i)) μ
  | [.ref n], μ => match (getL μ (.ref n)).bind intsOf with
    | some (i :: is) => .ok (.int (maxL i is)) μ
    | _ => .stuck
  | _, _ => .stuck
def fMin : Fn
  | [.int i, .int j], μ => .ok (.int (if j < i then j else i)) μ
  | [.ref n], μ => match (getL μ (.ref n)).bind intsOf with
    | some (i :: is) => .ok (.int (minL i is)) μ
    | _ => .stuck
  | _, _ => .stuck
def fSum : Fn
  | [.ref n], μ => match (getL μ (.ref n)).bind intsOf with
    | some is => .ok (.int is.sum) μ
    | _ => .stuck
  | _, _ => .stuck
def fAll : Fn
  | [.ref n], μ => match (getL μ (.ref n)).bind boolsOf with
    | some bs => .ok (.bl (bs.all id)) μ
    | _ => .stuck
  | _, _ => .stuck
def fAny : Fn
  | [.ref n], μ => match (getL μ (.ref n)).bind boolsOf with
    | some bs => .ok (.bl (bs.any id)) μ
    | _ => .stuck
  | _, _ => .stuck
def fTuple : Fn
  | [p], μ => match getL μ p with | some l => .ok (.tup l) μ | none => .stuck
  | _, _ => .stuck
def fList : Fn
  | [p], μ => match getL μ p with | some l => newL l μ | none => .stuck
  | _, _ => .stuck
def fStr : Fn
  | [.int i], μ => if i.natAbs.log2 < 1920 then .ok (.str (toString i : String)) μ else .stuck
  | [.non], μ => .ok (.str "None") μ
  | _, _ => .stuck
def fRepr : Fn
  | [p], μ => match toD μ p with
    | some d => if d.showable = true ∧ d.shown.length ≤ SL ∧ d.depth ≤ 64 then .ok (.str d.shown) μ else .stuck
    | none => match p, toX μ p with
      | .ref _, some d => if d.showable = true ∧ d.shown.length ≤ SL ∧ d.depth ≤ 64 then .ok (.str d.shown) μ else .stuck
      | _, _ => .stuck
  | _, _ => .stuck
/-- the builtin types that isinstance asks for -/
inductive Ty where | int | bool | str | tuple | list | dict
def Ty.isL : Ty → Bool | .list => true | _ => false
def Ty.isD : Ty → Bool | .dict => true | _ => false
def isTy (μ : Mem) : Ty → PV → Option Bool
  | .int, .int _ => some true | .int, .bl _ => some true
  | .int, .non => some false | .int, .str _ => some false | .int, .tup _ => some false
  | .bool, .bl _ => some true
  | .bool, .int _ => some false | .bool, .non => some false | .bool, .str _ => some false | .bool, .tup _ => some false
  | .str, .str _ => some true
  | .str, .int _ => some false | .str, .bl _ => some false | .str, .non => some false | .str, .tup _ => some false
  | .tuple, .tup _ => some true
  | .tuple, .int _ => some false | .tuple, .bl _ => some false | .tuple, .non => some false | .tuple, .str _ => some false
  | .list, .int _ => some false | .list, .bl _ => some false | .list, .non => some false | .list, .str _ => some false | .list, .tup _ => some false
  | .dict, .int _ => some false | .dict, .bl _ => some false | .dict, .non => some false | .dict, .str _ => some false | .dict, .tup _ => some false
  | t, .ref n => match μ[n]? with
    | some (.lst _) => some t.isL
    | some (.dct _) => some t.isD
    | _ => none
  | _, .cst _ => none
def fIsi (t : Ty) : Fn
  | [p], μ => match isTy μ t p with | some b => .ok (.bl b) μ | none => .stuck
  | _, _ => .stuck
/-! methods of lists -/
def fAppend : Fn
  | [.ref n, p], μ => match push1 n p μ with | some m => .ok .non m | none => .stuck
  | _, _ => .stuck
def fExtend : Fn
  | [.ref n, .ref k], μ => match μ[n]?, μ[k]? with
    | some (.lst xs), some (.lst ys) => if xs.length + ys.length ≤ SL then .ok .non (μ.set n (.lst (xs ++ ys))) else .stuck
    | _, _ => .stuck
  | _, _ => .stuck
def fPop : Fn
  | [.ref n], μ => match μ[n]? with
    | some (.lst xs) => match xs[xs.length - 1]? with | some q => .ok q (μ.set n (.lst xs.dropLast)) | none => .stuck
    | _ => .stuck
  | [.ref n, .int i], μ => match μ[n]? with
    | some (.lst xs) => if -(2 ^ 63) ≤ i ∧ i < 2 ^ 63 then match ixN xs.length i with
      | some k => match xs[k]? with | some q => .ok q (μ.set n (.lst (xs.eraseIdx k))) | none => .stuck
      | none => .stuck
      else .stuck
    | _ => .stuck
  | _, _ => .stuck
def fSet : Fn
  | [.ref n, .int i, p], μ => match μ[n]? with
    | some (.lst xs) => match ixN xs.length i with | some k => .ok .non (μ.set n (.lst (xs.set k p))) | none => .stuck
    | _ => .stuck
  | _, _ => .stuck
/-! what a for walks -/
def itsOf (p : PV) (m : Mem) : Res Its := match p with
  | .tup l => .ok ⟨l, []⟩ m
  | .ref n => match getL m (.ref n) with | some l => .ok ⟨l, [(n, l)]⟩ m | none => .stuck
  | _ => .stuck
def iVal (e : Ex) : It := fun env μ => (e env μ).bind itsOf
def rangeL (i : Int) (n : Nat) : List PV := (List.range n).map fun (k : Nat) => .int (i + (k : Int))
def big62 (i : Int) : Prop := -(2 ^ 62) ≤ i ∧ i < 2 ^ 62
instance (i : Int) : Decidable (big62 i) := by unfold big62; infer_instance
def iRng1 (e : Ex) : It := fun env μ => (e env μ).bind fun p μ1 => match p with
  | .int j => if big62 j then .ok ⟨rangeL 0 j.toNat, []⟩ μ1 else .stuck
  | _ => .stuck
def iRng2 (a b : Ex) : It := fun env μ => (a env μ).bind fun p μ1 => (b env μ1).bind fun q μ2 => match p, q with
  | .int i, .int j => if big62 i ∧ big62 j then .ok ⟨rangeL i (j - i).toNat, []⟩ μ2 else .stuck
  | _, _ => .stuck
def iRng2w (a b : Ex) : It := fun env μ => (a env μ).bind fun p μ1 => (b env μ1).bind fun q μ2 => match p, q with
  | .int i, .int j => .ok ⟨rangeL i (j - i).toNat, []⟩ μ2
  | _, _ => .stuck
def enumL : Nat → List PV → List PV
  | _, [] => []
  | k, p :: ps => .tup [.int k, p] :: enumL (k + 1) ps
def enumOf (p : PV) (m : Mem) : Res Its := match p with
  | .tup l => .ok ⟨enumL 0 l, []⟩ m
  | .ref n => match getL m (.ref n) with | some l => .ok ⟨enumL 0 l, [(n, l)]⟩ m | none => .stuck
  | _ => .stuck
def iEnum (e : Ex) : It := fun env μ => (e env μ).bind enumOf
def zipL : List PV → List PV → List PV
  | p :: ps, q :: qs => .tup [p, q] :: zipL ps qs
  | _, _ => []
def iZip (a b : Ex) : It := fun env μ => (a env μ).bind fun p μ1 => (b env μ1).bind fun q μ2 => match p, q with
  | .tup l, .tup k => .ok ⟨zipL l k, []⟩ μ2
  | .ref n, .ref m => match getL μ2 (.ref n), getL μ2 (.ref m) with
    | some l, some k => .ok ⟨zipL l k, [(n, l), (m, k)]⟩ μ2
    | _, _ => .stuck
  | _, _ => .stuck
end PL
end
section
set_option autoImplicit false
/-! More pure operations. -/
namespace PL
open PySem
def fIndex : Fn
  | [.ref n, p], μ => match toD μ p, toD μ (.ref n) with
    | some d, some (.list es) => if SeqAt.shaped d = true ∧ SeqAt.shaped (.list es) = true then (match es.findIdx? (fun z => PyData.eqv z d) with
        | some j => .ok (.int (j : Nat)) μ
        | none => .stuck) else .stuck
    | _, _ => .stuck
  | _, _ => .stuck
/-- is True, is False -/
def fIsB : Fn
  | [.bl a, .bl b], μ => .ok (.bl (decide (a = b))) μ
  | _, _ => .stuck
def fNotB : Fn
  | [.bl a, .bl b], μ => .ok (.bl (!decide (a = b))) μ
  | _, _ => .stuck
end PL
end
section
set_option autoImplicit false
/-! Pure dicts with keys numbers and texts; divmod; sorted. -/
namespace PL
open PySem
abbrev DK := Sum Int Str
abbrev KVs := List (DK × PV)
def keyOf : PV → Option DK
  | .int i => some (.inl i)
  | .str x => some (.inr x)
  | _ => none
def valD (kvs : KVs) (k : DK) : Option PV := (kvs.find? fun kv => decide (kv.1 = k)).map (·.2)
def putD (kvs : KVs) (k : DK) (p : PV) : KVs := if (kvs.any fun kv => decide (kv.1 = k)) = true then kvs.map (fun kv => if kv.1 = k then (kv.1, p) else kv) else kvs ++ [(k, p)]
def mergeD (kvs more : KVs) : KVs := more.foldl (fun acc kv => putD acc kv.1 kv.2) kvs
def dctAt (μ : Mem) (p : PV) : Option KVs := match p with
  | .ref n => match μ[n]? with | some (.dct kvs) => some kvs | _ => none
  | _ => none
/-- d[k] -/
def fDGet : Fn
  | [d, q], μ => match dctAt μ d, keyOf q with
    | some kvs, some k => match valD kvs k with | some p => .ok p μ | none => .stuck
    | _, _ => .stuck
  | _, _ => .stuck
/-- d[k] = p -/
def fDPut : Fn
  | [.ref n, q, p], μ => match μ[n]?, keyOf q with
    | some (.dct kvs), some k => if kvs.length < SL then .ok .non (μ.set n (.dct (putD kvs k p))) else .stuck
    | _, _ => .stuck
  | _, _ => .stuck
/-- k in d -/
def fDIn : Fn
  | [q, d], μ => match dctAt μ d, keyOf q with
    | some kvs, some k => .ok (.bl (valD kvs k).isSome) μ
    | _, _ => .stuck
  | _, _ => .stuck
def fDNotIn : Fn
  | [q, d], μ => match dctAt μ d, keyOf q with
    | some kvs, some k => .ok (.bl (!(valD kvs k).isSome)) μ
    | _, _ => .stuck
  | _, _ => .stuck
def fDLen : Fn
  | [d], μ => match dctAt μ d with | some kvs => .ok (.int kvs.length) μ | none => .stuck
  | _, _ => .stuck
/-- d[k] = e, as a statement: e, d, k in this order -/
def dput (o i e : Ex) : Sm := fun env μ => .of (e env μ) fun p μ1 => .of (o env μ1) fun x μ2 => .of (i env μ2) fun y μ3 => .of (fDPut [x, y, p] μ3) fun _ μ4 => .nx env μ4
/-- the pairs of a display -/
abbrev Ap := Env → Mem → Res (List (PV × PV))
def dn : Ap := fun _ μ => .ok [] μ
def dc (k x : Ex) (r : Ap) : Ap := fun env μ => (k env μ).bind fun p μ1 => (x env μ1).bind fun q μ2 => (r env μ2).bind fun ps μ3 => .ok ((p, q) :: ps) μ3
def keysOf : List (PV × PV) → Option KVs
  | [] => some []
  | pq :: r => match keyOf pq.1, keysOf r with | some k, some ks => some ((k, pq.2) :: ks) | _, _ => none
def dfin (n : Nat) (ps : List (PV × PV)) (μ : Mem) : Res PV := match μ[n]?, keysOf ps with
  | some (.dct []), some kvs => if kvs.length ≤ 15 then .ok (.ref n) (μ.set n (.dct (mergeD [] kvs))) else .stuck
  | _, _ => .stuck
/-- {k: v, ..} -/
def dsp (r : Ap) : Ex := fun env μ => (r env (μ ++ [.dct []])).bind fun ps μ1 => dfin μ.length ps μ1
/-- {} -/
def dnew : Ex := fun _ μ => .ok (.ref μ.length) (μ ++ [.dct []])
def fDivmod : Fn
  | [.int i, .int j], μ => if 0 < j ∧ j < 2 ^ 62 ∧ -(2 ^ 62) < i ∧ i < 2 ^ 62 then .ok (.tup [.int (i / j), .int (i % j)]) μ else .stuck
  | _, _ => .stuck
/-- a tuple so many times -/
def fMulT : Fn
  | [.tup xs, .int k], μ => if -(2 ^ 63) ≤ k ∧ k ≤ 1000 ∧ xs.length ≤ 1000 then .ok (.tup (List.replicate k.toNat xs).flatten) μ else .stuck
  | _, _ => .stuck
end PL
end
section
set_option autoImplicit false
/-! `or` of values that are none, numbers or truth values. -/
namespace PL
open PySem
def truP : PV → Option Bool
  | .non => some false
  | .bl b => some b
  | .int i => some (i != 0)
  | _ => none
def orV (a b : Ex) : Ex := fun env μ => (a env μ).bind fun p μ1 => match truP p with
  | some true => .ok p μ1
  | some false => b env μ1
  | none => .stuck
end PL
end
section
set_option autoImplicit false
/-! divmod of great numbers; sorted of numbers. -/
namespace PL
open PySem
def fDivmodW : Fn
  | [.int i, .int j], μ => if 0 < j ∧ i.natAbs < 2 ^ 3000 then .ok (.tup [.int (i / j), .int (i % j)]) μ else .stuck
  | _, _ => .stuck
def insI (x : Int) : List Int → List Int
  | [] => [x]
  | y :: l => if x ≤ y then x :: y :: l else y :: insI x l
def sortI : List Int → List Int
  | [] => []
  | x :: l => insI x (sortI l)
def fSorted : Fn
  | [.ref n], μ => match (getL μ (.ref n)).bind intsOf with
    | some is => newL ((sortI is).map .int) μ
    | none => .stuck
  | _, _ => .stuck
theorem insI_perm (x : Int) : ∀ l, (insI x l).Perm (x :: l)
  | [] => List.Perm.refl _
  | y :: l => by
    unfold insI
    by_cases h : x ≤ y
    · rw [if_pos h]
    · rw [if_neg h]
      exact ((insI_perm x l).cons y).trans (List.Perm.swap x y l)
theorem sortI_perm : ∀ l, (sortI l).Perm l
  | [] => List.Perm.refl _
  | x :: l => (insI_perm x _).trans ((sortI_perm l).cons x)
theorem insI_asc (x : Int) : ∀ l : List Int, l.Pairwise (· ≤ ·) → (insI x l).Pairwise (· ≤ ·)
  | [], _ => List.pairwise_singleton _ _
  | y :: l, h => by
    unfold insI
    obtain ⟨h1, h2⟩ := List.pairwise_cons.mp h
    by_cases c : x ≤ y
    · rw [if_pos c]
      refine List.pairwise_cons.mpr ⟨fun z hz => ?_, h⟩
      rcases List.mem_cons.mp hz with rfl | hz
      · exact c
      · have := h1 z hz; omega
    · rw [if_neg c]
      refine List.pairwise_cons.mpr ⟨fun z hz => ?_, insI_asc x l h2⟩
      rcases List.mem_cons.mp ((insI_perm x l).mem_iff.mp hz) with rfl | hz
      · omega
      · exact h1 z hz
theorem sortI_asc : ∀ l : List Int, (sortI l).Pairwise (· ≤ ·)
  | [] => List.Pairwise.nil
  | x :: l => insI_asc x _ (sortI_asc l)
theorem asc_uniq : ∀ {a b : List Int}, a.Perm b → a.Pairwise (· ≤ ·) → b.Pairwise (· ≤ ·) → a = b
  | [], b, h, _, _ => (List.nil_perm.mp h).symm
  | x :: a, [], h, _, _ => absurd (List.perm_nil.mp h) (by simp)
  | x :: a, y :: b, h, ha, hb => by
    obtain ⟨a1, a2⟩ := List.pairwise_cons.mp ha
    obtain ⟨b1, b2⟩ := List.pairwise_cons.mp hb
    have e : x = y := by
      have h1 : y ≤ x := by
        rcases List.mem_cons.mp (h.mem_iff.mp (List.mem_cons_self (a := x) (l := a))) with e | e
        · omega
        · exact b1 x e
      have h2 : x ≤ y := by
        rcases List.mem_cons.mp (h.mem_iff.mpr (List.mem_cons_self (a := y) (l := b))) with e | e
        · omega
        · exact a1 y e
      omega
    subst e
    rw [asc_uniq (List.Perm.cons_inv h) a2 b2]
end PL
end
section
set_option autoImplicit false
set_option Elab.async false
set_option linter.all false
set_option maxRecDepth 100000
set_option maxHeartbeats 1000000
/-! The pure layer stands for the hand layer: relations between values, memories and the abstract heap. -/
namespace PL
open PySem L2
theorem SL_eq : sizeLine = SL := by rw [sizeLine_eq]
mutual
/-- a value of the hand layer bears a pure one; ρ: where the cells stand -/
def Rep (K : PySem.W.Frag) (H : Hp) (ρ : List Addr) : PV → V → Prop
  | .non, v => v = .non
  | .bl b, v => v = .bl b
  | .int i, v => v = .int i
  | .str x, v => v = .str x
  | .cst a, v => v = .ref a
  | .tup l, v => ∃ a xs, v = .ref a ∧ SqT K H a xs ∧ Reps K H ρ l xs
  | .ref n, v => ∃ a, ρ[n]? = some a ∧ v = .ref a
def Reps (K : PySem.W.Frag) (H : Hp) (ρ : List Addr) : List PV → List V → Prop
  | [], xs => xs = []
  | p :: ps, xs => ∃ y ys, xs = y :: ys ∧ Rep K H ρ p y ∧ Reps K H ρ ps ys
end
/-- a list that is only read -/
def RoL (K : PySem.W.Frag) (H : Hp) (a : Addr) (xs : List V) : Prop := (∃ o, H a = some (.frz o (.lst xs))) ∨ ∀ H', SqL K H' a xs
theorem RoL.seq {K : PySem.W.Frag} {H : Hp} {a : Addr} {xs : List V} (h : RoL K H a xs) : SqL K H a xs := by
  rcases h with ⟨o, h⟩ | h
  · exact .inl (.inr ⟨o, h⟩)
  · exact h H
def RepK (K : PySem.W.Frag) (H : Hp) (ρ : List Addr) : List (Sum Int Str × PV) → List (Key × V) → Prop
  | [], xs => xs = []
  | p :: ps, xs => ∃ y ys, xs = (p.1, y) :: ys ∧ Rep K H ρ p.2 y ∧ RepK K H ρ ps ys
def RepO (K : PySem.W.Frag) (H : Hp) (ρ : List Addr) : PO → Addr → Prop
  | .lst l, a => ∃ xs, H a = some (.lst xs) ∧ Reps K H ρ l xs
  | .ro l, a => ∃ xs, RoL K H a xs ∧ Reps K H ρ l xs
  | .dct kvs, a => ∃ xs, H a = some (.dK xs) ∧ RepK K H ρ kvs xs
/-- a cell that may be written -/
def PO.mut : PO → Bool
  | .ro _ => false
  | _ => true
structure MemOk (K : PySem.W.Frag) (H : Hp) (ρ : List Addr) (μ : Mem) : Prop where
  len : ρ.length = μ.length
  at' : ∀ (n : Nat) (o : PO) (a : Addr), μ[n]? = some o → ρ[n]? = some a → RepO K H ρ o a
  inj : ∀ (n m : Nat) (a : Addr) (o u : PO), ρ[n]? = some a → ρ[m]? = some a → μ[n]? = some o → μ[m]? = some u → o.mut = true → u.mut = true → n = m
structure EnvOk (K : PySem.W.Frag) (H : Hp) (ρ : List Addr) (env : Env) (σ : L2.St) : Prop where
  len : env.length = σ.length
  at' : ∀ (i : Nat) (p : PV), env[i]? = some (some p) → ∃ x, σ[i]? = some (some x) ∧ Rep K H ρ p x
/-- the tuples stay -/
def Keep (K : PySem.W.Frag) (H H' : Hp) : Prop := ∀ a xs, SqT K H a xs → SqT K H' a xs
theorem Keep.refl (K : PySem.W.Frag) (H : Hp) : Keep K H H := fun _ _ h => h
theorem Keep.trans {K : PySem.W.Frag} {H H1 H2 : Hp} (a : Keep K H H1) (b : Keep K H1 H2) : Keep K H H2 := fun c xs h => b c xs (a c xs h)
theorem Keep.upd {K : PySem.W.Frag} {H : Hp} {p : Addr} {o : HO} (h : ∀ xs, H p ≠ some (.tup xs)) (h' : ∀ ob xs, H p ≠ some (.frz ob (.tup xs))) : Keep K H (upd H p o) := by
  intro a xs k
  rcases k with (k | ⟨ob, k⟩) | k
  · exact .inl (.inl (by rw [upd_ne (show a ≠ p from fun e => by subst e; exact h xs k)]; exact k))
  · exact .inl (.inr ⟨ob, by rw [upd_ne (show a ≠ p from fun e => by subst e; exact h' ob xs k)]; exact k⟩)
  · exact .inr k
/-- a later state: more cells, the tuples as they were -/
structure Lat (K : PySem.W.Frag) (H : Hp) (ρ : List Addr) (H' : Hp) (ρ' : List Addr) : Prop where
  pre : ∃ t, ρ' = ρ ++ t
  keep : Keep K H H'
theorem Lat.refl (K : PySem.W.Frag) (H : Hp) (ρ : List Addr) : Lat K H ρ H ρ := ⟨⟨[], by simp⟩, .refl K H⟩
section
variable {K : PySem.W.Frag} {H H' H1 H2 : Hp} {ρ ρ' ρ1 ρ2 : List Addr}
theorem Lat.trans (a : Lat K H ρ H1 ρ1) (b : Lat K H1 ρ1 H2 ρ2) : Lat K H ρ H2 ρ2 := by
  obtain ⟨t, rfl⟩ := a.pre
  obtain ⟨u, rfl⟩ := b.pre
  exact ⟨⟨t ++ u, by simp⟩, a.keep.trans b.keep⟩
theorem Lat.get (l : Lat K H ρ H' ρ') {n : Nat} {a : Addr} (h : ρ[n]? = some a) : ρ'[n]? = some a := by
  obtain ⟨t, rfl⟩ := l.pre
  rw [List.getElem?_append_left (List.getElem?_eq_some_iff.mp h).1]
  exact h
mutual
theorem Rep.mono (l : Lat K H ρ H' ρ') : ∀ (p : PV) (x : V), Rep K H ρ p x → Rep K H' ρ' p x
  | .non, _, h => by simpa only [Rep] using h
  | .bl _, _, h => by simpa only [Rep] using h
  | .int _, _, h => by simpa only [Rep] using h
  | .str _, _, h => by simpa only [Rep] using h
  | .cst _, _, h => by simpa only [Rep] using h
  | .tup ps, x, h => by
    simp only [Rep] at h ⊢
    obtain ⟨a, xs, e, s, r⟩ := h
    exact ⟨a, xs, e, l.keep a xs s, Reps.mono l ps xs r⟩
  | .ref n, x, h => by
    simp only [Rep] at h ⊢
    obtain ⟨a, e, r⟩ := h
    exact ⟨a, l.get e, r⟩
theorem Reps.mono (l : Lat K H ρ H' ρ') : ∀ (ps : List PV) (xs : List V), Reps K H ρ ps xs → Reps K H' ρ' ps xs
  | [], _, h => by simpa only [Reps] using h
  | p :: ps, xs, h => by
    simp only [Reps] at h ⊢
    obtain ⟨y, ys, e, r, t⟩ := h
    exact ⟨y, ys, e, Rep.mono l p y r, Reps.mono l ps ys t⟩
end
theorem RepK.mono (l : Lat K H ρ H' ρ') : ∀ (ps : List (Sum Int Str × PV)) (xs : List (Key × V)), RepK K H ρ ps xs → RepK K H' ρ' ps xs
  | [], _, h => h
  | p :: ps, xs, h => by
    obtain ⟨y, ys, e, r, t⟩ := h
    exact ⟨y, ys, e, Rep.mono l p.2 y r, RepK.mono l ps ys t⟩
theorem EnvOk.mono {env : Env} {σ : L2.St} (e : EnvOk K H ρ env σ) (l : Lat K H ρ H' ρ') : EnvOk K H' ρ' env σ :=
  ⟨e.len, fun i p h => let ⟨x, a, b⟩ := e.at' i p h; ⟨x, a, Rep.mono l p x b⟩⟩
theorem Reps.length : ∀ {ps : List PV} {xs : List V}, Reps K H ρ ps xs → xs.length = ps.length
  | [], xs, h => by simp only [Reps] at h; subst h; rfl
  | p :: ps, xs, h => by
    simp only [Reps] at h
    obtain ⟨y, ys, rfl, _, t⟩ := h
    simp [Reps.length t]
theorem Reps.get : ∀ {ps : List PV} {xs : List V} {i : Nat} {p : PV}, Reps K H ρ ps xs → ps[i]? = some p → ∃ x, xs[i]? = some x ∧ Rep K H ρ p x
  | [], xs, i, p, h, e => by simp at e
  | q :: ps, xs, 0, p, h, e => by
    simp only [Reps] at h
    obtain ⟨y, ys, rfl, r, _⟩ := h
    simp only [List.getElem?_cons_zero, Option.some.injEq] at e
    subst e
    exact ⟨y, rfl, r⟩
  | q :: ps, xs, i + 1, p, h, e => by
    simp only [Reps] at h
    obtain ⟨y, ys, rfl, _, t⟩ := h
    simp only [List.getElem?_cons_succ] at e
    obtain ⟨x, a, b⟩ := Reps.get (i := i) t e
    exact ⟨x, by simpa using a, b⟩
theorem Reps.nil : Reps K H ρ [] [] := by simp only [Reps]
theorem Reps.cons {p : PV} {ps : List PV} {x : V} {xs : List V} (r : Rep K H ρ p x) (t : Reps K H ρ ps xs) : Reps K H ρ (p :: ps) (x :: xs) := by
  simp only [Reps]
  exact ⟨x, xs, rfl, r, t⟩
theorem Reps.cons_iff {p : PV} {ps : List PV} {zs : List V} : Reps K H ρ (p :: ps) zs ↔ ∃ x xs, zs = x :: xs ∧ Rep K H ρ p x ∧ Reps K H ρ ps xs := by
  simp only [Reps]
theorem Reps.append : ∀ {ps qs : List PV} {xs ys : List V}, Reps K H ρ ps xs → Reps K H ρ qs ys → Reps K H ρ (ps ++ qs) (xs ++ ys)
  | [], _, xs, _, h, t => by simp only [Reps] at h; subst h; exact t
  | p :: ps, _, xs, _, h, t => by
    obtain ⟨y, ys, rfl, r, u⟩ := Reps.cons_iff.mp h
    exact .cons r (Reps.append u t)
theorem Reps.take : ∀ {ps : List PV} {xs : List V} (n : Nat), Reps K H ρ ps xs → Reps K H ρ (ps.take n) (xs.take n)
  | [], xs, n, h => by simp only [Reps] at h; subst h; simp [Reps]
  | p :: ps, xs, 0, h => by simp [Reps]
  | p :: ps, xs, n + 1, h => by
    obtain ⟨y, ys, rfl, r, u⟩ := Reps.cons_iff.mp h
    simp only [List.take_succ_cons]
    exact .cons r (Reps.take n u)
theorem Reps.drop : ∀ {ps : List PV} {xs : List V} (n : Nat), Reps K H ρ ps xs → Reps K H ρ (ps.drop n) (xs.drop n)
  | [], xs, n, h => by simp only [Reps] at h; subst h; simp [Reps]
  | p :: ps, xs, 0, h => by simpa using h
  | p :: ps, xs, n + 1, h => by
    obtain ⟨y, ys, rfl, r, u⟩ := Reps.cons_iff.mp h
    simp only [List.drop_succ_cons]
    exact Reps.drop n u
theorem Reps.set : ∀ {ps : List PV} {xs : List V} {p : PV} {x : V} (n : Nat), Reps K H ρ ps xs → Rep K H ρ p x → Reps K H ρ (ps.set n p) (xs.set n x)
  | [], xs, _, _, n, h, _ => by simp only [Reps] at h; subst h; simp [Reps]
  | p :: ps, xs, _, _, 0, h, r => by
    obtain ⟨y, ys, rfl, _, u⟩ := Reps.cons_iff.mp h
    exact .cons r u
  | p :: ps, xs, _, _, n + 1, h, r => by
    obtain ⟨y, ys, rfl, q, u⟩ := Reps.cons_iff.mp h
    exact .cons q (Reps.set n u r)
theorem Reps.erase : ∀ {ps : List PV} {xs : List V} (n : Nat), Reps K H ρ ps xs → Reps K H ρ (ps.eraseIdx n) (xs.eraseIdx n)
  | [], xs, n, h => by simp only [Reps] at h; subst h; simp [Reps]
  | p :: ps, xs, 0, h => by
    obtain ⟨y, ys, rfl, _, u⟩ := Reps.cons_iff.mp h
    exact u
  | p :: ps, xs, n + 1, h => by
    obtain ⟨y, ys, rfl, q, u⟩ := Reps.cons_iff.mp h
    exact .cons q (Reps.erase n u)
theorem Reps.dropLast {ps : List PV} {xs : List V} (h : Reps K H ρ ps xs) : Reps K H ρ ps.dropLast xs.dropLast := by
  rw [List.dropLast_eq_take, List.dropLast_eq_take, h.length]
  exact h.take _
theorem Reps.reverse : ∀ {ps : List PV} {xs : List V}, Reps K H ρ ps xs → Reps K H ρ ps.reverse xs.reverse
  | [], xs, h => by simp only [Reps] at h; subst h; simp [Reps]
  | p :: ps, xs, h => by
    obtain ⟨y, ys, rfl, q, u⟩ := Reps.cons_iff.mp h
    rw [List.reverse_cons, List.reverse_cons]
    exact (Reps.reverse u).append (.cons q .nil)
theorem Reps.rep {ps : List PV} {xs : List V} (h : Reps K H ρ ps xs) : ∀ n : Nat, Reps K H ρ (List.replicate n ps).flatten (List.replicate n xs).flatten
  | 0 => by simp [Reps]
  | n + 1 => by
    rw [List.replicate_succ, List.replicate_succ, List.flatten_cons, List.flatten_cons]
    exact h.append (Reps.rep h n)
theorem RepO.mono {o : PO} {a : Addr} (l : Lat K H ρ H' ρ') (hs : H' a = H a) (h : RepO K H ρ o a) : RepO K H' ρ' o a := by
  cases o with
  | lst ps => obtain ⟨xs, e, r⟩ := h; exact ⟨xs, hs.trans e, Reps.mono l ps xs r⟩
  | ro ps =>
    obtain ⟨xs, e, r⟩ := h
    refine ⟨xs, ?_, Reps.mono l ps xs r⟩
    rcases e with ⟨o, e⟩ | e
    · exact .inl ⟨o, hs.trans e⟩
    · exact .inr e
  | dct ps => obtain ⟨xs, e, r⟩ := h; exact ⟨xs, hs.trans e, RepK.mono l ps xs r⟩
/-- a new cell -/
theorem MemOk.push {μ : Mem} {p : Addr} {ho : HO} {o : PO} (M : MemOk K H ρ μ) (hp : H p = none) (h : ∀ H' ρ', Lat K H ρ H' ρ' → H' p = some ho → RepO K H' ρ' o p) :
    MemOk K (upd H p ho) (ρ ++ [p]) (μ ++ [o]) ∧ Lat K H ρ (upd H p ho) (ρ ++ [p]) := by
  have L : Lat K H ρ (upd H p ho) (ρ ++ [p]) := ⟨⟨[p], rfl⟩, .upd (fun xs e => by rw [hp] at e; cases e) fun ob xs e => by rw [hp] at e; cases e⟩
  have hl := M.len
  have old : ∀ n u a, μ[n]? = some u → ρ[n]? = some a → RepO K (upd H p ho) (ρ ++ [p]) u a ∧ (u.mut = true → a ≠ p) := fun n u a hu ha => by
    have r := M.at' n u a hu ha
    by_cases e : a = p
    · subst e
      cases u with
      | lst ps => obtain ⟨xs, e, _⟩ := r; rw [hp] at e; cases e
      | ro ps =>
        obtain ⟨xs, e, q⟩ := r
        rcases e with ⟨o', e⟩ | e
        · rw [hp] at e; cases e
        · exact ⟨⟨xs, .inr e, Reps.mono L ps xs q⟩, fun z => nomatch z⟩
      | dct ps => obtain ⟨xs, e, _⟩ := r; rw [hp] at e; cases e
    · exact ⟨r.mono L (upd_ne e), fun _ => e⟩
  refine ⟨⟨by simp [hl], fun n u a hu ha => ?_, fun n m a u w hn hm hu hw mu mw => ?_⟩, L⟩
  · by_cases hn : n < μ.length
    · rw [List.getElem?_append_left hn] at hu
      rw [List.getElem?_append_left (by omega)] at ha
      exact (old n u a hu ha).1
    · have hn2 : n = μ.length := by
        have := (List.getElem?_eq_some_iff.mp hu).1
        simp at this
        omega
      subst hn2
      rw [List.getElem?_append_right (Nat.le_refl _)] at hu
      rw [List.getElem?_append_right (by omega)] at ha
      simp [hl] at hu ha
      subst hu ha
      exact h _ _ L upd_same
  · have key : ∀ k (b : Addr) (z : PO), (ρ ++ [p])[k]? = some b → (μ ++ [o])[k]? = some z → z.mut = true → (k < μ.length ∧ ρ[k]? = some b ∧ μ[k]? = some z ∧ b ≠ p) ∨ (k = μ.length ∧ b = p) := fun k b z hb hz mz => by
      by_cases hk : k < μ.length
      · rw [List.getElem?_append_left hk] at hz
        rw [List.getElem?_append_left (by omega)] at hb
        exact .inl ⟨hk, hb, hz, (old k z b hz hb).2 mz⟩
      · have hk2 : k = μ.length := by
          have := (List.getElem?_eq_some_iff.mp hz).1
          simp at this
          omega
        subst hk2
        rw [List.getElem?_append_right (by omega)] at hb
        simp [hl] at hb
        exact .inr ⟨rfl, hb.symm⟩
    rcases key n a u hn hu mu with ⟨h1, h2, h3, h4⟩ | ⟨h1, h2⟩
    · rcases key m a w hm hw mw with ⟨g1, g2, g3, g4⟩ | ⟨g1, g2⟩
      · exact M.inj n m a u w h2 g2 h3 g3 mu mw
      · exact absurd g2 h4
    · rcases key m a w hm hw mw with ⟨g1, g2, g3, g4⟩ | ⟨g1, g2⟩
      · exact absurd h2 g4
      · omega
/-- a cell written -/
theorem MemOk.set {μ : Mem} {n : Nat} {p : Addr} {ho : HO} {o u : PO} (M : MemOk K H ρ μ) (hn : μ[n]? = some o) (hr : ρ[n]? = some p) (hm : o.mut = true)
    (h : RepO K (upd H p ho) ρ u p) : MemOk K (upd H p ho) ρ (μ.set n u) ∧ Lat K H ρ (upd H p ho) ρ := by
  have hH : (∃ xs, H p = some (.lst xs)) ∨ ∃ xs, H p = some (.dK xs) := by
    have r := M.at' n o p hn hr
    cases o with
    | lst ps => obtain ⟨xs, e, _⟩ := r; exact .inl ⟨xs, e⟩
    | ro ps => cases hm
    | dct ps => obtain ⟨xs, e, _⟩ := r; exact .inr ⟨xs, e⟩
  have L : Lat K H ρ (upd H p ho) ρ := by
    refine ⟨⟨[], by simp⟩, .upd (fun xs e => ?_) fun ob xs e => ?_⟩
    · rcases hH with ⟨ys, q⟩ | ⟨ys, q⟩ <;> (rw [q] at e; cases e)
    · rcases hH with ⟨ys, q⟩ | ⟨ys, q⟩ <;> (rw [q] at e; cases e)
  have hnl : n < μ.length := (List.getElem?_eq_some_iff.mp hn).1
  refine ⟨⟨by simp [M.len], fun m w a hw ha => ?_, fun k m a w z hk hm' hw hz mw mz => ?_⟩, L⟩
  · by_cases e : n = m
    · subst e
      rw [List.getElem?_set_self hnl] at hw
      rw [hr] at ha
      cases hw
      cases ha
      exact h
    · rw [List.getElem?_set_ne e] at hw
      have r := M.at' m w a hw ha
      by_cases ea : a = p
      · subst ea
        cases w with
        | lst ps => exact absurd (M.inj n m a o _ hr ha hn hw hm rfl) e
        | dct ps => exact absurd (M.inj n m a o _ hr ha hn hw hm rfl) e
        | ro ps =>
          obtain ⟨xs, e1, q⟩ := r
          refine ⟨xs, ?_, Reps.mono L ps xs q⟩
          rcases e1 with ⟨o', e1⟩ | e1
          · rcases hH with ⟨ys, q⟩ | ⟨ys, q⟩ <;> (rw [q] at e1; cases e1)
          · exact .inr e1
      · exact r.mono L (upd_ne ea)
  · have key : ∀ (j : Nat) (y : PO), (μ.set n u)[j]? = some y → y.mut = true → ∃ y', μ[j]? = some y' ∧ y'.mut = true := fun j y hy my => by
      by_cases e : n = j
      · subst e
        exact ⟨o, hn, hm⟩
      · rw [List.getElem?_set_ne e] at hy
        exact ⟨y, hy, my⟩
    obtain ⟨w', hw', mw'⟩ := key k w hw mw
    obtain ⟨z', hz', mz'⟩ := key m z hz mz
    exact M.inj k m a w' z' hk hm' hw' hz' mw' mz'
/-- a new tuple, which is no cell -/
theorem MemOk.other {μ : Mem} {p : Addr} {ho : HO} (M : MemOk K H ρ μ) (hp : H p = none) : MemOk K (upd H p ho) ρ μ ∧ Lat K H ρ (upd H p ho) ρ := by
  have L : Lat K H ρ (upd H p ho) ρ := ⟨⟨[], by simp⟩, .upd (fun xs e => by rw [hp] at e; cases e) fun ob xs e => by rw [hp] at e; cases e⟩
  refine ⟨⟨M.len, fun n u a hu ha => ?_, M.inj⟩, L⟩
  have r := M.at' n u a hu ha
  by_cases e : a = p
  · subst e
    cases u with
    | lst ps => obtain ⟨xs, e, _⟩ := r; rw [hp] at e; cases e
    | ro ps =>
      obtain ⟨xs, e, q⟩ := r
      rcases e with ⟨o', e⟩ | e
      · rw [hp] at e; cases e
      · exact ⟨xs, .inr e, Reps.mono L ps xs q⟩
    | dct ps => obtain ⟨xs, e, _⟩ := r; rw [hp] at e; cases e
  · exact r.mono L (upd_ne e)
end
end PL
end
section
set_option autoImplicit false
set_option Elab.async false
set_option linter.all false
set_option maxRecDepth 100000
set_option maxHeartbeats 1000000
/-! What a pure result asks; the judgements; operations by values. -/
namespace PL
open PySem L2
section
variable (K : PySem.W.Frag) (mg : Str → Option Value) (E : XK)
/-- fields of an exception -/
def RepF (H : Hp) (ρ : List Addr) (fs : List (Str × PV)) (ys : List (Str × V)) : Prop := fs.map (·.1) = ys.map (·.1) ∧ Reps K H ρ (fs.map (·.2)) (ys.map (·.2))
/-- what a pure result asks of the wish Q -/
def Post {α β : Type} (R : Hp → List Addr → α → β → Prop) (H : Hp) (ρ : List Addr) (Q : β → Hp → Prop) : Res α → Prop
  | .ok a m => ∀ b H' ρ', Lat K H ρ H' ρ' → MemOk K H' ρ' m → R H' ρ' a b → Q b H'
  | .exc x m => ∃ C, mg x.cls = some (.ref C) ∧ ∀ H' ρ', Lat K H ρ H' ρ' → MemOk K H' ρ' m → match x.fs with
    | [] => E (.ref C) none H'
    | fs => ∀ d ys, H' d = some (.xd ys) → RepF K H' ρ' fs ys → E (.ref C) (some d) H'
  | .stuck => False
variable {K mg E} {α β γ δ : Type} {R : Hp → List Addr → α → β → Prop} {R' : Hp → List Addr → γ → δ → Prop} {H H1 : Hp} {ρ ρ1 : List Addr} {Q : β → Hp → Prop}
theorem Post.later {r : Res α} (h : Post K mg E R H ρ Q r) (l : Lat K H ρ H1 ρ1) : Post K mg E R H1 ρ1 Q r := by
  cases r with
  | ok a m => exact fun b H' ρ' l' => h b H' ρ' (l.trans l')
  | exc x m => obtain ⟨C, e, h⟩ := h; exact ⟨C, e, fun H' ρ' l' => h H' ρ' (l.trans l')⟩
  | stuck => exact h
theorem Post.imp {r : Res α} {Q' : β → Hp → Prop} (h : Post K mg E R H ρ Q r) (i : ∀ b H', Q b H' → Q' b H') : Post K mg E R H ρ Q' r := by
  cases r with
  | ok a m => exact fun b H' ρ' l M r => i _ _ (h b H' ρ' l M r)
  | exc x m => exact h
  | stuck => exact h
theorem Post.rel {R2 : Hp → List Addr → α → β → Prop} {r : Res α} (h : Post K mg E R H ρ Q r) (i : ∀ H' ρ' a b, R2 H' ρ' a b → R H' ρ' a b) : Post K mg E R2 H ρ Q r := by
  cases r with
  | ok a m => exact fun b H' ρ' l M q => h b H' ρ' l M (i _ _ _ _ q)
  | exc x m => exact h
  | stuck => exact h
theorem Post.bind {r : Res α} {k : α → Mem → Res γ} {Q' : δ → Hp → Prop} (h : Post K mg E R' H ρ Q' (r.bind k)) :
    Post K mg E R H ρ (fun b H1 => ∃ a m ρ1, r = .ok a m ∧ Lat K H ρ H1 ρ1 ∧ MemOk K H1 ρ1 m ∧ R H1 ρ1 a b ∧ Post K mg E R' H1 ρ1 Q' (k a m)) r := by
  cases r with
  | ok a m => exact fun b H' ρ' l M r => ⟨a, m, ρ', rfl, l, M, r, Post.later (r := k a m) h l⟩
  | exc x m => exact h
  | stuck => exact h
theorem Post.val {a : α} {μ : Mem} {b : β} (h : Post K mg E R H ρ Q (.ok a μ)) (M : MemOk K H ρ μ) (r : R H ρ a b) : Q b H := h b H ρ (.refl K H ρ) M r
end
section
variable {K : PySem.W.Frag} {mg : Str → Option Value} {E : XK} {H : Hp} {ρ : List Addr} {Q : V → Hp → Prop} {μ : Mem}
abbrev RP (K : PySem.W.Frag) : Hp → List Addr → PV → V → Prop := Rep K
theorem Post.newL {l : List PV} {xs : List V} (h : Post K mg E (RP K) H ρ Q (newL l μ)) (M : MemOk K H ρ μ) (r : Reps K H ρ l xs) : ∀ p, H p = none → Q (.ref p) (upd H p (.lst xs)) := fun p hp => by
  have q := M.push (ho := .lst xs) (o := .lst l) hp fun H' ρ' L e => ⟨xs, e, Reps.mono L l xs r⟩
  refine h (.ref p) _ _ q.2 q.1 ?_
  show Rep K _ _ (.ref μ.length) (.ref p)
  simp only [Rep]
  exact ⟨p, by rw [← M.len, List.getElem?_append_right (Nat.le_refl _)]; simp, rfl⟩
theorem Post.newT {l : List PV} {xs : List V} (h : Post K mg E (RP K) H ρ Q (.ok (.tup l) μ)) (M : MemOk K H ρ μ) (r : Reps K H ρ l xs) : ∀ p, H p = none → Q (.ref p) (upd H p (.tup xs)) := fun p hp => by
  have q := M.other (ho := .tup xs) hp
  refine h (.ref p) _ _ q.2 q.1 ?_
  show Rep K _ _ (.tup l) (.ref p)
  simp only [Rep]
  exact ⟨p, xs, rfl, SqT.of upd_same, Reps.mono q.2 l xs r⟩
/-- a cell is written -/
theorem Post.write {n : Nat} {a : Addr} {l l' : List PV} {xs' : List V} {p : PV} {b : V} (h : Post K mg E (RP K) H ρ Q (.ok p (μ.set n (.lst l')))) (M : MemOk K H ρ μ) (hn : μ[n]? = some (.lst l)) (ha : ρ[n]? = some a)
    (r : Reps K H ρ l' xs') (rp : Rep K H ρ p b) : Q b (upd H a (.lst xs')) := by
  have L0 : Lat K H ρ (upd H a (.lst xs')) ρ := by
    obtain ⟨ys, e, _⟩ := M.at' n _ a hn ha
    exact ⟨⟨[], by simp⟩, .upd (fun xs q => by rw [e] at q; cases q) fun ob xs q => by rw [e] at q; cases q⟩
  have q := M.set (ho := .lst xs') (u := .lst l') hn ha rfl ⟨xs', upd_same, Reps.mono L0 l' xs' r⟩
  exact h b _ _ q.2 q.1 (Rep.mono q.2 p b rp)
/-! what is read -/
theorem rep_ref {n : Nat} {x : V} (M : MemOk K H ρ μ) (r : Rep K H ρ (.ref n) x) : ∃ a, ρ[n]? = some a ∧ x = .ref a := by simpa only [Rep] using r
theorem mem_lst {n : Nat} {x : V} {l : List PV} (M : MemOk K H ρ μ) (r : Rep K H ρ (.ref n) x) (e : μ[n]? = some (.lst l)) : ∃ a xs, ρ[n]? = some a ∧ x = .ref a ∧ H a = some (.lst xs) ∧ Reps K H ρ l xs := by
  obtain ⟨a, h1, h2⟩ := rep_ref M r
  obtain ⟨xs, h3, h4⟩ := M.at' n _ a e h1
  exact ⟨a, xs, h1, h2, h3, h4⟩
theorem getL_ref {n : Nat} {x : V} {l : List PV} (M : MemOk K H ρ μ) (r : Rep K H ρ (.ref n) x) (e : getL μ (.ref n) = some l) : ∃ a xs, x = .ref a ∧ SqL K H a xs ∧ Reps K H ρ l xs ∧ (μ[n]? = some (.lst l) ∨ μ[n]? = some (.ro l)) := by
  obtain ⟨a, h1, h2⟩ := rep_ref M r
  simp only [getL] at e
  split at e
  · rename_i l' q
    cases e
    obtain ⟨xs, h3, h4⟩ := M.at' n _ a q h1
    exact ⟨a, xs, h2, SqL.of h3, h4, .inl q⟩
  · rename_i l' q
    cases e
    obtain ⟨xs, h3, h4⟩ := M.at' n _ a q h1
    exact ⟨a, xs, h2, h3.seq, h4, .inr q⟩
  · cases e
theorem rep_tup {x : V} {l : List PV} (r : Rep K H ρ (.tup l) x) : ∃ a xs, x = .ref a ∧ SqT K H a xs ∧ Reps K H ρ l xs := by simpa only [Rep] using r
theorem getL_any {p : PV} {x : V} {l : List PV} (M : MemOk K H ρ μ) (r : Rep K H ρ p x) (e : getL μ p = some l) : ∃ a xs, x = .ref a ∧ (SqL K H a xs ∨ SqT K H a xs) ∧ Reps K H ρ l xs := by
  cases p with
  | tup l' =>
    simp only [getL, Option.some.injEq] at e
    subst e
    obtain ⟨a, xs, h1, h2, h3⟩ := rep_tup r
    exact ⟨a, xs, h1, .inr h2, h3⟩
  | ref n =>
    obtain ⟨a, xs, h1, h2, h3, _⟩ := getL_ref M r e
    exact ⟨a, xs, h1, .inl h2, h3⟩
  | _ => simp [getL] at e
theorem intsOf_map : ∀ {l : List PV} {is : List Int} {xs : List V}, intsOf l = some is → Reps K H ρ l xs → xs = is.map V.int
  | [], is, xs, e, r => by
    simp only [intsOf, Option.some.injEq] at e
    subst e
    simp only [Reps] at r
    exact r
  | p :: ps, is, xs, e, r => by
    cases p with
    | int i =>
      obtain ⟨y, ys, rfl, h1, h2⟩ := Reps.cons_iff.mp r
      simp only [intsOf] at e
      cases q : intsOf ps with
      | none => rw [q] at e; simp at e
      | some js =>
        rw [q] at e
        simp only [Option.map_some, Option.some.injEq] at e
        subst e
        simp only [Rep] at h1
        rw [h1, intsOf_map q h2]
        rfl
    | _ => simp [intsOf] at e
theorem boolsOf_map : ∀ {l : List PV} {is : List Bool} {xs : List V}, boolsOf l = some is → Reps K H ρ l xs → xs = is.map V.bl
  | [], is, xs, e, r => by
    simp only [boolsOf, Option.some.injEq] at e
    subst e
    simp only [Reps] at r
    exact r
  | p :: ps, is, xs, e, r => by
    cases p with
    | bl i =>
      obtain ⟨y, ys, rfl, h1, h2⟩ := Reps.cons_iff.mp r
      simp only [boolsOf] at e
      cases q : boolsOf ps with
      | none => rw [q] at e; simp at e
      | some js =>
        rw [q] at e
        simp only [Option.map_some, Option.some.injEq] at e
        subst e
        simp only [Rep] at h1
        rw [h1, boolsOf_map q h2]
        rfl
    | _ => simp [boolsOf] at e
mutual
theorem dp_conv {r : Nat → Option PyData} (hr : ∀ n d x, r n = some d → Rep K H ρ (.ref n) x → Dp K H x d) : ∀ (p : PV) (d : PyData) (x : V), PV.conv r p = some d → Rep K H ρ p x → Dp K H x d
  | .non, d, x, e, h => by simp only [PV.conv, Option.some.injEq] at e; subst e; simp only [Rep] at h; subst h; exact .non
  | .bl b, d, x, e, h => by simp only [PV.conv, Option.some.injEq] at e; subst e; simp only [Rep] at h; subst h; exact .bl b
  | .int b, d, x, e, h => by simp only [PV.conv, Option.some.injEq] at e; subst e; simp only [Rep] at h; subst h; exact .int b
  | .str b, d, x, e, h => by simp only [PV.conv, Option.some.injEq] at e; subst e; simp only [Rep] at h; subst h; exact .str b
  | .tup l, d, x, e, h => by
    simp only [PV.conv] at e
    obtain ⟨a, xs, rfl, h2, h3⟩ := rep_tup h
    cases q : PV.convs r l with
    | none => rw [q] at e; simp at e
    | some ds =>
      rw [q] at e
      simp only [Option.map_some, Option.some.injEq] at e
      subst e
      exact .tup h2 (dp_convs hr l ds xs q h3)
  | .ref n, d, x, e, h => hr n d x (by simpa only [PV.conv] using e) h
  | .cst _, d, x, e, h => by simp [PV.conv] at e
theorem dp_convs {r : Nat → Option PyData} (hr : ∀ n d x, r n = some d → Rep K H ρ (.ref n) x → Dp K H x d) : ∀ (l : List PV) (ds : List PyData) (xs : List V), PV.convs r l = some ds → Reps K H ρ l xs → DpAll K H xs ds
  | [], ds, xs, e, h => by simp only [PV.convs, Option.some.injEq] at e; subst e; simp only [Reps] at h; subst h; exact .nil
  | p :: ps, ds, xs, e, h => by
    obtain ⟨y, ys, rfl, h1, h2⟩ := Reps.cons_iff.mp h
    simp only [PV.convs] at e
    cases q : PV.conv r p with
    | none => rw [q] at e; simp at e
    | some d =>
      rw [q] at e
      simp only [Option.bind_some] at e
      cases q2 : PV.convs r ps with
      | none => rw [q2] at e; simp at e
      | some es =>
        rw [q2] at e
        simp only [Option.map_some, Option.some.injEq] at e
        subst e
        exact .cons (dp_conv hr p d y q h1) (dp_convs hr ps es ys q2 h2)
end
theorem dp_toDn (M : MemOk K H ρ μ) : ∀ (n : Nat) (p : PV) (d : PyData) (x : V), toDn μ n p = some d → Rep K H ρ p x → Dp K H x d
  | 0, p, d, x, e, h => dp_conv (fun _ _ _ q => by cases q) p d x e h
  | n + 1, p, d, x, e, h => by
    have hr : ∀ (k : Nat) (d : PyData) (x : V), (match μ[k]? with
        | some (.lst l) => (PV.convs (fun j => toDn μ n (.ref j)) l).map PyData.list
        | some (.ro l) => (PV.convs (fun j => toDn μ n (.ref j)) l).map PyData.list
        | _ => none) = some d → Rep K H ρ (.ref k) x → Dp K H x d := fun k d x e h => by
      have go : ∀ l, getL μ (.ref k) = some l → (PV.convs (fun j => toDn μ n (.ref j)) l).map PyData.list = some d → Dp K H x d := fun l hl e => by
        obtain ⟨a, xs, rfl, h2, h3, _⟩ := getL_ref M h hl
        cases q : PV.convs (fun j => toDn μ n (.ref j)) l with
        | none => rw [q] at e; simp at e
        | some ds =>
          rw [q] at e
          simp only [Option.map_some, Option.some.injEq] at e
          subst e
          exact .lst h2 (dp_convs (fun j d x q h => dp_toDn M n (.ref j) d x q h) l ds xs q h3)
      split at e
      · rename_i l q; exact go l (by simp [getL, q]) e
      · rename_i l q; exact go l (by simp [getL, q]) e
      · cases e
    exact dp_conv hr p d x e h
theorem dp_toD (M : MemOk K H ρ μ) {p : PV} {d : PyData} {x : V} (e : toD μ p = some d) (h : Rep K H ρ p x) : Dp K H x d := dp_toDn M 5 p d x e h
theorem reps1 {p : PV} {xs : List V} (h : Reps K H ρ [p] xs) : ∃ x, xs = [x] ∧ Rep K H ρ p x := by
  obtain ⟨y, ys, rfl, h1, h2⟩ := Reps.cons_iff.mp h
  simp only [Reps] at h2
  subst h2
  exact ⟨y, rfl, h1⟩
theorem reps2 {p q : PV} {xs : List V} (h : Reps K H ρ [p, q] xs) : ∃ x y, xs = [x, y] ∧ Rep K H ρ p x ∧ Rep K H ρ q y := by
  obtain ⟨y, ys, rfl, h1, h2⟩ := Reps.cons_iff.mp h
  obtain ⟨z, rfl, h3⟩ := reps1 h2
  exact ⟨y, z, rfl, h1, h3⟩
end
/-! ### readings by pure functions of values -/
section
variable (K : PySem.W.Frag) (mg : Str → Option Value) (E : XK) (f : Fn)
def rP2 : R2 := fun x y H Q => ∃ μ ρ p q, MemOk K H ρ μ ∧ Rep K H ρ p x ∧ Rep K H ρ q y ∧ Post K mg E (RP K) H ρ Q (f [p, q] μ)
def rP1 : V → Hp → VK → Prop := fun x H Q => ∃ μ ρ p, MemOk K H ρ μ ∧ Rep K H ρ p x ∧ Post K mg E (RP K) H ρ Q (f [p] μ)
def rPn : List V → Hp → VK → Prop := fun xs H Q => ∃ μ ρ ps, MemOk K H ρ μ ∧ Reps K H ρ ps xs ∧ Post K mg E (RP K) H ρ Q (f ps μ)
def rPm : V → List V → Hp → VK → Prop := fun x xs H Q => ∃ μ ρ p ps, MemOk K H ρ μ ∧ Rep K H ρ p x ∧ Reps K H ρ ps xs ∧ Post K mg E (RP K) H ρ Q (f (p :: ps) μ)
end
theorem vint {K : PySem.W.Frag} {H : Hp} {ρ : List Addr} {i : Int} {x : V} (h : Rep K H ρ (.int i) x) : x = .int i := by simpa only [Rep] using h
theorem vbl {K : PySem.W.Frag} {H : Hp} {ρ : List Addr} {i : Bool} {x : V} (h : Rep K H ρ (.bl i) x) : x = .bl i := by simpa only [Rep] using h
theorem vstr {K : PySem.W.Frag} {H : Hp} {ρ : List Addr} {i : Str} {x : V} (h : Rep K H ρ (.str i) x) : x = .str i := by simpa only [Rep] using h
theorem vnon {K : PySem.W.Frag} {H : Hp} {ρ : List Addr} {x : V} (h : Rep K H ρ .non x) : x = .non := by simpa only [Rep] using h
theorem rint {K : PySem.W.Frag} {H : Hp} {ρ : List Addr} {i : Int} : Rep K H ρ (.int i) (.int i) := by simp only [Rep]
theorem rbl {K : PySem.W.Frag} {H : Hp} {ρ : List Addr} {i : Bool} : Rep K H ρ (.bl i) (.bl i) := by simp only [Rep]
theorem rstr {K : PySem.W.Frag} {H : Hp} {ρ : List Addr} {i : Str} : Rep K H ρ (.str i) (.str i) := by simp only [Rep]
theorem rnon {K : PySem.W.Frag} {H : Hp} {ρ : List Addr} : Rep K H ρ .non .non := by simp only [Rep]
section
variable {X : Cx} {E : XK}
theorem opP_sub : OpR X (binaryOp .Sub) (rP2 X.K X.mg E fSub) := by
  intro pins s σ H x y v u Q I rx ry h
  obtain ⟨μ, ρ, p, q, M, hp, hq, h⟩ := h
  cases p <;> cases q <;> first | exact h.elim | skip
  rename_i i j
  obtain rfl := vint hp
  obtain rfl := vint hq
  exact op_sub pins s σ H _ _ v u Q I rx ry ⟨i, j, rfl, rfl, h.val M rint⟩
theorem opP_add : OpR X (binaryOp .Add) (rP2 X.K X.mg E fAdd) := by
  intro pins s σ H x y v u Q I rx ry h
  obtain ⟨μ, ρ, p, q, M, hp, hq, h⟩ := h
  cases p <;> cases q <;> first | exact h.elim | skip
  · rename_i i j
    obtain rfl := vint hp
    obtain rfl := vint hq
    exact op_add pins s σ H _ _ v u Q I rx ry ⟨i, j, rfl, rfl, h.val M rint⟩
  · rename_i i j
    obtain rfl := vstr hp
    obtain rfl := vstr hq
    simp only [fAdd] at h
    split at h
    · rename_i hz
      exact op_add_str pins s σ H _ _ v u Q I rx ry ⟨i, j, rfl, rfl, by rw [SL_eq]; exact hz, h.val M rstr⟩
    · exact h.elim
  · rename_i i j
    obtain ⟨a, xs, rfl, h1, h2⟩ := rep_tup hp
    obtain ⟨b, ys, rfl, h3, h4⟩ := rep_tup hq
    simp only [fAdd] at h
    split at h
    · rename_i hz
      refine op_catA pins s σ H _ _ v u Q I rx ry ⟨a, b, xs, ys, rfl, rfl, h1, h3, by rw [SL_eq, h2.length, h4.length]; exact hz, fun e => ?_, fun _ e => ?_, fun _ _ => h.newT M (h2.append h4)⟩
      · subst e
        have e2 : i = [] := List.eq_nil_of_length_eq_zero (by rw [← h2.length]; rfl)
        subst e2
        exact h.val M (by show Rep _ _ _ _ _; simp only [Rep]; exact ⟨b, ys, rfl, h3, h4⟩)
      · subst e
        have e2 : j = [] := List.eq_nil_of_length_eq_zero (by rw [← h4.length]; rfl)
        subst e2
        exact h.val M (by show Rep _ _ _ _ _; simp only [Rep]; exact ⟨a, xs, rfl, h1, by simpa using h2⟩)
    · exact h.elim
  · rename_i n m
    simp only [fAdd] at h
    split at h
    · rename_i xs ys e1 e2
      obtain ⟨a, zs, g1, rfl, g3, g4⟩ := mem_lst M hp e1
      obtain ⟨b, ws, k1, rfl, k3, k4⟩ := mem_lst M hq e2
      split at h
      · rename_i hz
        exact op_cat pins s σ H _ _ v u Q I rx ry ⟨a, b, zs, ws, rfl, rfl, g3, k3, by rw [SL_eq, g4.length, k4.length]; exact hz, h.newL M (g4.append k4)⟩
      · exact h.elim
    · exact h.elim
theorem opP_mul : OpR X (binaryOp .Mult) (rP2 X.K X.mg E fMul) := by
  intro pins s σ H x y v u Q I rx ry h
  obtain ⟨μ, ρ, p, q, M, hp, hq, h⟩ := h
  cases p <;> cases q <;> first | exact h.elim | skip
  · rename_i i j
    obtain rfl := vint hp
    obtain rfl := vint hq
    simp only [fMul] at h
    split at h
    · rename_i hz
      have hh := h.val M rint
      rcases hz with hz | hz | hz
      · exact op_mul pins s σ H _ _ v u Q I rx ry ⟨i, j, rfl, rfl, .inl hz, hh⟩
      · exact op_mul pins s σ H _ _ v u Q I rx ry ⟨i, j, rfl, rfl, .inr hz, hh⟩
      · exact op_mulW pins s σ H _ _ v u Q I rx ry ⟨i, j, rfl, rfl, hz, hh⟩
    · exact h.elim
  · rename_i l j
    obtain rfl := vint hq
    obtain ⟨a, xs, rfl, h1, h2⟩ := rep_tup hp
    simp only [fMul] at h
    split at h
    · rename_i hz
      obtain ⟨z1, z2, z3, z4⟩ := hz
      refine op_repT pins s σ H _ _ v u Q I rx ry ⟨a, j, xs, rfl, rfl, h1, fun e => z1 ?_, z2, z3, by rw [h2.length]; exact z4, h.newT M (h2.rep _)⟩
      exact List.eq_nil_of_length_eq_zero (by rw [← h2.length, e]; rfl)
    · exact h.elim
  · rename_i n j
    obtain rfl := vint hq
    simp only [fMul] at h
    split at h
    · rename_i l e1
      obtain ⟨a, zs, g1, rfl, g3, g4⟩ := mem_lst M hp e1
      split at h
      · rename_i hz
        obtain ⟨z1, z2, z3⟩ := hz
        exact op_rep pins s σ H _ _ v u Q I rx ry ⟨a, j, zs, rfl, rfl, g3, z1, z2, by rw [SL_eq, g4.length]; exact z3, h.newL M (g4.rep _)⟩
      · exact h.elim
    · exact h.elim
theorem opP_div : OpR X (binaryOp .FloorDiv) (rP2 X.K X.mg E fDiv) := by
  intro pins s σ H x y v u Q I rx ry h
  obtain ⟨μ, ρ, p, q, M, hp, hq, h⟩ := h
  cases p <;> cases q <;> first | exact h.elim | skip
  rename_i i j
  obtain rfl := vint hp
  obtain rfl := vint hq
  simp only [fDiv] at h
  split at h
  · rename_i hz
    exact op_fdivW pins s σ H _ _ v u Q I rx ry ⟨i, j, rfl, rfl, hz, h.val M rint⟩
  · exact h.elim
theorem opP_mod : OpR X (binaryOp .Mod) (rP2 X.K X.mg E fMod) := by
  intro pins s σ H x y v u Q I rx ry h
  obtain ⟨μ, ρ, p, q, M, hp, hq, h⟩ := h
  cases p <;> cases q <;> first | exact h.elim | skip
  rename_i i j
  obtain rfl := vint hp
  obtain rfl := vint hq
  simp only [fMod] at h
  split at h
  · rename_i hz
    exact op_mod pins s σ H _ _ v u Q I rx ry ⟨i, j, rfl, rfl, hz, h.val M rint⟩
  · exact h.elim
theorem opP_pow : OpR X (binaryOp .Pow) (rP2 X.K X.mg E fPow) := by
  intro pins s σ H x y v u Q I rx ry h
  obtain ⟨μ, ρ, p, q, M, hp, hq, h⟩ := h
  cases p <;> cases q <;> first | exact h.elim | skip
  rename_i i j
  obtain rfl := vint hp
  obtain rfl := vint hq
  simp only [fPow] at h
  split at h
  · rename_i hz
    exact op_pow pins s σ H _ _ v u Q I rx ry ⟨i, j, rfl, rfl, hz, h.val M rint⟩
  · exact h.elim
theorem unP_neg : UnR X (unaryOp .USub) (rP1 X.K X.mg E fNeg) := by
  intro pins s σ H x v Q I rx h
  obtain ⟨μ, ρ, p, M, hp, h⟩ := h
  cases p <;> first | exact h.elim | skip
  rename_i i
  obtain rfl := vint hp
  exact un_neg pins s σ H _ v Q I rx ⟨i, rfl, h.val M rint⟩
theorem cmpP_lt : OpR X (compareOp .Lt) (rP2 X.K X.mg E fLt) := by
  intro pins s σ H x y v u Q I rx ry h
  obtain ⟨μ, ρ, p, q, M, hp, hq, h⟩ := h
  cases p <;> cases q <;> first | exact h.elim | skip
  rename_i i j
  obtain rfl := vint hp
  obtain rfl := vint hq
  exact op_lt pins s σ H _ _ v u Q I rx ry ⟨i, j, rfl, rfl, h.val M rbl⟩
theorem cmpP_le : OpR X (compareOp .LtE) (rP2 X.K X.mg E fLe) := by
  intro pins s σ H x y v u Q I rx ry h
  obtain ⟨μ, ρ, p, q, M, hp, hq, h⟩ := h
  cases p <;> cases q <;> first | exact h.elim | skip
  rename_i i j
  obtain rfl := vint hp
  obtain rfl := vint hq
  exact op_le pins s σ H _ _ v u Q I rx ry ⟨i, j, rfl, rfl, h.val M rbl⟩
theorem cmpP_gt : OpR X (compareOp .Gt) (rP2 X.K X.mg E fGt) := by
  intro pins s σ H x y v u Q I rx ry h
  obtain ⟨μ, ρ, p, q, M, hp, hq, h⟩ := h
  cases p <;> cases q <;> first | exact h.elim | skip
  rename_i i j
  obtain rfl := vint hp
  obtain rfl := vint hq
  exact op_gt pins s σ H _ _ v u Q I rx ry ⟨i, j, rfl, rfl, h.val M rbl⟩
theorem cmpP_ge : OpR X (compareOp .GtE) (rP2 X.K X.mg E fGe) := by
  intro pins s σ H x y v u Q I rx ry h
  obtain ⟨μ, ρ, p, q, M, hp, hq, h⟩ := h
  cases p <;> cases q <;> first | exact h.elim | skip
  rename_i i j
  obtain rfl := vint hp
  obtain rfl := vint hq
  exact op_ge pins s σ H _ _ v u Q I rx ry ⟨i, j, rfl, rfl, h.val M rbl⟩
theorem scal_of {K : PySem.W.Frag} {H : Hp} {ρ : List Addr} {p q : PV} {x y : V} {b : Bool} (hp : Rep K H ρ p x) (hq : Rep K H ρ q y) (e : scalP p q = some b) : scal x y = true ∧ b = decide (x = y) := by
  cases p <;> cases q <;> simp only [scalP, reduceCtorEq, Option.some.injEq] at e <;> subst e
  · rename_i i j
    obtain rfl := vbl hp
    obtain rfl := vbl hq
    exact ⟨rfl, by simp⟩
  · rename_i i j
    obtain rfl := vint hp
    obtain rfl := vint hq
    exact ⟨rfl, by simp⟩
  · rename_i i j
    obtain rfl := vstr hp
    obtain rfl := vstr hq
    exact ⟨rfl, by simp⟩
theorem eq_run {op : CmpOp} {g : Bool → Bool} (h1 : OpR X (compareOp op) (fun x y H Q => scal x y = true ∧ Q (.bl (g (decide (x = y)))) H))
    (h2 : OpR X (compareOp op) (fun x y H Q => ∃ d e, Dp X.K H x d ∧ Dp X.K H y e ∧ SeqAt.shaped d = true ∧ SeqAt.shaped e = true ∧ Q (.bl (g (PyData.eqv d e))) H)) {f : Fn}
    (hf : ∀ p q μ, f [p, q] μ = match eqR μ p q with | some b => .ok (.bl (g b)) μ | none => .stuck) : OpR X (compareOp op) (rP2 X.K X.mg E f) := by
  intro pins s σ H x y v u Q I rx ry h
  obtain ⟨μ, ρ, p, q, M, hp, hq, h⟩ := h
  rw [hf] at h
  cases e : eqR μ p q with
  | none => rw [e] at h; exact h.elim
  | some b =>
    rw [e] at h
    have hv := h.val M rbl
    unfold eqR at e
    cases e2 : scalP p q with
    | some b' =>
      rw [e2] at e
      cases e
      obtain ⟨z1, z2⟩ := scal_of hp hq e2
      exact h1 pins s σ H x y v u Q I rx ry ⟨z1, by rw [← z2]; exact hv⟩
    | none =>
      rw [e2] at e
      simp only at e
      split at e
      · rename_i d d' e3 e4
        split at e
        · rename_i hz
          cases e
          exact h2 pins s σ H x y v u Q I rx ry ⟨d, d', dp_toD M e3 hp, dp_toD M e4 hq, hz.1, hz.2, hv⟩
        · cases e
      · cases e
theorem cmpP_eq (hu : X.A.units + 64 < cLine) : OpR X (compareOp .Eq) (rP2 X.K X.mg E fEq) := eq_run (g := id) op_eq (op_eqD hu) fun _ _ _ => rfl
theorem cmpP_ne (hu : X.A.units + 64 < cLine) : OpR X (compareOp .NotEq) (rP2 X.K X.mg E fNe) := eq_run (g := fun b => !b) op_ne (op_neD hu) fun _ _ _ => rfl
theorem flat_of {K : PySem.W.Frag} {H : Hp} {ρ : List Addr} {p : PV} {x : V} (h : Rep K H ρ p x) (e : flatP p = true) : flatV x = true := by
  cases p <;> simp only [Rep] at h <;> first | (subst h; rfl) | cases e
theorem eqF_of {K : PySem.W.Frag} {H : Hp} {ρ : List Addr} {p q : PV} {x y : V} (h : Rep K H ρ p x) (h' : Rep K H ρ q y) (e : flatP p = true) (e' : flatP q = true) : eqF p q = eqV x y := by
  cases p <;> cases q <;> simp only [Rep] at h h' <;> first | (subst h; subst h'; rfl) | exact absurd e Bool.false_ne_true | exact absurd e' Bool.false_ne_true
theorem flats_of {K : PySem.W.Frag} {H : Hp} {ρ : List Addr} : ∀ {l : List PV} {xs : List V}, Reps K H ρ l xs → l.all flatP = true → xs.all flatV = true
  | [], xs, h, _ => by simp only [Reps] at h; subst h; rfl
  | p :: ps, xs, h, e => by
    obtain ⟨y, ys, rfl, h1, h2⟩ := Reps.cons_iff.mp h
    simp only [List.all_cons, Bool.and_eq_true] at e ⊢
    exact ⟨flat_of h1 e.1, flats_of h2 e.2⟩
theorem anyF_of {K : PySem.W.Frag} {H : Hp} {ρ : List Addr} {p : PV} {x : V} (h : Rep K H ρ p x) (e : flatP p = true) : ∀ {l : List PV} {xs : List V}, Reps K H ρ l xs → l.all flatP = true → (l.any fun z => eqF z p) = inV x xs
  | [], xs, h, _ => by simp only [Reps] at h; subst h; rfl
  | q :: ps, xs, h', e' => by
    obtain ⟨y, ys, rfl, h1, h2⟩ := Reps.cons_iff.mp h'
    simp only [List.all_cons, Bool.and_eq_true] at e'
    have ih := anyF_of h e h2 e'.2
    show (eqF q p || ps.any fun z => eqF z p) = inV x (y :: ys)
    rw [ih, eqF_of h1 h e'.1 e]
    rfl
/-- in, within a tuple of data -/
def rInT (K : PySem.W.Frag) (neg : Bool) : R2 := fun x y H Q => ∃ d ds, Dp K H x d ∧ Dp K H y (.tuple ds) ∧ SeqAt.shaped d = true ∧ SeqAt.shaped (.tuple ds) = true ∧ Q (.bl (if neg then !(ds.any fun z => PyData.eqv z d) else ds.any fun z => PyData.eqv z d)) H
theorem in_tupD (hu : X.A.units + 65 < cLine) : OpR X (compareOp .In) (rInT X.K false) := by
  rintro pins s σ H x y v u Q I rx ry ⟨d, ds, k1, k2, z1, z2, hq⟩
  have ⟨_, a1⟩ := Dp.reads I _ _ _ k1 rx
  have ⟨_, a2⟩ := Dp.reads I _ _ _ k2 ry
  exact SeqAt.in_tuple_reads a2 a1 (SeqAt.canLay_of_shaped z2) (SeqAt.canLay_of_shaped z1) (by have := SeqAt.depth_of_shaped z1; omega) ⟨.bl _, H, I, rfl, hq⟩
theorem notIn_tupD (hu : X.A.units + 65 < cLine) : OpR X (compareOp .NotIn) (rInT X.K true) := by
  rintro pins s σ H x y v u Q I rx ry ⟨d, ds, k1, k2, z1, z2, hq⟩
  have ⟨_, a1⟩ := Dp.reads I _ _ _ k1 rx
  have ⟨_, a2⟩ := Dp.reads I _ _ _ k2 ry
  exact SeqAt.notIn_tuple_reads a2 a1 (SeqAt.canLay_of_shaped z2) (SeqAt.canLay_of_shaped z1) (by have := SeqAt.depth_of_shaped z1; omega) ⟨.bl _, H, I, rfl, hq⟩
theorem in_run {op : CmpOp} {neg : Bool} (h0 : OpR X (compareOp op) (fun x y H Q => ∃ (k : Nat) (z : Str), x = .str ⟨#[k]⟩ ∧ y = .str z ∧ Q (.bl (if neg then !decide (k ∈ z.cps.toList) else decide (k ∈ z.cps.toList))) H))
    (h1 : OpR X (compareOp op) (rIn X.K neg))
    (h2 : OpR X (compareOp op) (fun x y H Q => ∃ d ds, Dp X.K H x d ∧ Dp X.K H y (.list ds) ∧ SeqAt.shaped d = true ∧ SeqAt.shaped (.list ds) = true ∧ Q (.bl (if neg then !(ds.any fun z => PyData.eqv z d) else ds.any fun z => PyData.eqv z d)) H))
    (h3 : OpR X (compareOp op) (rInT X.K neg)) {f : Fn}
    (hf : ∀ p q μ, f [p, q] μ = match inR μ p q with | some b => .ok (.bl (if neg then !b else b)) μ | none => .stuck) : OpR X (compareOp op) (rP2 X.K X.mg E f) := by
  intro pins s σ H x y v u Q I rx ry h
  obtain ⟨μ, ρ, p, q, M, hp, hq, h⟩ := h
  rw [hf] at h
  cases e : inR μ p q with
  | none => rw [e] at h; exact h.elim
  | some b =>
    rw [e] at h
    have hv := h.val M rbl
    unfold inR at e
    split at e
    · rename_i z hz
      cases p <;> cases q <;> simp only [strPair, reduceCtorEq, Option.some.injEq] at hz
      rename_i a w
      subst hz
      obtain rfl := vstr hp
      obtain rfl := vstr hq
      unfold inStr at e
      simp only at e
      split at e
      · rename_i k hk
        simp only [Option.some.injEq] at e
        subst e
        refine h0 pins s σ H _ _ v u Q I rx ry ⟨k, w, ?_, rfl, hv⟩
        have : a = ⟨#[k]⟩ := by
          cases a with
          | mk cps =>
            congr 1
            exact Array.toList_inj.mp (by simpa using hk)
        rw [this]
      · cases e
    · unfold inSeq at e
      split at e
      · rename_i l hl
        split at e
        · rename_i hz
          cases e
          obtain ⟨a, xs, rfl, k1, k2⟩ := getL_any M hq hl
          refine h1 pins s σ H x _ v u Q I rx ry ⟨a, xs, rfl, k1, flat_of hp hz.1, flats_of k2 hz.2, ?_⟩
          rw [← anyF_of hp hz.1 k2 hz.2]
          exact hv
        · unfold inDeep at e
          split at e
          · split at e
            · rename_i d es e3 e4
              split at e
              · rename_i hz
                cases e
                exact h2 pins s σ H x y v u Q I rx ry ⟨d, es, dp_toD M e3 hp, dp_toD M e4 hq, hz.1, hz.2, hv⟩
              · cases e
            · cases e
          · split at e
            · rename_i d es e3 e4
              split at e
              · rename_i hz
                cases e
                exact h3 pins s σ H x y v u Q I rx ry ⟨d, es, dp_toD M e3 hp, dp_toD M e4 hq, hz.1, hz.2, hv⟩
              · cases e
            · cases e
          · cases e
      · cases e
theorem cmpP_in (hu : X.A.units + 65 < cLine) : OpR X (compareOp .In) (rP2 X.K X.mg E fIn) :=
  in_run (neg := false) op_in_sign op_in_seq (op_inD hu) (in_tupD hu) fun p q μ => by simp only [fIn, Bool.false_eq_true, if_false]; try rfl
theorem cmpP_notIn (hu : X.A.units + 65 < cLine) : OpR X (compareOp .NotIn) (rP2 X.K X.mg E fNotIn) :=
  in_run (neg := true) op_notIn_sign op_notIn_seq (op_notInD hu) (notIn_tupD hu) fun p q μ => by simp only [fNotIn, if_true]; try rfl
theorem isNon_of {K : PySem.W.Frag} {H : Hp} {ρ : List Addr} {p : PV} {x : V} (h : Rep K H ρ p x) : isNon p = decide (x = .non) := by
  cases p <;> simp only [Rep] at h
  · subst h; rfl
  · subst h; rfl
  · subst h; rfl
  · subst h; rfl
  · obtain ⟨a, xs, rfl, _⟩ := h; rfl
  · obtain ⟨a, _, rfl⟩ := h; rfl
  · subst h; rfl
theorem cmpP_isN : OpR X (compareOp .Is) (rP2 X.K X.mg E fIsN) := by
  intro pins s σ H x y v u Q I rx ry h
  obtain ⟨μ, ρ, p, q, M, hp, hq, h⟩ := h
  cases q <;> first | exact h.elim | skip
  obtain rfl := vnon hq
  have e : fIsN [p, .non] μ = .ok (.bl (isNon p)) μ := by cases p <;> rfl
  rw [e] at h
  exact op_isN pins s σ H _ _ v u Q I rx ry ⟨rfl, by rw [← isNon_of hp]; exact h.val M rbl⟩
theorem cmpP_notN : OpR X (compareOp .IsNot) (rP2 X.K X.mg E fNotN) := by
  intro pins s σ H x y v u Q I rx ry h
  obtain ⟨μ, ρ, p, q, M, hp, hq, h⟩ := h
  cases q <;> first | exact h.elim | skip
  obtain rfl := vnon hq
  have e : fNotN [p, .non] μ = .ok (.bl (!isNon p)) μ := by cases p <;> rfl
  rw [e] at h
  exact op_notN pins s σ H _ _ v u Q I rx ry ⟨rfl, by rw [← isNon_of hp]; exact h.val M rbl⟩
theorem atI_get {K : PySem.W.Frag} {H : Hp} {ρ : List Addr} {l : List PV} {xs : List V} {i : Int} {q : PV} (h : Reps K H ρ l xs) (e : PL.atI l i = some q) : ∃ y, L2.atI xs i = some y ∧ Rep K H ρ q y := by
  unfold PL.atI at e
  unfold L2.atI
  have en : PL.ixN l.length i = L2.ixN xs.length i := by rw [h.length]; rfl
  rw [← en]
  cases z : PL.ixN l.length i with
  | none => rw [z] at e; simp at e
  | some j =>
    rw [z] at e
    simp only [Option.bind_some] at e ⊢
    exact h.get e
theorem ixP : IxR X (rP2 X.K X.mg E fIx) := by
  intro value slice pins s σ H x y v u Q I rx ry h hs
  obtain ⟨μ, ρ, p, q, M, hp, hq, h⟩ := h
  cases q with
  | int i =>
    obtain rfl := vint hq
    have seqs : (match getL μ p with
      | some l => match PL.atI l i with | some q => Res.ok q μ | none => .stuck
      | none => .stuck) = fIx [p, .int i] μ → wpAny (model X.prog X.w) X.A (PyProof.Rows.subscriptTail value slice v u) (EP X pins σ Q) X.xe s := fun e => by
      rw [← e] at h
      split at h
      · rename_i l hl
        split at h
        · rename_i q hq2
          cases p with
          | tup l' =>
            simp only [getL, Option.some.injEq] at hl
            subst hl
            obtain ⟨a, xs, rfl, k1, k2⟩ := rep_tup hp
            obtain ⟨z, z1, z2⟩ := atI_get k2 hq2
            exact ix_tup value slice pins s σ H _ _ v u Q I rx ry ⟨a, xs, i, z, rfl, rfl, k1, z1, h.val M z2⟩ hs
          | ref n =>
            obtain ⟨a, xs, rfl, k1, k2, _⟩ := getL_ref M hp hl
            obtain ⟨z, z1, z2⟩ := atI_get k2 hq2
            exact ix_list value slice pins s σ H _ _ v u Q I rx ry ⟨a, xs, i, z, rfl, rfl, k1, z1, h.val M z2⟩ hs
          | _ => simp [getL] at hl
        · exact h.elim
      · exact h.elim
    cases p with
    | str z =>
      obtain rfl := vstr hp
      simp only [fIx] at h
      split at h
      · rename_i hz
        split at h
        · rename_i k hk
          exact ix_str value slice pins s σ H _ _ v u Q I rx ry ⟨z, i, k, rfl, rfl, by rw [SL_eq]; exact hz, hk, h.val M rstr⟩ hs
        · exact h.elim
      · exact h.elim
    | _ => exact seqs rfl
  | _ => cases p <;> exact h.elim
theorem cut_get {K : PySem.W.Frag} {H : Hp} {ρ : List Addr} {l : List PV} {xs : List V} (lo hi : Option Int) (h : Reps K H ρ l xs) : Reps K H ρ (cut l lo hi) (cutV xs lo hi) := by
  unfold cut cutV
  rw [h.length]
  exact (h.drop _).take _
end
end PL
end
section
set_option autoImplicit false
set_option Elab.async false
set_option linter.all false
set_option maxRecDepth 100000
set_option maxHeartbeats 1000000
/-! The judgements over the pure layer and their rules. -/
namespace PL
open PySem L2
/-! ### readings by pure functions -/
section
variable (K : PySem.W.Frag) (mg : Str → Option Value) (E : XK)
abbrev RB : Hp → List Addr → Bool → Bool → Prop := fun _ _ p b => b = p
abbrev RPs (K : PySem.W.Frag) : Hp → List Addr → List PV → List V → Prop := Reps K
abbrev RU : Hp → List Addr → Unit → Unit → Prop := fun _ _ _ _ => True
def tE (f : Ex) : TE := fun σ H Q => ∃ env μ ρ, EnvOk K H ρ env σ ∧ MemOk K H ρ μ ∧ Post K mg E (RP K) H ρ Q (f env μ)
def tT (f : Ex) : TT := fun σ H Q => ∃ env μ ρ, EnvOk K H ρ env σ ∧ MemOk K H ρ μ ∧ Post K mg E RB H ρ Q ((f env μ).bind asB)
def tA (f : Ag) : TA := fun σ H Q => ∃ env μ ρ, EnvOk K H ρ env σ ∧ MemOk K H ρ μ ∧ Post K mg E (RPs K) H ρ Q (f env μ)
/-- what a pure statement's end asks -/
def PostS (H : Hp) (ρ : List Addr) (D : Ends) : Out → Prop
  | .nx env m => ∀ σ' H' ρ', Lat K H ρ H' ρ' → MemOk K H' ρ' m → EnvOk K H' ρ' env σ' → D.nx σ' H'
  | .bk env m => ∀ σ' H' ρ', Lat K H ρ H' ρ' → MemOk K H' ρ' m → EnvOk K H' ρ' env σ' → D.bk σ' H'
  | .ct env m => ∀ σ' H' ρ', Lat K H ρ H' ρ' → MemOk K H' ρ' m → EnvOk K H' ρ' env σ' → D.ct σ' H'
  | .rt p m => ∀ x H' ρ', Lat K H ρ H' ρ' → MemOk K H' ρ' m → Rep K H' ρ' p x → D.rt x H'
  | .exc x m => Post K mg E RU H ρ (fun _ _ => True) (.exc x m)
  | .stuck => False
def tS (f : Sm) : TS := fun D σ H => ∃ env μ ρ, EnvOk K H ρ env σ ∧ MemOk K H ρ μ ∧ PostS K mg E H ρ D (f env μ)
/-- the slots but those at is are as they were -/
def OutOf (is : List Nat) (σ σ' : L2.St) : Prop := σ'.length = σ.length ∧ ∀ j, j ∉ is → σ'[j]? = σ[j]?
def RG (K : PySem.W.Frag) (is : List Nat) (σ : L2.St) : Hp → List Addr → Env → L2.St → Prop := fun H' ρ' env σ' => EnvOk K H' ρ' env σ' ∧ OutOf is σ σ'
def tG (is : List Nat) (g : Tg) : TG := fun x σ H Q => ∃ env μ ρ p, EnvOk K H ρ env σ ∧ MemOk K H ρ μ ∧ Rep K H ρ p x ∧ Post K mg E (RG K is σ) H ρ Q (g p env μ)
def tGs (is : List Nat) (g : Tgs) : TGs := fun xs σ H Q => ∃ env μ ρ ps, EnvOk K H ρ env σ ∧ MemOk K H ρ μ ∧ Reps K H ρ ps xs ∧ Post K mg E (RG K is σ) H ρ Q (g ps env μ)
/-- an iterator goes through the items while the locks hold -/
structure ItOk (H0 : Hp) (ρ0 : List Addr) (z : Its) (J : L2.It) : Prop where
  go : ∀ H ρ μ i p, Lat K H0 ρ0 H ρ → MemOk K H ρ μ → locked z.lk μ → z.items[i]? = some p → J.go i H ∧ ∀ x H', J.yld i H x H' → Lat K H ρ H' ρ ∧ MemOk K H' ρ μ ∧ Rep K H' ρ p x
  stop : ∀ H ρ μ, Lat K H0 ρ0 H ρ → MemOk K H ρ μ → locked z.lk μ → J.stop z.items.length H
def tI (f : PL.It) : TI := fun σ H R => ∃ env μ ρ, EnvOk K H ρ env σ ∧ MemOk K H ρ μ ∧ Post K mg E (fun H' ρ' z J => ItOk K H' ρ' z J) H ρ R (f env μ)
end
section
variable (X : Cx) (E : XK)
structure PP (e : Expr) (f : Ex) : Prop where pe : PE X e (tE X.K X.mg E f)
structure PPT (e : Expr) (f : Ex) : Prop where pt : PT X e (tT X.K X.mg E f)
structure PPW (e : Expr) (f : Ex) : Prop where pw : PW X e (tT X.K X.mg E f)
structure PPA (es : List Expr) (f : Ag) : Prop where
  pa : PA X es (tA X.K X.mg E f)
  len : ∀ env μ as μ', f env μ = .ok as μ' → as.length = es.length
structure PPs (st : Stmt) (f : Sm) : Prop where ps : PS X st (tS X.K X.mg E f)
structure PPb (st : List Stmt) (f : Sm) : Prop where ps : PSs X st (tS X.K X.mg E f)
structure PPG (e : Expr) (is : List Nat) (g : Tg) : Prop where pg : PG X e (tG X.K X.mg E is g)
structure PPGs (es : List Expr) (is : List Nat) (g : Tgs) : Prop where pg : PGs X es (tGs X.K X.mg E is g)
structure PPI (tg iter : Expr) (f : PL.It) : Prop where pi : PI X tg iter (tI X.K X.mg E f)
end
/-! ### weaker readings -/
section
variable {X : Cx}
theorem PE.imp {e : Expr} {t t' : TE} (h : PE X e t) (i : ∀ σ H Q, t' σ H Q → t σ H Q) : PE X e t' := ⟨fun pins s σ H Q I q => h.run pins s σ H Q I (i σ H Q q)⟩
theorem PT.imp {e : Expr} {t t' : TT} (h : PT X e t) (i : ∀ σ H Q, t' σ H Q → t σ H Q) : PT X e t' := ⟨fun pins s σ H Q I q => h.run pins s σ H Q I (i σ H Q q)⟩
theorem PW.imp {e : Expr} {t t' : TT} (h : PW X e t) (i : ∀ σ H Q, t' σ H Q → t σ H Q) : PW X e t' := ⟨fun wh pins s σ H Q I q => h.run wh pins s σ H Q I (i σ H Q q)⟩
theorem PA.imp {e : List Expr} {t t' : TA} (h : PA X e t) (i : ∀ σ H Q, t' σ H Q → t σ H Q) : PA X e t' := ⟨fun p pins s σ H Q I q => h.run p pins s σ H Q I (i σ H Q q)⟩
theorem PS.imp {e : Stmt} {t t' : TS} (h : PS X e t) (i : ∀ D σ H, t' D σ H → t D σ H) : PS X e t' := ⟨fun pins s σ H D I q => h.run pins s σ H D I (i D σ H q)⟩
theorem PSs.imp {e : List Stmt} {t t' : TS} (h : PSs X e t) (i : ∀ D σ H, t' D σ H → t D σ H) : PSs X e t' := ⟨fun pins s σ H D I q => h.run pins s σ H D I (i D σ H q)⟩
theorem PG.imp {e : Expr} {t t' : TG} (h : PG X e t) (i : ∀ v σ H Q, t' v σ H Q → t v σ H Q) : PG X e t' := ⟨fun pins s σ H v u Q I r q => h.run pins s σ H v u Q I r (i v σ H Q q)⟩
theorem PGs.imp {e : List Expr} {t t' : TGs} (h : PGs X e t) (i : ∀ v σ H Q, t' v σ H Q → t v σ H Q) : PGs X e t' := ⟨fun pins s σ H v u Q I r q => h.run pins s σ H v u Q I r (i v σ H Q q)⟩
theorem PI.imp {tg e : Expr} {t t' : TI} (h : PI X tg e t) (i : ∀ σ H Q, t' σ H Q → t σ H Q) : PI X tg e t' := ⟨fun pins s σ H Q I q => h.run pins s σ H Q I (i σ H Q q)⟩
theorem PI.or {tg e : Expr} {t t' : TI} (h : PI X tg e t) (h' : PI X tg e t') : PI X tg e (fun σ H Q => t σ H Q ∨ t' σ H Q) := ⟨fun pins s σ H Q I q => q.elim (fun q => h.run pins s σ H Q I q) fun q => h'.run pins s σ H Q I q⟩
end
section
variable {K : PySem.W.Frag} {mg : Str → Option Value} {E : XK} {H H1 : Hp} {ρ ρ1 : List Addr} {D : Ends}
theorem PostS.later {o : Out} (h : PostS K mg E H ρ D o) (l : Lat K H ρ H1 ρ1) : PostS K mg E H1 ρ1 D o := by
  cases o with
  | nx env m => exact fun a b c l' => h a b c (l.trans l')
  | bk env m => exact fun a b c l' => h a b c (l.trans l')
  | ct env m => exact fun a b c l' => h a b c (l.trans l')
  | rt env m => exact fun a b c l' => h a b c (l.trans l')
  | exc x m => exact Post.later (K := K) (mg := mg) (E := E) (R := RU) (Q := fun _ _ => True) (r := (.exc x m : Res Unit)) h l
  | stuck => exact h
theorem PostS.of {α β : Type} {R : Hp → List Addr → α → β → Prop} {r : Res α} {k : α → Mem → Out} (h : PostS K mg E H ρ D (.of r k)) :
    Post K mg E R H ρ (fun b H1 => ∃ a m ρ1, r = .ok a m ∧ Lat K H ρ H1 ρ1 ∧ MemOk K H1 ρ1 m ∧ R H1 ρ1 a b ∧ PostS K mg E H1 ρ1 D (k a m)) r := by
  cases r with
  | ok a m => exact fun b H' ρ' l M r => ⟨a, m, ρ', rfl, l, M, r, PostS.later (o := k a m) h l⟩
  | exc x m => exact h
  | stuck => exact h
theorem PostS.then {o : Out} {k : Sm} (h : PostS K mg E H ρ D (o.then k)) :
    PostS K mg E H ρ { D with nx := fun σ' H' => ∃ env m ρ', Lat K H ρ H' ρ' ∧ MemOk K H' ρ' m ∧ EnvOk K H' ρ' env σ' ∧ PostS K mg E H' ρ' D (k env m) } o := by
  cases o with
  | nx env m => exact fun σ' H' ρ' l M e => ⟨env, m, ρ', l, M, e, PostS.later (o := k env m) h l⟩
  | bk env m => exact h
  | ct env m => exact h
  | rt p m => exact h
  | exc x m => exact h
  | stuck => exact h
theorem PostS.imp {D' : Ends} {o : Out} (h : PostS K mg E H ρ D o) (h1 : ∀ σ H, D.nx σ H → D'.nx σ H) (h2 : ∀ x H, D.rt x H → D'.rt x H) (h3 : ∀ σ H, D.bk σ H → D'.bk σ H) (h4 : ∀ σ H, D.ct σ H → D'.ct σ H) : PostS K mg E H ρ D' o := by
  cases o with
  | nx env m => exact fun a b c l M e => h1 _ _ (h a b c l M e)
  | bk env m => exact fun a b c l M e => h3 _ _ (h a b c l M e)
  | ct env m => exact fun a b c l M e => h4 _ _ (h a b c l M e)
  | rt env m => exact fun a b c l M e => h2 _ _ (h a b c l M e)
  | exc x m => exact h
  | stuck => exact h
theorem tE.imp {f : Ex} {σ : L2.St} {Q Q' : VK} (h : tE K mg E f σ H Q) (i : ∀ x H', Q x H' → Q' x H') : tE K mg E f σ H Q' := by
  obtain ⟨env, μ, ρ, e, M, h⟩ := h
  exact ⟨env, μ, ρ, e, M, h.imp i⟩
end
/-! ### expressions -/
section
variable {X : Cx} {E : XK} {a b d e : Expr} {es rest : List Expr} {fa fb fd fe : Ex} {pos : Pos}
theorem pp_v (i : Nat) {x : Str} (hN : X.N[i]? = some x := by rfl) (hv : Vis X.env.scope x := by first | exact Or.inl rfl | exact Or.inr (Or.inl rfl) | exact Or.inr (Or.inr rfl)) (hd : (x == ("__debug__" : Str)) = false := by decide)
    (hcd : (x == ("__classdict__" : Str)) = false := by decide) : PP X E (.Name x pos) (v i) := ⟨by
  refine PE.imp (pe_var (i := i) hN hv hd hcd) fun σ H Q h => ?_
  obtain ⟨env, μ, ρ, e, M, h⟩ := h
  unfold v at h
  split at h
  · rename_i p hp
    obtain ⟨x, h1, h2⟩ := e.at' i p hp
    exact ⟨x, h1, h.val M h2⟩
  · exact h.elim⟩
theorem pp_const {e : Expr} {p : PV} {x : V} (h : PE X e (tC x)) (r : ∀ H ρ, Rep X.K H ρ p x) : PP X E e (c p) := ⟨by
  refine PE.imp h fun σ H Q h => ?_
  obtain ⟨env, μ, ρ, e, M, h⟩ := h
  exact Post.val (R := RP X.K) (show Post X.K X.mg E (RP X.K) H ρ Q (Res.ok p μ) from h) M (r H ρ)⟩
theorem pp_int {i : Int} {j : Nat} : PP X E (.Constant (.int i) j pos) (c (.int i)) := pp_const pe_int fun _ _ => rint
theorem pp_bl {i : Bool} {j : Nat} : PP X E (.Constant (.bool i) j pos) (c (.bl i)) := pp_const pe_bl fun _ _ => rbl
theorem pp_str {i : Str} {j : Nat} : PP X E (.Constant (.str i) j pos) (c (.str i)) := pp_const pe_str fun _ _ => rstr
theorem pp_non {j : Nat} : PP X E (.Constant .none j pos) (c .non) := pp_const pe_non fun _ _ => rnon
/-- a constant of the module -/
theorem pp_glob {x : Str} {p : PV} {w : V} {u : Value} (hm : X.mg x = some u) (r : RelV w u) (h : ∀ H ρ, Rep X.K H ρ p w) (hg : Gl X x := by rfl) (hd : (x == ("__debug__" : Str)) = false := by decide) : PP X E (.Name x pos) (c p) := pp_const (pe_glob hg hm r hd) h
/-- the step from one part to what follows -/
theorem tE_bind {K : PySem.W.Frag} {mg : Str → Option Value} {γ δ : Type} {R' : Hp → List Addr → γ → δ → Prop} {H : Hp} {ρ : List Addr} {Q' : δ → Hp → Prop} {env : Env} {μ : Mem} {σ : L2.St} {k : PV → Mem → Res γ} (eo : EnvOk K H ρ env σ) (M : MemOk K H ρ μ)
    (h : Post K mg E R' H ρ Q' ((fa env μ).bind k)) {Q : VK} (i : ∀ x H1 p m ρ1, fa env μ = .ok p m → Lat K H ρ H1 ρ1 → EnvOk K H1 ρ1 env σ → MemOk K H1 ρ1 m → Rep K H1 ρ1 p x → Post K mg E R' H1 ρ1 Q' (k p m) → Q x H1) : tE K mg E fa σ H Q :=
  ⟨env, μ, ρ, eo, M, (Post.bind (R := RP K) h).imp fun x H1 ⟨p, m, ρ1, e, l, M1, r, q⟩ => i x H1 p m ρ1 e l (eo.mono l) M1 r q⟩
theorem pp_op {op : Operator} {f : Fn} (ho : OpR X (binaryOp op) (rP2 X.K X.mg E f)) (ha : PP X E a fa) (hb : PP X E b fb) : PP X E (.BinOp a op b pos) (app2 f fa fb) := ⟨by
  refine PE.imp (pe_op ho ha.pe hb.pe) fun σ H Q h => ?_
  obtain ⟨env, μ, ρ, eo, M, h⟩ := h
  exact tE_bind eo M h fun x H1 p m ρ1 _ l1 e1 M1 r1 q1 => tE_bind e1 M1 q1 fun y H2 q m2 ρ2 _ l2 e2 M2 r2 q2 => ⟨m2, ρ2, p, q, M2, Rep.mono l2 _ _ r1, r2, q2⟩⟩
theorem pp_cmp {op : CmpOp} {f : Fn} (ho : OpR X (compareOp op) (rP2 X.K X.mg E f)) (ha : PP X E a fa) (hb : PP X E b fb) (hm : behindInMarks op b = false := by first | exact nobehind _ (by decide) (by decide) | rfl | with_unfolding_all rfl) : PP X E (.Compare a [op] [b] pos) (app2 f fa fb) := ⟨by
  refine PE.imp (pe_cmpR ho ha.pe hb.pe hm) fun σ H Q h => ?_
  obtain ⟨env, μ, ρ, eo, M, h⟩ := h
  exact tE_bind eo M h fun x H1 p m ρ1 _ l1 e1 M1 r1 q1 => tE_bind e1 M1 q1 fun y H2 q m2 ρ2 _ l2 e2 M2 r2 q2 => ⟨m2, ρ2, p, q, M2, Rep.mono l2 _ _ r1, r2, q2⟩⟩
theorem post_test {K : PySem.W.Frag} {mg : Str → Option Value} {H : Hp} {ρ : List Addr} {Q : Bool → Hp → Prop} {r : Res PV} (h : Post K mg E RB H ρ Q (r.bind asB)) : Post K mg E (RP K) H ρ (fun x H' => ∃ k, x = .bl k ∧ Q k H') r := by
  cases r with
  | ok p m =>
    cases p with
    | bl b =>
      intro x H' ρ' l M rx
      exact ⟨b, vbl rx, h b H' ρ' l M rfl⟩
    | _ => exact h.elim
  | exc x m => exact h
  | stuck => exact h
theorem tE_test {K : PySem.W.Frag} {mg : Str → Option Value} {f : Ex} {σ : L2.St} {H : Hp} {Q : Bool → Hp → Prop} (h : tT K mg E f σ H Q) : tE K mg E f σ H (fun x H' => ∃ k, x = .bl k ∧ Q k H') := by
  obtain ⟨env, μ, ρ, e, M, h⟩ := h
  exact ⟨env, μ, ρ, e, M, post_test h⟩
/-- a test's outcome, then what follows -/
theorem tT_bind {K : PySem.W.Frag} {mg : Str → Option Value} {γ δ : Type} {R' : Hp → List Addr → γ → δ → Prop} {H : Hp} {ρ : List Addr} {Q' : δ → Hp → Prop} {env : Env} {μ : Mem} {σ : L2.St} {k1 k2 : Mem → Res γ} (eo : EnvOk K H ρ env σ) (M : MemOk K H ρ μ)
    (h : Post K mg E R' H ρ Q' ((fa env μ).bind fun p m => onB p (k1 m) (k2 m))) {Q : Bool → Hp → Prop} (i : ∀ t H1 m ρ1, fa env μ = .ok (.bl t) m → Lat K H ρ H1 ρ1 → EnvOk K H1 ρ1 env σ → MemOk K H1 ρ1 m → Post K mg E R' H1 ρ1 Q' (if t = true then k1 m else k2 m) → Q t H1) : tT K mg E fa σ H Q := by
  refine ⟨env, μ, ρ, eo, M, ?_⟩
  cases e : fa env μ with
  | ok p m =>
    rw [e] at h
    cases p with
    | bl t =>
      intro b H1 ρ1 l M1 rb
      cases rb
      refine i t H1 m ρ1 e l (eo.mono l) M1 ?_
      have h2 : Post K mg E R' H ρ Q' (onB (.bl t) (k1 m) (k2 m)) := h
      rw [onB_bl] at h2
      exact h2.later l
    | _ => exact h.elim
  | exc x m => rw [e] at h; exact h
  | stuck => rw [e] at h; exact h
/-- a value that is a truth value, as a test -/
theorem PP.t (h : PP X E e fe) (he : ∀ whole, isTrue e X.env whole = (do let v ← whole; standAt e.pos; holding [v] (truthy v)) := by intro _; rfl) : PPT X E e fe := ⟨PT.imp (pt_val h.pe he) fun _ _ _ h => tE_test h⟩
theorem ppt_cmp {op : CmpOp} {f : Fn} (ho : OpR X (compareOp op) (rP2 X.K X.mg E f)) (ha : PP X E a fa) (hb : PP X E b fb) (hm : behindInMarks op b = false := by first | exact nobehind _ (by decide) (by decide) | rfl | with_unfolding_all rfl) : PPT X E (.Compare a [op] [b] pos) (app2 f fa fb) := ⟨by
  refine PT.imp (pt_cmpR ho ha.pe hb.pe hm) fun σ H Q h => ?_
  obtain ⟨env, μ, ρ, eo, M, h⟩ := tE_test h
  exact tE_bind eo M h fun x H1 p m ρ1 _ l1 e1 M1 r1 q1 => tE_bind e1 M1 q1 fun y H2 q m2 ρ2 _ l2 e2 M2 r2 q2 => ⟨m2, ρ2, p, q, M2, Rep.mono l2 _ _ r1, r2, q2⟩⟩
theorem chain_read {f g : Fn} {K : PySem.W.Frag} {mg : Str → Option Value} {σ : L2.St} {H : Hp} {Q : VK} (h : tE K mg E (chain f g fa fb fd) σ H Q) : tChain (rP2 K mg E f) (rP2 K mg E g) (tE K mg E fa) (tE K mg E fb) (tE K mg E fd) σ H Q := by
  obtain ⟨env, μ, ρ, eo, M, h⟩ := h
  refine tE_bind eo M h fun x H1 p m ρ1 _ l1 e1 M1 r1 q1 => tE_bind e1 M1 q1 fun y H2 q m2 ρ2 _ l2 e2 M2 r2 q2 => ⟨m2, ρ2, p, q, M2, Rep.mono l2 _ _ r1, r2, ?_⟩
  have q3 := Post.bind (R := RP K) q2
  cases z : f [p, q] m2 with
  | ok t m3 =>
    rw [z] at q3 q2
    cases t with
    | bl t =>
      intro w H3 ρ3 l3 M3 rw3
      obtain rfl := vbl rw3
      refine ⟨t, rfl, ?_⟩
      have q4 : Post K mg E (RP K) H3 ρ3 Q (onB (.bl t) ((fd env m3).bind fun r μ4 => g [q, r] μ4) (.ok (.bl false) m3)) := Post.later (show Post K mg E (RP K) H2 ρ2 Q (onB (.bl t) _ _) from q2) l3
      cases t with
      | true => exact tE_bind (e2.mono l3) M3 q4 fun y4 H4 r m4 ρ4 _ l4 e4 M4 r4 q5 => ⟨m4, ρ4, q, r, M4, Rep.mono (l3.trans l4) _ _ r2, r4, q5⟩
      | false => exact Post.val (show Post K mg E (RP K) H3 ρ3 Q (Res.ok (.bl false) m3) from q4) M3 rbl
    | _ => exact (show False from q2).elim
  | exc x m3 => rw [z] at q2; exact q2
  | stuck => rw [z] at q2; exact q2
theorem pp_chain {op op' : CmpOp} {f g : Fn} (ho : OpR X (compareOp op) (rP2 X.K X.mg E f)) (ho' : OpR X (compareOp op') (rP2 X.K X.mg E g)) (ha : PP X E a fa) (hb : PP X E b fb) (hc : PP X E d fd)
    (hm : lastMarks [op, op'] [b, d] = false := by with_unfolding_all rfl) : PP X E (.Compare a [op, op'] [b, d] pos) (chain f g fa fb fd) := ⟨PE.imp (pe_chain ho ho' ha.pe hb.pe hc.pe hm) fun _ _ _ h => chain_read h⟩
theorem ppt_chain {op op' : CmpOp} {f g : Fn} (ho : OpR X (compareOp op) (rP2 X.K X.mg E f)) (ho' : OpR X (compareOp op') (rP2 X.K X.mg E g)) (ha : PP X E a fa) (hb : PP X E b fb) (hc : PP X E d fd)
    (hm : lastMarks [op, op'] [b, d] = false := by with_unfolding_all rfl) : PPT X E (.Compare a [op, op'] [b, d] pos) (chain f g fa fb fd) := ⟨PT.imp (pt_chain ho ho' ha.pe hb.pe hc.pe hm) fun _ _ _ h => chain_read (tE_test h)⟩
/-! and, or, not -/
theorem pp_one {op : BoolOp} (h : PP X E a fa) : PP X E (.BoolOp op [a] pos) fa := ⟨pe_one h.pe⟩
theorem pp_and (ha : PP X E a fa) (hb : PP X E (.BoolOp .And (b :: rest) pos) fb) : PP X E (.BoolOp .And (a :: b :: rest) pos) (and fa fb) := ⟨by
  refine PE.imp (pe_and ha.pe hb.pe) fun σ H Q h => ?_
  obtain ⟨env, μ, ρ, eo, M, h⟩ := h
  have h2 : tT X.K X.mg E fa σ H (fun c H1 => if c = true then tE X.K X.mg E fb σ H1 Q else Q (.bl false) H1) := tT_bind (k1 := fun m => fb env m) (k2 := fun m => .ok (.bl false) m) eo M h fun t H1 m ρ1 _ l1 e1 M1 q1 => by
    cases t with
    | true => exact ⟨env, m, ρ1, e1, M1, q1⟩
    | false => exact Post.val (show Post X.K X.mg E (RP X.K) H1 ρ1 Q (Res.ok (.bl false) m) from q1) M1 rbl
  exact tE_test h2⟩
theorem pp_or (ha : PP X E a fa) (hb : PP X E (.BoolOp .Or (b :: rest) pos) fb) : PP X E (.BoolOp .Or (a :: b :: rest) pos) (or fa fb) := ⟨by
  refine PE.imp (pe_or ha.pe hb.pe) fun σ H Q h => ?_
  obtain ⟨env, μ, ρ, eo, M, h⟩ := h
  have h2 : tT X.K X.mg E fa σ H (fun c H1 => if c = true then Q (.bl true) H1 else tE X.K X.mg E fb σ H1 Q) := tT_bind (k1 := fun m => .ok (.bl true) m) (k2 := fun m => fb env m) eo M h fun t H1 m ρ1 _ l1 e1 M1 q1 => by
    cases t with
    | false => exact ⟨env, m, ρ1, e1, M1, q1⟩
    | true => exact Post.val (show Post X.K X.mg E (RP X.K) H1 ρ1 Q (Res.ok (.bl true) m) from q1) M1 rbl
  exact tE_test h2⟩
theorem post_notB {K : PySem.W.Frag} {mg : Str → Option Value} {H : Hp} {ρ : List Addr} {Q : VK} {p : PV} {m : Mem} {x : V} (M : MemOk K H ρ m) (r : Rep K H ρ p x) (h : Post K mg E (RP K) H ρ Q (fNot [p] m)) : ∃ c, x = .bl c ∧ Q (.bl (!c)) H := by
  cases p with
  | bl b => exact ⟨b, vbl r, Post.val (show Post K mg E (RP K) H ρ Q (Res.ok (.bl (!b)) m) from h) M rbl⟩
  | _ => exact h.elim
theorem pp_not (ha : PP X E a fa) : PP X E (.UnaryOp .Not a pos) (app1 fNot fa) := ⟨by
  refine PE.imp (pe_not ha.pe) fun σ H Q h => ?_
  obtain ⟨env, μ, ρ, eo, M, h⟩ := h
  exact tE_bind eo M h fun x H1 p m ρ1 _ l1 e1 M1 r1 q1 => post_notB M1 r1 q1⟩
theorem ppt_not (ha : PPT X E a fa) : PPT X E (.UnaryOp .Not a pos) (app1 fNot fa) := ⟨by
  refine PT.imp (pt_not ha.pt) fun σ H Q h => ?_
  obtain ⟨env, μ, ρ, eo, M, h⟩ := h
  refine ⟨env, μ, ρ, eo, M, ?_⟩
  unfold app1 at h
  cases z : fa env μ with
  | ok p m =>
    rw [z] at h
    cases p with
    | bl b =>
      intro b' H1 ρ1 l1 M1 e
      cases e
      exact h (!b) H1 ρ1 l1 M1 rfl
    | _ => exact h.elim
  | exc x m => rw [z] at h; exact h
  | stuck => rw [z] at h; exact h⟩
theorem ppw_and1 (ha : PPT X E a fa) : PPW X E (.BoolOp .And [a] pos) fa := ⟨pw_and1 ha.pt⟩
theorem ppw_or1 (ha : PPT X E a fa) : PPW X E (.BoolOp .Or [a] pos) fa := ⟨pw_or1 ha.pt⟩
theorem bind_onB {α β : Type} (p : PV) (a b : Res α) (k : α → Mem → Res β) : (onB p a b).bind k = onB p (a.bind k) (b.bind k) := by
  cases p with
  | bl t => cases t <;> rfl
  | _ => rfl
theorem bind_bind {α β γ : Type} (r : Res α) (k : α → Mem → Res β) (j : β → Mem → Res γ) : (r.bind k).bind j = r.bind fun a m => (k a m).bind j := by cases r <;> rfl
theorem ppw_and (ha : PPT X E a fa) (hb : PPW X E (.BoolOp .And (b :: rest) pos) fb) : PPW X E (.BoolOp .And (a :: b :: rest) pos) (and fa fb) := ⟨by
  refine PW.imp (pw_and ha.pt hb.pw) fun σ H Q h => ?_
  obtain ⟨env, μ, ρ, eo, M, h⟩ := h
  unfold PL.and at h
  rw [bind_bind] at h
  simp only [bind_onB] at h
  exact tT_bind (k1 := fun m => (fb env m).bind asB) (k2 := fun m => .ok false m) eo M h fun t H1 m ρ1 _ l1 e1 M1 q1 => by
    cases t with
    | true => exact ⟨env, m, ρ1, e1, M1, q1⟩
    | false => exact Post.val (R := RB) (show Post X.K X.mg E RB H1 ρ1 Q (Res.ok false m) from q1) M1 rfl⟩
theorem ppw_or (ha : PPT X E a fa) (hb : PPW X E (.BoolOp .Or (b :: rest) pos) fb) : PPW X E (.BoolOp .Or (a :: b :: rest) pos) (or fa fb) := ⟨by
  refine PW.imp (pw_or ha.pt hb.pw) fun σ H Q h => ?_
  obtain ⟨env, μ, ρ, eo, M, h⟩ := h
  unfold PL.or at h
  rw [bind_bind] at h
  simp only [bind_onB] at h
  exact tT_bind (k1 := fun m => .ok true m) (k2 := fun m => (fb env m).bind asB) eo M h fun t H1 m ρ1 _ l1 e1 M1 q1 => by
    cases t with
    | false => exact ⟨env, m, ρ1, e1, M1, q1⟩
    | true => exact Post.val (R := RB) (show Post X.K X.mg E RB H1 ρ1 Q (Res.ok true m) from q1) M1 rfl⟩
theorem PPW.t (h : PPW X E a fa) : PPT X E a fa := ⟨h.pw.pt⟩
theorem pp_ite (ht : PPT X E e fe) (ha : PP X E a fa) (hb : PP X E b fb) : PP X E (.IfExp e a b pos) (ite fe fa fb) := ⟨by
  refine PE.imp (pe_ifExp ht.pt ha.pe hb.pe) fun σ H Q h => ?_
  obtain ⟨env, μ, ρ, eo, M, h⟩ := h
  exact tT_bind (k1 := fun m => fa env m) (k2 := fun m => fb env m) eo M h fun t H1 m ρ1 _ l1 e1 M1 q1 => by
    cases t with
    | true => exact ⟨env, m, ρ1, e1, M1, q1⟩
    | false => exact ⟨env, m, ρ1, e1, M1, q1⟩⟩
theorem pp_un {op : UnaryOp} {f : Fn} (ho : UnR X (unaryOp op) (rP1 X.K X.mg E f)) (ha : PP X E a fa) : PP X E (.UnaryOp op a pos) (app1 f fa) := ⟨by
  refine PE.imp (pe_un ho ha.pe) fun σ H Q h => ?_
  obtain ⟨env, μ, ρ, eo, M, h⟩ := h
  exact tE_bind eo M h fun x H1 p m ρ1 _ l1 e1 M1 r1 q1 => ⟨m, ρ1, p, M1, r1, q1⟩⟩
/-! argument lists, displays -/
theorem ppa_nil : PPA X E [] an := ⟨by
  refine PA.imp pa_nil fun σ H Q h => ?_
  obtain ⟨env, μ, ρ, eo, M, h⟩ := h
  exact Post.val (R := RPs X.K) (show Post X.K X.mg E (RPs X.K) H ρ Q (Res.ok [] μ) from h) M .nil, fun env μ as μ' e => by cases e; rfl⟩
theorem tA_bind {K : PySem.W.Frag} {mg : Str → Option Value} {γ δ : Type} {R' : Hp → List Addr → γ → δ → Prop} {H : Hp} {ρ : List Addr} {Q' : δ → Hp → Prop} {env : Env} {μ : Mem} {σ : L2.St} {f : Ag} {k : List PV → Mem → Res γ} (eo : EnvOk K H ρ env σ) (M : MemOk K H ρ μ)
    (h : Post K mg E R' H ρ Q' ((f env μ).bind k)) {Q : List V → Hp → Prop} (i : ∀ xs H1 ps m ρ1, f env μ = .ok ps m → Lat K H ρ H1 ρ1 → EnvOk K H1 ρ1 env σ → MemOk K H1 ρ1 m → Reps K H1 ρ1 ps xs → Post K mg E R' H1 ρ1 Q' (k ps m) → Q xs H1) : tA K mg E f σ H Q :=
  ⟨env, μ, ρ, eo, M, (Post.bind (R := RPs K) h).imp fun x H1 ⟨p, m, ρ1, e, l, M1, r, q⟩ => i x H1 p m ρ1 e l (eo.mono l) M1 r q⟩
theorem ppa_cons {f : Ag} (ha : PP X E a fa) (hr : PPA X E es f) (hs : starEach (a :: es) X.env = (false, eval a X.env) :: starEach es X.env := by rfl) : PPA X E (a :: es) (ac fa f) := ⟨by
  refine PA.imp (pa_cons ha.pe hr.pa hs) fun σ H Q h => ?_
  obtain ⟨env, μ, ρ, eo, M, h⟩ := h
  exact tE_bind eo M h fun x H1 p m ρ1 _ l1 e1 M1 r1 q1 => tA_bind e1 M1 q1 fun xs H2 ps m2 ρ2 _ l2 e2 M2 r2 q2 =>
    Post.val (R := RPs X.K) (show Post X.K X.mg E (RPs X.K) H2 ρ2 Q (Res.ok (p :: ps) m2) from q2) M2 (.cons (Rep.mono l2 _ _ r1) r2), fun env μ as μ' e => by
    unfold ac at e
    cases z : fa env μ with
    | ok p m =>
      rw [z] at e
      cases z2 : f env m with
      | ok qs m2 =>
        have e' : (Res.ok (p :: qs) m2 : Res (List PV)) = .ok as μ' := by
          have h3 : ((f env m).bind fun ps μ2 => Res.ok (p :: ps) μ2) = .ok as μ' := e
          rw [z2] at h3
          exact h3
        cases e'
        simp [hr.len _ _ _ _ z2]
      | exc x m2 =>
        have h3 : ((f env m).bind fun ps μ2 => Res.ok (p :: ps) μ2) = .ok as μ' := e
        rw [z2] at h3
        cases h3
      | stuck =>
        have h3 : ((f env m).bind fun ps μ2 => Res.ok (p :: ps) μ2) = .ok as μ' := e
        rw [z2] at h3
        cases h3
    | exc x m => rw [z] at e; cases e
    | stuck => rw [z] at e; cases e⟩
theorem pp_tup {f : Ag} {k : Nat} (h : PPA X E es f) : PP X E (.Tuple es k pos) (app fTup f) := ⟨by
  refine PE.imp (pe_tup h.pa) fun σ H Q h => ?_
  obtain ⟨env, μ, ρ, eo, M, h⟩ := h
  refine tA_bind eo M h fun xs H1 ps m ρ1 _ l1 e1 M1 r1 q1 => ?_
  unfold fTup at q1
  split at q1
  · rename_i hz
    exact ⟨by rw [SL_eq, r1.length]; exact hz, q1.newT M1 r1⟩
  · exact q1.elim⟩
theorem pp_lst {f : Ag} (h : PPA X E es f) : PP X E (.List es pos) (app fLst f) := ⟨by
  refine PE.imp (pe_lst h.pa) fun σ H Q h => ?_
  obtain ⟨env, μ, ρ, eo, M, h⟩ := h
  refine tA_bind eo M h fun xs H1 ps m ρ1 _ l1 e1 M1 r1 q1 => ?_
  unfold fLst at q1
  split at q1
  · rename_i hz
    exact ⟨by rw [SL_eq, r1.length]; exact hz, q1.newL M1 r1⟩
  · exact q1.elim⟩
/-! places and slices -/
theorem pp_ix (ha : PP X E a fa) (hb : PP X E b fb) (hs : PlainIx b := by intro _ _; rfl) : PP X E (.Subscript a b pos) (app2 fIx fa fb) := ⟨by
  refine PE.imp (pe_ix (ixP (E := E)) ha.pe hb.pe hs) fun σ H Q h => ?_
  obtain ⟨env, μ, ρ, eo, M, h⟩ := h
  exact tE_bind eo M h fun x H1 p m ρ1 _ l1 e1 M1 r1 q1 => tE_bind e1 M1 q1 fun y H2 q m2 ρ2 _ l2 e2 M2 r2 q2 => ⟨m2, ρ2, p, q, M2, Rep.mono l2 _ _ r1, r2, q2⟩⟩
def rSlP (K : PySem.W.Frag) (mg : Str → Option Value) (E : XK) : V → Option Int → Option Int → Hp → VK → Prop := fun x lo hi H Q => ∃ μ ρ p ql qh, MemOk K H ρ μ ∧ Rep K H ρ p x ∧ optI ql = some lo ∧ optI qh = some hi ∧ Post K mg E (RP K) H ρ Q (fSl [p, ql, qh] μ)
theorem sIx_eq (n d : Nat) (o : Option Int) : PL.sIx n d o = HT.sIx n d o := by cases o <;> rfl
theorem slP : SlR X (rSlP X.K X.mg E) := by
  intro pins s σ H x v vl vu lo hi sl Q I rx hs pl pu h
  obtain ⟨μ, ρ, p, ql, qh, M, hp, e1, e2, h⟩ := h
  simp only [fSl, e1, e2] at h
  cases p with
  | tup l =>
    obtain ⟨a, xs, rfl, k1, k2⟩ := rep_tup hp
    refine sl_tupA pins s σ H _ v vl vu lo hi sl Q I rx hs pl pu ⟨a, xs, rfl, k1, fun hw => ?_, fun _ => h.newT M (cut_get lo hi k2)⟩
    refine h.val M ?_
    show Rep _ _ _ _ _
    simp only [Rep]
    refine ⟨a, xs, rfl, k1, ?_⟩
    have e : cut l lo hi = l := by
      unfold cut
      rw [← k2.length, sIx_eq, sIx_eq, hw.1, hw.2, List.drop_zero, Nat.sub_zero]
      exact List.take_of_length_le (by rw [k2.length]; exact Nat.le_refl _)
    rw [e]
    exact k2
  | ref n =>
    simp only at h
    split at h
    · rename_i l hl
      obtain ⟨a, xs, rfl, k1, k2, _⟩ := getL_ref M hp hl
      exact sl_list pins s σ H _ v vl vu lo hi sl Q I rx hs pl pu ⟨a, xs, rfl, k1, h.newL M (cut_get lo hi k2)⟩
    · exact h.elim
  | str z =>
    obtain rfl := vstr hp
    simp only at h
    split at h
    · rename_i hz
      refine sl_str pins s σ H _ v vl vu lo hi sl Q I rx hs pl pu ⟨z, rfl, by rw [SL_eq]; exact hz, ?_⟩
      have hh := h.val M rstr
      have e : cutS z lo hi = ⟨(cut z.cps.toList lo hi).toArray⟩ := by
        unfold cutS cut
        have ez : z.cps.toList.length = z.length := by cases z; simp [Str.length]
        rw [ez, sIx_eq, sIx_eq]
      rw [e]
      exact hh
    · exact h.elim
  | _ => exact h.elim
/-- an optional part of a slice -/
structure PPO (X : Cx) (E : XK) (e : Option Expr) (f : Ex) : Prop where
  po : L2.PO X e (fun σ H Q => ∃ env μ ρ, EnvOk X.K H ρ env σ ∧ MemOk X.K H ρ μ ∧ Post X.K X.mg E (fun _ _ q o => optI q = some o) H ρ Q ((f env μ).bind onPart))
theorem PO.imp {e : Option Expr} {t t' : TO} (h : L2.PO X e t) (i : ∀ σ H Q, t' σ H Q → t σ H Q) : L2.PO X e t' := ⟨fun pins s σ H Q I q => h.run pins s σ H Q I (i σ H Q q)⟩
theorem ppo_none : PPO X E none (c .non) := ⟨by
  refine PO.imp po_none fun σ H Q h => ?_
  obtain ⟨env, μ, ρ, eo, M, h⟩ := h
  exact Post.val (R := fun _ _ q o => optI q = some o) (show Post X.K X.mg E (fun _ _ q o => optI q = some o) H ρ Q (Res.ok PV.non μ) from h) M rfl⟩
theorem ppo_some (h : PP X E e fe) : PPO X E (some e) (app1 fPart fe) := ⟨by
  refine PO.imp (po_some h.pe) fun σ H Q h => ?_
  obtain ⟨env, μ, ρ, eo, M, h⟩ := h
  unfold app1 at h
  rw [bind_bind] at h
  refine tE_bind eo M h fun x H1 p m ρ1 _ l1 e1 M1 r1 q1 => ?_
  cases p with
  | int i => exact ⟨i, vint r1, Post.val (R := fun _ _ q o => optI q = some o) (show Post X.K X.mg E (fun _ _ q o => optI q = some o) H1 ρ1 Q (Res.ok (PV.int i) m) from q1) M1 rfl⟩
  | _ => exact q1.elim⟩
theorem pp_sl {lo hi : Option Expr} {fl fh : Ex} {p2 : Pos} (ha : PP X E a fa) (hl : PPO X E lo fl) (hh : PPO X E hi fh) : PP X E (.Subscript a (.Slice lo hi none p2) pos) (sl fa fl fh) := ⟨by
  refine PE.imp (pe_slice (slP (E := E)) ha.pe hl.po hh.po) fun σ H Q h => ?_
  obtain ⟨env, μ, ρ, eo, M, h⟩ := h
  refine tE_bind eo M h fun x H1 p m ρ1 _ l1 e1 M1 r1 q1 => ⟨env, m, ρ1, e1, M1, (Post.bind (R := fun _ _ q o => optI q = some o) q1).imp fun lo H2 h2 => ?_⟩
  obtain ⟨ql, m2, ρ2, _, l2, M2, eql, q2⟩ := h2
  refine ⟨env, m2, ρ2, e1.mono l2, M2, (Post.bind (R := fun _ _ q o => optI q = some o) q2).imp fun hi H3 h3 => ?_⟩
  obtain ⟨qh, m3, ρ3, _, l3, M3, eqh, q3⟩ := h3
  exact ⟨m3, ρ3, p, ql, qh, M3, Rep.mono (l2.trans l3) _ _ r1, eql, eqh, q3⟩⟩
/-! t[::-1] of tuples and lists -/
theorem fm_congr {α β : Type} {f g : α → Option β} : ∀ l : List α, (∀ x ∈ l, f x = g x) → l.filterMap f = l.filterMap g
  | [], _ => rfl
  | x :: xs, h => by
    rw [List.filterMap_cons, List.filterMap_cons, h x List.mem_cons_self, fm_congr xs fun y hy => h y (List.mem_cons_of_mem _ hy)]
section
open PySem.Spec PyProof.Rows HT
section
variable {prog : Program} {w : World} {A : Around} {Ex : Value → Shared → Prop} {s : Shared}
theorem sliceApplied_rev {sl : Addr} {vs : Value} {n : Nat} {Q : Int × Int × Nat → Shared → Prop} (hs : s.heap.IsSliceOf sl .none .none vs) (ps : IsPart vs (some (-1)))
    (h : Q ((n : Int) - 1, -1, n) s) : wpAny (model prog w) A (Builtin.Slice.sliceApplied (.ref sl) (pure (n : Int))) Q Ex s := by
  obtain ⟨os, hos, hcs, hds⟩ := id hs
  unfold Builtin.Slice.sliceApplied Builtin.Slice.sliceFields
  refine wpAny_bind (wpAny_bind (wpAny_field hos hds (x := .none) rfl (wpAny_bind (wpAny_field hos hds (x := .none) rfl (wpAny_bind (wpAny_field hos hds (x := vs) rfl (wpAny_pure ?_)))))))
  refine wpAny_bind (HT.slicePart_ ps ?_)
  show wpAny _ _ (if ((-1 : Int) == 0) = true then _ else _) _ _ s
  rw [if_neg (by decide)]
  refine wpAny_bind (HT.slicePart_ .none (wpAny_bind (HT.slicePart_ .none (wpAny_bind (wpAny_pure ?_)))))
  have e : Builtin.Slice.slicePlaces ((n : Int) - 1) (-1) (-1) = n := by
    unfold Builtin.Slice.slicePlaces
    have h1 : ¬ ((-1 : Int) > 0) := by omega
    simp only [h1, if_false]
    have h2 : (- -1 : Int) = 1 := by decide
    rw [h2, Int.ediv_one]
    split <;> omega
  show wpAny _ _ (pure ((n : Int) - 1, (-1 : Int), Builtin.Slice.slicePlaces ((n : Int) - 1) (-1) (-1))) _ _ s
  rw [e]
  exact wpAny_pure h
theorem pick_rev (xs : Array Value) : ((List.range xs.size).filterMap fun (m : Nat) => xs[(((xs.size : Int) - 1) + (m : Int) * (-1)).toNat]?).toArray = xs.toList.reverse.toArray := by
  have e : (List.range xs.size).filterMap (fun (m : Nat) => xs[(((xs.size : Int) - 1) + (m : Int) * (-1)).toNat]?) = ((List.range xs.size).map fun k => xs.size - 1 - k).filterMap (xs[·]?) := by
    rw [List.filterMap_map]
    apply fm_congr
    intro m hm
    have := List.mem_range.mp hm
    have e : (((xs.size : Int) - 1) + (m : Int) * (-1)).toNat = xs.size - 1 - m := by omega
    rw [e]; rfl
  rw [e, PySem.W.krv_range, List.filterMap_reverse, PySem.W.krv_all]
theorem getItem_tuple_rev {t sl : Addr} {items : Array Value} {vs : Value} {Q : Value → Shared → Prop} (ht : IsTup s.heap t items) (hs : s.heap.IsSliceOf sl .none .none vs) (ps : IsPart vs (some (-1)))
    (h : Q (.ref s.heap.objs.size) { s with heap := s.heap.push { cls := .type "tuple", data := .seq items.toList.reverse.toArray } })
    (hsz : items.size ≤ sizeLine) : wpAny (model prog w) A (getItem (.ref t) (.ref sl)) Q Ex s := by
  have htake : sizeOk (.seq items.toList.reverse.toArray) := by
    show items.toList.reverse.toArray.size ≤ sizeLine
    rw [List.size_toArray, List.length_reverse, Array.length_toList]
    exact hsz
  obtain ⟨os, hos, hcs, hds⟩ := id hs
  have hTs : s.TypeIs (.ref sl) "slice" := ⟨os, hos, hcs⟩
  unfold getItem
  try with_reducible refine wpAny_holding ?_
  first | refine wpAny_bind (wpAny_pure ?_) | skip
  refine wpAny_bind (wpAny_sequenceKey ht.typeIs (by decide) ?_)
  refine wpAny_bind (wpAny_callSpecial?_slot (name := Str.ofString "__getitem__") ht.typeIs PyProof.Rows.slot_tuple_getitem
    (wpAny_call_entry PyProof.Rows.slot_tuple_getitem ht.typeIs entry_tuple_getitem ?_ (args_tuple_getitem _ _)))
  show wpAny _ _ (Builtin.Tuple.tupleItemsOf (.ref t) >>= _) _ _ s
  refine wpAny_bind (tupleItemsOf_ ht ?_)
  refine wpAny_bind (wpAny_typeOf hTs ?_)
  rw [if_pos (by decide)]
  refine wpAny_bind (sliceApplied_rev hs ps ?_)
  have hno : ¬ ((((items.size : Int) - 1) == 0 && (-1 : Int) == 1 && items.size == items.size) = true) := by
    intro q
    rw [Bool.and_eq_true, Bool.and_eq_true] at q
    exact absurd q.1.2 (by decide)
  show wpAny _ _ (if ((((items.size : Int) - 1) == 0 && (-1 : Int) == 1 && items.size == items.size) = true) then _ else _) _ _ s
  rw [if_neg hno, pick_rev]
  first
    | exact wpAny_bind (m := Builtin.Tuple.tupleExact _) (wpAny_newObj_type (wpAny_pure ⟨_, rfl, wpAny_pure h⟩) htake)
    | exact wpAny_bind (m := Builtin.Tuple.tupleExact _) (wpAny_newObj_type (wpAny_bind (wpAny_pure (wpAny_pure ⟨_, rfl, wpAny_pure h⟩))) htake)
    | exact wpAny_bind (wpAny_bind (m := Builtin.Tuple.tupleExact _) (wpAny_newObj_type (wpAny_pure (wpAny_pure ⟨_, rfl, wpAny_pure h⟩)) htake))
    | exact wpAny_bind (wpAny_bind (m := Builtin.Tuple.tupleExact _) (wpAny_newObj_type (wpAny_pure ⟨_, rfl, wpAny_pure h⟩) htake))
end
def tRevA (K : PySem.W.Frag) (te : L2.TE) : L2.TE := fun σ H Q => te σ H fun x H1 => ∃ a xs, x = .ref a ∧
  ((SqL K H1 a xs ∧ ∀ p, H1 p = none → Q (.ref p) (upd H1 p (.lst xs.reverse))) ∨ (SqT K H1 a xs ∧ ∀ p, H1 p = none → Q (.ref p) (upd H1 p (.tup xs.reverse))))
theorem pe_revA {e : Expr} {te : L2.TE} {k : Nat} {p1 p2 p3 pos : Pos} (he : PE X e te) : PE X (.Subscript e (.Slice none none (some (.UnaryOp .USub (.Constant (.int 1) k p1) p2)) p3) pos) (tRevA X.K te) := by
  refine ⟨fun pins s σ H Q I h => ?_⟩
  refine Subscript_ (thn (he.run pins s σ H _ I h) fun v s1 ⟨x, H1, I1, r1, q1⟩ => ?_)
  obtain ⟨a, xs, ex, hx⟩ := q1
  subst ex
  cases r1
  have hst : L2.PO X (some (.UnaryOp .USub (.Constant (.int 1) k p1) p2)) (tPart (tUn (rU fun i => .int (-i)) (tC (.int 1)))) := po_some (pe_un un_neg pe_int)
  refine wpAny_Slice (thn (po_none.run pins s1 σ H1 (fun o H2 => o = none ∧ H2 = H1) I1 ⟨rfl, rfl⟩) fun vl s2 ⟨l, H2, I2, pl, el, e2⟩ => ?_)
  subst el e2
  refine thn (po_none.run pins s2 σ H2 (fun o H3 => o = none ∧ H3 = H2) I2 ⟨rfl, rfl⟩) fun vu s3 ⟨u, H3, I3, pu, eu, e3⟩ => ?_
  subst eu e3
  refine thn (hst.run pins s3 σ H3 (fun o H4 => o = some (-1) ∧ H4 = H3) I3 ⟨1, rfl, -1, rfl, rfl, rfl⟩) fun vs s4 ⟨o, H4, I4, ps, eo, e4⟩ => ?_
  subst eo e4
  have I5 : Inv X pins σ H4 { s4 with heap := s4.heap.push { cls := .type "slice", data := .fields #[vl, vu, vs] } } := I4.kept (t' := s4.toks) fun b ob q => Heap.get?_push_of_some _ q
  rcases hx with ⟨hx, q⟩ | ⟨hx, q⟩
  · obtain ⟨its, r, ht, hz⟩ := I5.list hx
    have hlen := r.length
    show wpAny (model X.prog X.w) X.A (subscriptTail e (.Slice none none (some (.UnaryOp .USub (.Constant (.int 1) k p1) p2)) p3) (.ref a) (.ref s4.heap.objs.size)) (EP X pins σ Q) X.xe { s4 with heap := s4.heap.push { cls := .type "slice", data := .fields #[vl, vu, vs] } }
    refine tail_any (ops := [.ref a, .ref s4.heap.objs.size]) ht.isList.typeIs (PySem.slot_list_getitem.lookup) ?_ (by with_unfolding_all rfl)
    refine wpAny_getItem_list_slice ht.isList (Heap.IsSliceOf.new _ vl vu vs) pl pu ps (by decide) ?_ (by rw [List.size_toArray]; omega)
    rw [PySem.W.krv_pick]
    refine ⟨.ref _, _, I5.laid (t' := s4.toks) (o := .lst xs.reverse) (fun b ob q => Heap.get?_push_of_some _ q) (Nat.le_refl _) ?_, rfl, q _ (I5.hok.fresh (Nat.le_refl _))⟩
    exact ⟨by rw [List.length_reverse]; exact hz, _, 0, r.reverse, Heap.get?_push_size _ rfl⟩
  · obtain ⟨its, r, ht, hz⟩ := I5.tuple hx
    have hlen := r.length
    cases pl
    cases pu
    show wpAny (model X.prog X.w) X.A (subscriptTail e (.Slice none none (some (.UnaryOp .USub (.Constant (.int 1) k p1) p2)) p3) (.ref a) (.ref s4.heap.objs.size)) (EP X pins σ Q) X.xe { s4 with heap := s4.heap.push { cls := .type "slice", data := .fields #[.none, .none, vs] } }
    refine tail_any (ops := [.ref a, .ref s4.heap.objs.size]) ht.typeIs (PyProof.Rows.slot_tuple_getitem.lookup) ?_ (by with_unfolding_all rfl)
    refine getItem_tuple_rev ht (Heap.IsSliceOf.new _ .none .none vs) ps ?_ (by rw [List.size_toArray]; omega)
    refine ⟨.ref _, _, I5.laid (t' := s4.toks) (o := .tup xs.reverse) (fun b ob q => Heap.get?_push_of_some _ q) (Nat.le_refl _) ?_, rfl, q _ (I5.hok.fresh (Nat.le_refl _))⟩
    exact ⟨by rw [List.length_reverse]; exact hz, _, r.reverse, IsTup.new _ _⟩
end
theorem pp_revL {k : Nat} {p1 p2 p3 : Pos} (ha : PP X E a fa) : PP X E (.Subscript a (.Slice none none (some (.UnaryOp .USub (.Constant (.int 1) k p1) p2)) p3) pos)
    (app1 fRevL fa) := ⟨by
  refine PE.imp (pe_revA ha.pe) fun σ H Q h => ?_
  obtain ⟨env, μ, ρ, eo, M, h⟩ := h
  refine tE_bind eo M h fun x H1 p m ρ1 _ l1 e1 M1 r1 q1 => ?_
  cases p with
  | ref n =>
    simp only [fRevL, fRev] at q1
    split at q1
    · rename_i l hl
      obtain ⟨a, xs, rfl, k1, k2, _⟩ := getL_ref M1 r1 hl
      exact ⟨a, xs, rfl, .inl ⟨k1, q1.newL M1 k2.reverse⟩⟩
    · exact q1.elim
  | tup l =>
    obtain ⟨a, xs, rfl, k1, k2⟩ := rep_tup r1
    simp only [fRevL] at q1
    exact ⟨a, xs, rfl, .inr ⟨k1, q1.newT M1 k2.reverse⟩⟩
  | _ => exact q1.elim⟩
/-! calls of built-ins by name -/
theorem pp_callB {x : Str} {id : String} {f : Fn} {g : Ag} {p : Pos} (hc : CallR X (.builtin id) (rPn X.K X.mg E f)) (hm : X.mg x = none) (hv : bootBuiltins x = some (.builtin id)) (ha : PPA X E (e :: es) g) (hg : Gl X x := by rfl) (hn : x ≠ "__name__" := by decide) (hdb : (x == ("__debug__" : Str)) = false := by decide)
    (he : starEach (e :: es) X.env = (false, eval e X.env) :: starEach es X.env := by rfl) (hpl : (backTo pos (starEach es X.env)).any (·.1) = false := by rfl) : PP X E (.Call (.Name x p) (e :: es) [] pos) (app f g) := ⟨by
  refine PE.imp (pe_callB hc hg hm hv ha.pa hn hdb he hpl) fun σ H Q h => ?_
  obtain ⟨env, μ, ρ, eo, M, h⟩ := h
  exact tA_bind eo M h fun xs H1 ps m ρ1 _ l1 e1 M1 r1 q1 => ⟨m, ρ1, ps, M1, r1, q1⟩⟩
theorem pp_callTy {x : Str} {id : String} {f : Fn} {g : Ag} {p : Pos} (hc : CallR X (.type id) (rPn X.K X.mg E f)) (hm : X.mg x = none) (hv : bootBuiltins x = some (.type id)) (ha : PPA X E (e :: es) g) (hg : Gl X x := by rfl) (hn : x ≠ "__name__" := by decide) (hdb : (x == ("__debug__" : Str)) = false := by decide)
    (he : starEach (e :: es) X.env = (false, eval e X.env) :: starEach es X.env := by rfl) (hpl : (backTo pos (starEach es X.env)).any (·.1) = false := by rfl) : PP X E (.Call (.Name x p) (e :: es) [] pos) (app f g) := ⟨by
  refine PE.imp (pe_callTy hc hg hm hv ha.pa hn hdb he hpl) fun σ H Q h => ?_
  obtain ⟨env, μ, ρ, eo, M, h⟩ := h
  exact tA_bind eo M h fun xs H1 ps m ρ1 _ l1 e1 M1 r1 q1 => ⟨m, ρ1, ps, M1, r1, q1⟩⟩
/-- o.m(..), a method of a built-in type -/
def Kd.ty : Kd → String
  | .list => "list"
  | .str => "str"
  | .dict => "dict"
theorem isKd_ty {K : PySem.W.Frag} {H : Hp} {ρ : List Addr} {μ : Mem} {p : PV} {x : V} {k : Kd} (M : MemOk K H ρ μ) (r : Rep K H ρ p x) (h : isKd k μ p = true) : tyV K k.ty x H := by
  cases k with
  | str =>
    cases p <;> simp only [isKd, Bool.false_eq_true] at h
    obtain rfl := vstr r
    rfl
  | list =>
    cases p <;> simp only [isKd, Bool.false_eq_true] at h
    split at h
    · rename_i e
      obtain ⟨a, xs, _, rfl, g3, _⟩ := mem_lst M r e
      exact Or.inl ⟨rfl, xs, SqL.of g3⟩
    · cases h
  | dict =>
    cases p <;> simp only [isKd, Bool.false_eq_true] at h
    split at h
    · rename_i e
      obtain ⟨a, h1, rfl⟩ := rep_ref M r
      obtain ⟨xs, h3, _⟩ := M.at' _ _ a e h1
      exact Or.inr (Or.inr (Or.inl ⟨rfl, .inl ⟨xs, h3⟩⟩))
    · cases h
theorem mth_read {k : Kd} {f : Fn} {g : Ag} {K : PySem.W.Frag} {mg : Str → Option Value} {σ : L2.St} {H : Hp} {Q : VK} (h : tE K mg E (mth k f fa g) σ H Q) : tBM K k.ty (rPm K mg E f) (tE K mg E fa) (tA K mg E g) σ H Q := by
  obtain ⟨env, μ, ρ, eo, M, h⟩ := h
  refine tE_bind eo M h fun x H1 p m ρ1 _ l1 e1 M1 r1 q1 => ?_
  split at q1
  · rename_i hk
    exact ⟨isKd_ty M1 r1 hk, tA_bind e1 M1 q1 fun xs H2 ps m2 ρ2 _ l2 e2 M2 r2 q2 => ⟨m2, ρ2, p, ps, M2, Rep.mono l2 _ _ r1, r2, q2⟩⟩
  · exact q1.elim
theorem pp_bm {o : Expr} {fo : Ex} {name : Str} {id : String} {k : Kd} {f : Fn} {g : Ag} {apos : Pos} (pa : PlainAttrs k.ty) (slot : Slot k.ty name id) (hty : typeOf (.builtin id) = pure (.type "method_descriptor")) (hm : MtR X id (rPm X.K X.mg E f)) (ho : PP X E o fo) (ha : PPA X E (e :: es) g)
    (hbase : attributeBase o name X.env (eval o X.env) = eval o X.env := by rfl)
    (hfew : ((backTo pos (starEach (e :: es) X.env)).all (fun x => !x.1) && (backToKw pos (keywordEach [] X.env)).all (fun x => x.1.isSome)
      && decide ((e :: es).length + ([] : List Keyword).length + (if ([] : List Keyword).isEmpty then 0 else 1) < 30)) = true := by rfl)
    (hline : (apos.endLine == pos.line) = true := by rfl) (hs : starEach (e :: es) X.env = (false, eval e X.env) :: starEach es X.env := by rfl) (hplain : (backTo pos (starEach es X.env)).any (·.1) = false := by rfl) :
    PP X E (.Call (.Attribute o name apos) (e :: es) [] pos) (mth k f fo g) := ⟨PE.imp (L2.pe_bm pa slot hty hm ho.pe ha.pa hbase hfew hline hs hplain) fun _ _ _ h => mth_read h⟩
theorem pp_bm0 {o : Expr} {fo : Ex} {name : Str} {id : String} {k : Kd} {f : Fn} {apos : Pos} (pa : PlainAttrs k.ty) (slot : Slot k.ty name id) (hty : typeOf (.builtin id) = pure (.type "method_descriptor")) (hm : MtR X id (rPm X.K X.mg E f)) (ho : PP X E o fo)
    (hbase : attributeBase o name X.env (eval o X.env) = eval o X.env := by rfl) (hline : (apos.endLine == pos.line) = true := by rfl) :
    PP X E (.Call (.Attribute o name apos) [] [] pos) (mth k f fo an) := ⟨PE.imp (L2.pe_bm0 pa slot hty hm ho.pe hbase hline) fun σ H Q h => by
      obtain ⟨env, μ, ρ, eo, M, h⟩ := h
      refine tE_bind eo M h fun x H1 p m ρ1 _ l1 e1 M1 r1 q1 => ?_
      split at q1
      · rename_i hk
        exact ⟨isKd_ty M1 r1 hk, ⟨m, ρ1, p, [], M1, r1, .nil, q1⟩⟩
      · exact q1.elim⟩
theorem mtP_append : MtR X "list.append" (rPm X.K X.mg E fAppend) := by
  intro pins s σ H x xs v us Q I rx rxs h
  obtain ⟨μ, ρ, p, ps, M, hp, hps, h⟩ := h
  cases p with
  | ref n =>
    match ps, hps with
    | [q], hps =>
      obtain ⟨y, rfl, r⟩ := reps1 hps
      simp only [fAppend, push1] at h
      cases e : μ[n]? with
      | none => rw [e] at h; exact h.elim
      | some o =>
        rw [e] at h
        cases o with
        | lst l =>
          simp only at h
          by_cases hz : l.length < SL
          · rw [if_pos hz] at h
            obtain ⟨a, ys, g1, rfl, g3, g4⟩ := mem_lst M hp e
            exact mt_append pins s σ H _ _ v us Q I rx rxs ⟨a, ys, y, rfl, rfl, g3, by rw [SL_eq, g4.length]; exact hz, h.write M e g1 (g4.append (.cons r .nil)) rnon⟩
          · rw [if_neg hz] at h; exact h.elim
        | _ => exact h.elim
    | [], _ => exact h.elim
    | _ :: _ :: _, _ => exact h.elim
  | _ => exact h.elim
theorem mtP_extend : MtR X "list.extend" (rPm X.K X.mg E fExtend) := by
  intro pins s σ H x xs v us Q I rx rxs h
  obtain ⟨μ, ρ, p, ps, M, hp, hps, h⟩ := h
  cases p with
  | ref n =>
    match ps, hps with
    | [.ref k], hps =>
      obtain ⟨y, rfl, r⟩ := reps1 hps
      simp only [fExtend] at h
      split at h
      · rename_i l l' e e'
        split at h
        · rename_i hz
          obtain ⟨a, ys, g1, rfl, g3, g4⟩ := mem_lst M hp e
          obtain ⟨b, zs, k1, rfl, k3, k4⟩ := mem_lst M r e'
          exact mt_extend pins s σ H _ _ v us Q I rx rxs ⟨a, b, ys, zs, rfl, rfl, g3, k3, by rw [SL_eq, g4.length, k4.length]; exact hz, h.write M e g1 (g4.append k4) rnon⟩
        · exact h.elim
      · exact h.elim
    | [], _ => exact h.elim
    | .non :: _, _ => exact h.elim
    | .bl _ :: _, _ => exact h.elim
    | .int _ :: _, _ => exact h.elim
    | .str _ :: _, _ => exact h.elim
    | .tup _ :: _, _ => exact h.elim
    | .cst _ :: _, _ => exact h.elim
    | .ref _ :: _ :: _, _ => exact h.elim
  | _ => exact h.elim
theorem mtP_pop : MtR X "list.pop" (rPm X.K X.mg E fPop) := by
  intro pins s σ H x xs v us Q I rx rxs h
  obtain ⟨μ, ρ, p, ps, M, hp, hps, h⟩ := h
  cases p with
  | ref n =>
    match ps, hps with
    | [], hps =>
      simp only [Reps] at hps
      subst hps
      simp only [fPop] at h
      split at h
      · rename_i l e
        split at h
        · rename_i q hq
          obtain ⟨a, ys, g1, rfl, g3, g4⟩ := mem_lst M hp e
          obtain ⟨y, y1, y2⟩ := g4.get hq
          exact mt_pop pins s σ H _ _ v us Q I rx rxs ⟨a, ys, y, rfl, rfl, g3, by rw [g4.length]; exact y1, h.write M e g1 g4.dropLast y2⟩
        · exact h.elim
      · exact h.elim
    | [.int i], hps =>
      obtain ⟨w, rfl, r⟩ := reps1 hps
      obtain rfl := vint r
      simp only [fPop] at h
      split at h
      · rename_i l e
        split at h
        · rename_i hz
          split at h
          · rename_i k hk
            split at h
            · rename_i q hq
              obtain ⟨a, ys, g1, rfl, g3, g4⟩ := mem_lst M hp e
              obtain ⟨y, y1, y2⟩ := g4.get hq
              exact mt_popAt pins s σ H _ _ v us Q I rx rxs ⟨a, ys, i, k, y, rfl, rfl, g3, hz.1, hz.2, (ixN_seq (show L2.ixN ys.length i = some k by rw [g4.length]; exact hk)).1, y1, h.write M e g1 (g4.erase k) y2⟩
            · exact h.elim
          · exact h.elim
        · exact h.elim
      · exact h.elim
    | .non :: _, _ => exact h.elim
    | .bl _ :: _, _ => exact h.elim
    | .ref _ :: _, _ => exact h.elim
    | .str _ :: _, _ => exact h.elim
    | .tup _ :: _, _ => exact h.elim
    | .cst _ :: _, _ => exact h.elim
    | .int _ :: _ :: _, _ => exact h.elim
  | _ => exact h.elim
theorem pp_append {o : Expr} {fo : Ex} {g : Ag} {apos : Pos} (ho : PP X E o fo) (ha : PPA X E (e :: es) g) (hbase : attributeBase o "append" X.env (eval o X.env) = eval o X.env := by rfl)
    (hfew : ((backTo pos (starEach (e :: es) X.env)).all (fun x => !x.1) && (backToKw pos (keywordEach [] X.env)).all (fun x => x.1.isSome)
      && decide ((e :: es).length + ([] : List Keyword).length + (if ([] : List Keyword).isEmpty then 0 else 1) < 30)) = true := by rfl)
    (hline : (apos.endLine == pos.line) = true := by rfl) (hs : starEach (e :: es) X.env = (false, eval e X.env) :: starEach es X.env := by rfl) (hplain : (backTo pos (starEach es X.env)).any (·.1) = false := by rfl) :
    PP X E (.Call (.Attribute o "append" apos) (e :: es) [] pos) (mth .list fAppend fo g) :=
  pp_bm (k := .list) PySem.F.plainAttrs_list PySem.F.slot_list_append PySem.F.type_list_append mtP_append ho ha hbase hfew hline hs hplain
theorem pp_extend {o : Expr} {fo : Ex} {g : Ag} {apos : Pos} (ho : PP X E o fo) (ha : PPA X E (e :: es) g) (hbase : attributeBase o "extend" X.env (eval o X.env) = eval o X.env := by rfl)
    (hfew : ((backTo pos (starEach (e :: es) X.env)).all (fun x => !x.1) && (backToKw pos (keywordEach [] X.env)).all (fun x => x.1.isSome)
      && decide ((e :: es).length + ([] : List Keyword).length + (if ([] : List Keyword).isEmpty then 0 else 1) < 30)) = true := by rfl)
    (hline : (apos.endLine == pos.line) = true := by rfl) (hs : starEach (e :: es) X.env = (false, eval e X.env) :: starEach es X.env := by rfl) (hplain : (backTo pos (starEach es X.env)).any (·.1) = false := by rfl) :
    PP X E (.Call (.Attribute o "extend" apos) (e :: es) [] pos) (mth .list fExtend fo g) :=
  pp_bm (k := .list) PySem.F.plainAttrs_list PySem.F.slot_list_extend PySem.F.type_list_extend mtP_extend ho ha hbase hfew hline hs hplain
theorem pp_popAt {o : Expr} {fo : Ex} {g : Ag} {apos : Pos} (ho : PP X E o fo) (ha : PPA X E (e :: es) g) (hbase : attributeBase o "pop" X.env (eval o X.env) = eval o X.env := by rfl)
    (hfew : ((backTo pos (starEach (e :: es) X.env)).all (fun x => !x.1) && (backToKw pos (keywordEach [] X.env)).all (fun x => x.1.isSome)
      && decide ((e :: es).length + ([] : List Keyword).length + (if ([] : List Keyword).isEmpty then 0 else 1) < 30)) = true := by rfl)
    (hline : (apos.endLine == pos.line) = true := by rfl) (hs : starEach (e :: es) X.env = (false, eval e X.env) :: starEach es X.env := by rfl) (hplain : (backTo pos (starEach es X.env)).any (·.1) = false := by rfl) :
    PP X E (.Call (.Attribute o "pop" apos) (e :: es) [] pos) (mth .list fPop fo g) :=
  pp_bm (k := .list) PySem.F.plainAttrs_list PySem.F.slot_list_pop PySem.F.type_list_pop mtP_pop ho ha hbase hfew hline hs hplain
theorem pp_pop {o : Expr} {fo : Ex} {apos : Pos} (ho : PP X E o fo) (hbase : attributeBase o "pop" X.env (eval o X.env) = eval o X.env := by rfl) (hline : (apos.endLine == pos.line) = true := by rfl) :
    PP X E (.Call (.Attribute o "pop" apos) [] [] pos) (mth .list fPop fo an) :=
  pp_bm0 (k := .list) PySem.F.plainAttrs_list PySem.F.slot_list_pop PySem.F.type_list_pop mtP_pop ho hbase hline
end
end PL
end
section
set_option autoImplicit false
set_option Elab.async false
set_option linter.all false
set_option maxRecDepth 100000
set_option maxHeartbeats 1000000
/-! Built-ins by values; statements; loops; comprehensions; defs. -/
namespace PL
open PySem L2
section
variable {X : Cx} {E : XK}
theorem crP_len : CallR X (.builtin "len") (rPn X.K X.mg E fLen) := by
  intro pins s σ H xs us Q I rs h
  obtain ⟨μ, ρ, ps, M, hp, h⟩ := h
  match ps, hp with
  | [p], hp =>
    obtain ⟨x, rfl, r⟩ := reps1 hp
    have seqs : (match getL μ p with | some l => Res.ok (.int l.length) μ | none => .stuck) = fLen [p] μ → wpAny (model X.prog X.w) X.A (call (.builtin "len") us) (EP X pins σ Q) X.xe s := fun e => by
      rw [← e] at h
      split at h
      · rename_i l hl
        obtain ⟨a, ys, rfl, k1, k2⟩ := getL_any M r hl
        exact call_len_seq pins s σ H _ us Q I rs ⟨a, ys, rfl, k1, by rw [k2.length]; exact h.val M rint⟩
      · exact h.elim
    cases p with
    | str z =>
      obtain rfl := vstr r
      simp only [fLen] at h
      split at h
      · rename_i hz
        exact call_len_str pins s σ H _ us Q I rs ⟨z, rfl, by rw [SL_eq]; exact hz, h.val M rint⟩
      · exact h.elim
    | _ => exact seqs rfl
  | [], _ => exact h.elim
  | p :: _ :: _, _ => cases p <;> exact h.elim
theorem crP_int : CallR X (.type "int") (rPn X.K X.mg E fInt) := by
  intro pins s σ H xs us Q I rs h
  obtain ⟨μ, ρ, ps, M, hp, h⟩ := h
  match ps, hp with
  | [p], hp =>
    obtain ⟨x, rfl, r⟩ := reps1 hp
    cases p with
    | int i =>
      obtain rfl := vint r
      exact call_int1 pins s σ H _ us Q I rs (.inl ⟨i, rfl, h.val M rint⟩)
    | bl b =>
      obtain rfl := vbl r
      exact call_int1 pins s σ H _ us Q I rs (.inr ⟨b, rfl, h.val M rint⟩)
    | _ => exact h.elim
  | [], _ => exact h.elim
  | p :: _ :: _, _ => cases p <;> exact h.elim
theorem crP_abs : CallR X (.builtin "abs") (rPn X.K X.mg E fAbs) := by
  intro pins s σ H xs us Q I rs h
  obtain ⟨μ, ρ, ps, M, hp, h⟩ := h
  match ps, hp with
  | [p], hp =>
    obtain ⟨x, rfl, r⟩ := reps1 hp
    cases p with
    | int i =>
      obtain rfl := vint r
      exact call_abs pins s σ H _ us Q I rs ⟨i, rfl, h.val M rint⟩
    | _ => exact h.elim
  | [], _ => exact h.elim
  | p :: _ :: _, _ => cases p <;> exact h.elim
theorem maxL_spec : ∀ (l : List Int) (m : Int), (maxL m l = m ∨ maxL m l ∈ l) ∧ m ≤ maxL m l ∧ ∀ y ∈ l, y ≤ maxL m l
  | [], m => by simp [maxL]
  | x :: xs, m => by
    unfold maxL
    by_cases h : x > m
    · rw [if_pos h]
      obtain ⟨h1, h2, h3⟩ := maxL_spec xs x
      refine ⟨.inr ?_, by omega, fun y hy => ?_⟩
      · rcases h1 with h1 | h1
        · rw [h1]; exact List.mem_cons_self
        · exact List.mem_cons_of_mem _ h1
      · rcases List.mem_cons.mp hy with rfl | hy
        · exact h2
        · exact h3 y hy
    · rw [if_neg h]
      obtain ⟨h1, h2, h3⟩ := maxL_spec xs m
      refine ⟨?_, h2, fun y hy => ?_⟩
      · rcases h1 with h1 | h1
        · exact .inl h1
        · exact .inr (List.mem_cons_of_mem _ h1)
      · rcases List.mem_cons.mp hy with rfl | hy
        · omega
        · exact h3 y hy
theorem minL_spec : ∀ (l : List Int) (m : Int), (minL m l = m ∨ minL m l ∈ l) ∧ minL m l ≤ m ∧ ∀ y ∈ l, minL m l ≤ y
  | [], m => by simp [minL]
  | x :: xs, m => by
    unfold minL
    by_cases h : x < m
    · rw [if_pos h]
      obtain ⟨h1, h2, h3⟩ := minL_spec xs x
      refine ⟨.inr ?_, by omega, fun y hy => ?_⟩
      · rcases h1 with h1 | h1
        · rw [h1]; exact List.mem_cons_self
        · exact List.mem_cons_of_mem _ h1
      · rcases List.mem_cons.mp hy with rfl | hy
        · exact h2
        · exact h3 y hy
    · rw [if_neg h]
      obtain ⟨h1, h2, h3⟩ := minL_spec xs m
      refine ⟨?_, h2, fun y hy => ?_⟩
      · rcases h1 with h1 | h1
        · exact .inl h1
        · exact .inr (List.mem_cons_of_mem _ h1)
      · rcases List.mem_cons.mp hy with rfl | hy
        · omega
        · exact h3 y hy
theorem crP_max (hc : X.calm = true) : CallR X (.builtin "max") (rPn X.K X.mg E fMax) := by
  intro pins s σ H xs us Q I rs h
  obtain ⟨μ, ρ, ps, M, hp, h⟩ := h
  match ps, hp with
  | [.int i, .int j], hp =>
    obtain ⟨x, y, rfl, r1, r2⟩ := reps2 hp
    obtain rfl := vint r1
    obtain rfl := vint r2
    exact call_max2 hc pins s σ H _ us Q I rs ⟨i, j, rfl, h.val M rint⟩
  | [.ref n], hp =>
    obtain ⟨x, rfl, r⟩ := reps1 hp
    simp only [fMax] at h
    split at h
    · rename_i i is e
      cases e2 : getL μ (.ref n) with
      | none => rw [e2] at e; simp at e
      | some l =>
        rw [e2] at e
        obtain ⟨a, ys, rfl, k1, k2, _⟩ := getL_ref M r e2
        obtain rfl := intsOf_map (show intsOf l = some (i :: is) from e) k2
        refine cr_max hc pins s σ H _ us Q I rs ⟨a, i :: is, rfl, k1, Nat.succ_pos _, fun m m1 m2 => ?_⟩
        obtain ⟨h1, h2, h3⟩ := maxL_spec is i
        have e3 : m = maxL i is := by
          have g1 : maxL i is ≤ m := by
            rcases h1 with h1 | h1
            · rw [h1]; exact m2 i List.mem_cons_self
            · exact m2 _ (List.mem_cons_of_mem _ h1)
          have g2 : m ≤ maxL i is := by
            rcases List.mem_cons.mp m1 with rfl | m1
            · exact h2
            · exact h3 m m1
          omega
        rw [e3]
        exact h.val M rint
    · exact h.elim
  | [], _ => exact h.elim
  | .non :: _, _ => exact h.elim
  | .bl _ :: _, _ => exact h.elim
  | .str _ :: _, _ => exact h.elim
  | .tup _ :: _, _ => exact h.elim
  | .cst _ :: _, _ => exact h.elim
  | [.int _], _ => exact h.elim
  | .int _ :: .non :: _, _ => exact h.elim
  | .int _ :: .bl _ :: _, _ => exact h.elim
  | .int _ :: .str _ :: _, _ => exact h.elim
  | .int _ :: .tup _ :: _, _ => exact h.elim
  | .int _ :: .cst _ :: _, _ => exact h.elim
  | .int _ :: .ref _ :: _, _ => exact h.elim
  | .int _ :: .int _ :: _ :: _, _ => exact h.elim
  | .ref _ :: _ :: _, _ => exact h.elim
theorem crP_min (hc : X.calm = true) : CallR X (.builtin "min") (rPn X.K X.mg E fMin) := by
  intro pins s σ H xs us Q I rs h
  obtain ⟨μ, ρ, ps, M, hp, h⟩ := h
  match ps, hp with
  | [.int i, .int j], hp =>
    obtain ⟨x, y, rfl, r1, r2⟩ := reps2 hp
    obtain rfl := vint r1
    obtain rfl := vint r2
    exact call_min2 hc pins s σ H _ us Q I rs ⟨i, j, rfl, h.val M rint⟩
  | [.ref n], hp =>
    obtain ⟨x, rfl, r⟩ := reps1 hp
    simp only [fMin] at h
    split at h
    · rename_i i is e
      cases e2 : getL μ (.ref n) with
      | none => rw [e2] at e; simp at e
      | some l =>
        rw [e2] at e
        obtain ⟨a, ys, rfl, k1, k2, _⟩ := getL_ref M r e2
        obtain rfl := intsOf_map (show intsOf l = some (i :: is) from e) k2
        refine cr_min hc pins s σ H _ us Q I rs ⟨a, i :: is, rfl, k1, Nat.succ_pos _, fun m m1 m2 => ?_⟩
        obtain ⟨h1, h2, h3⟩ := minL_spec is i
        have e3 : m = minL i is := by
          have g1 : m ≤ minL i is := by
            rcases h1 with h1 | h1
            · rw [h1]; exact m2 i List.mem_cons_self
            · exact m2 _ (List.mem_cons_of_mem _ h1)
          have g2 : minL i is ≤ m := by
            rcases List.mem_cons.mp m1 with rfl | m1
            · exact h2
            · exact h3 m m1
          omega
        rw [e3]
        exact h.val M rint
    · exact h.elim
  | [], _ => exact h.elim
  | .non :: _, _ => exact h.elim
  | .bl _ :: _, _ => exact h.elim
  | .str _ :: _, _ => exact h.elim
  | .tup _ :: _, _ => exact h.elim
  | .cst _ :: _, _ => exact h.elim
  | [.int _], _ => exact h.elim
  | .int _ :: .non :: _, _ => exact h.elim
  | .int _ :: .bl _ :: _, _ => exact h.elim
  | .int _ :: .str _ :: _, _ => exact h.elim
  | .int _ :: .tup _ :: _, _ => exact h.elim
  | .int _ :: .cst _ :: _, _ => exact h.elim
  | .int _ :: .ref _ :: _, _ => exact h.elim
  | .int _ :: .int _ :: _ :: _, _ => exact h.elim
  | .ref _ :: _ :: _, _ => exact h.elim
/-- a call with one list of ints -/
theorem one_ints {id : String} {f : Fn} {g : List Int → PV} (hf : ∀ n μ, f [.ref n] μ = match (getL μ (.ref n)).bind intsOf with | some is => .ok (g is) μ | _ => .stuck) (hn : ∀ ps μ, (∀ n, ps ≠ [.ref n]) → f ps μ = .stuck)
    (run : ∀ (pins : List (Addr × Obj)) (s : Shared) (σ : L2.St) (H : Hp) (us : List Value) (Q : VK) (a : Addr) (is : List Int), Inv X pins σ H s → Vals [V.ref a] us → SqL X.K H a (is.map V.int) → (∀ x, (∀ ρ, Rep X.K H ρ (g is) x) → Q x H) → wpAny (model X.prog X.w) X.A (call (.builtin id) us) (EP X pins σ Q) X.xe s) :
    CallR X (.builtin id) (rPn X.K X.mg E f) := by
  intro pins s σ H xs us Q I rs h
  obtain ⟨μ, ρ, ps, M, hp, h⟩ := h
  by_cases hps : ∃ n, ps = [.ref n]
  · obtain ⟨n, rfl⟩ := hps
    obtain ⟨x, rfl, r⟩ := reps1 hp
    rw [hf] at h
    split at h
    · rename_i is e
      cases e2 : getL μ (.ref n) with
      | none => rw [e2] at e; simp at e
      | some l =>
        rw [e2] at e
        obtain ⟨a, ys, rfl, k1, k2, _⟩ := getL_ref M r e2
        obtain rfl := intsOf_map (show intsOf l = some is from e) k2
        exact run pins s σ H us Q a is I rs k1 fun x hx => h.val M (hx ρ)
    · exact h.elim
  · rw [hn ps μ fun n e => hps ⟨n, e⟩] at h
    exact h.elim
theorem not_one {ps : List PV} (h : ∀ n, ps ≠ [.ref n]) : ps = [] ∨ (∃ p, ps = [p] ∧ ∀ n, p ≠ .ref n) ∨ ∃ p q r, ps = p :: q :: r := by
  match ps, h with
  | [], _ => exact .inl rfl
  | [p], h => exact .inr (.inl ⟨p, rfl, fun n e => h n (by rw [e])⟩)
  | p :: q :: r, _ => exact .inr (.inr ⟨p, q, r, rfl⟩)
theorem crP_sum (hc : X.calm = true) : CallR X (.builtin "sum") (rPn X.K X.mg E fSum) := by
  refine one_ints (g := fun is => .int is.sum) (fun _ _ => rfl) (fun ps μ hn => ?_) fun pins s σ H us Q a is I rs hs hq => cr_sum hc pins s σ H _ us Q I rs ⟨a, is, rfl, hs, hq _ fun _ => rint⟩
  rcases not_one hn with rfl | ⟨p, rfl, h⟩ | ⟨p, q, r, rfl⟩
  · rfl
  · cases p <;> first | rfl | exact absurd rfl (h _)
  · cases p <;> rfl
theorem bools_run {id : String} {f : Fn} {g : List Bool → Bool} (hf : ∀ n μ, f [.ref n] μ = match (getL μ (.ref n)).bind boolsOf with | some is => .ok (.bl (g is)) μ | _ => .stuck) (hn : ∀ ps μ, (∀ n, ps ≠ [.ref n]) → f ps μ = .stuck)
    (run : CallR X (.builtin id) (fun vs H Q => ∃ (a : Addr) (bs : List Bool), vs = [V.ref a] ∧ SqL X.K H a (bs.map V.bl) ∧ Q (.bl (g bs)) H)) : CallR X (.builtin id) (rPn X.K X.mg E f) := by
  intro pins s σ H xs us Q I rs h
  obtain ⟨μ, ρ, ps, M, hp, h⟩ := h
  by_cases hps : ∃ n, ps = [.ref n]
  · obtain ⟨n, rfl⟩ := hps
    obtain ⟨x, rfl, r⟩ := reps1 hp
    rw [hf] at h
    split at h
    · rename_i is e
      cases e2 : getL μ (.ref n) with
      | none => rw [e2] at e; simp at e
      | some l =>
        rw [e2] at e
        obtain ⟨a, ys, rfl, k1, k2, _⟩ := getL_ref M r e2
        obtain rfl := boolsOf_map (show boolsOf l = some is from e) k2
        exact run pins s σ H _ us Q I rs ⟨a, is, rfl, k1, h.val M rbl⟩
    · exact h.elim
  · rw [hn ps μ fun n e => hps ⟨n, e⟩] at h
    exact h.elim
theorem crP_all (hc : X.calm = true) : CallR X (.builtin "all") (rPn X.K X.mg E fAll) := by
  refine bools_run (g := fun bs => bs.all id) (fun _ _ => rfl) (fun ps μ hn => ?_) (cr_all hc)
  rcases not_one hn with rfl | ⟨p, rfl, h⟩ | ⟨p, q, r, rfl⟩
  · rfl
  · cases p <;> first | rfl | exact absurd rfl (h _)
  · cases p <;> rfl
theorem crP_any (hc : X.calm = true) : CallR X (.builtin "any") (rPn X.K X.mg E fAny) := by
  refine bools_run (g := fun bs => bs.any id) (fun _ _ => rfl) (fun ps μ hn => ?_) (cr_any hc)
  rcases not_one hn with rfl | ⟨p, rfl, h⟩ | ⟨p, q, r, rfl⟩
  · rfl
  · cases p <;> first | rfl | exact absurd rfl (h _)
  · cases p <;> rfl
theorem crP_tuple : CallR X (.type "tuple") (rPn X.K X.mg E fTuple) := by
  intro pins s σ H xs us Q I rs h
  obtain ⟨μ, ρ, ps, M, hp, h⟩ := h
  match ps, hp with
  | [p], hp =>
    obtain ⟨x, rfl, r⟩ := reps1 hp
    simp only [fTuple] at h
    split at h
    · rename_i l hl
      cases p with
      | tup l' =>
        simp only [getL, Option.some.injEq] at hl
        subst hl
        obtain ⟨a, ys, e, k1, k2⟩ := rep_tup r
        subst e
        exact call_tuple_of pins s σ H _ us Q I rs ⟨a, ys, rfl, .inr ⟨k1, h.val M r⟩⟩
      | ref n =>
        obtain ⟨a, ys, rfl, k1, k2, _⟩ := getL_ref M r hl
        exact call_tuple_of pins s σ H _ us Q I rs ⟨a, ys, rfl, .inl ⟨k1, h.newT M k2⟩⟩
      | _ => simp [getL] at hl
    · exact h.elim
  | [], _ => exact h.elim
  | p :: _ :: _, _ => cases p <;> exact h.elim
theorem crP_list : CallR X (.type "list") (rPn X.K X.mg E fList) := by
  intro pins s σ H xs us Q I rs h
  obtain ⟨μ, ρ, ps, M, hp, h⟩ := h
  match ps, hp with
  | [p], hp =>
    obtain ⟨x, rfl, r⟩ := reps1 hp
    simp only [fList] at h
    split at h
    · rename_i l hl
      obtain ⟨a, ys, rfl, k1, k2⟩ := getL_any M r hl
      exact call_list_of pins s σ H _ us Q I rs ⟨a, ys, rfl, k1, h.newL M k2⟩
    · exact h.elim
  | [], _ => exact h.elim
  | p :: _ :: _, _ => cases p <;> exact h.elim
theorem crP_str : CallR X (.type "str") (rPn X.K X.mg E fStr) := by
  intro pins s σ H xs us Q I rs h
  obtain ⟨μ, ρ, ps, M, hp, h⟩ := h
  match ps, hp with
  | [p], hp =>
    obtain ⟨x, rfl, r⟩ := reps1 hp
    cases p with
    | int i =>
      obtain rfl := vint r
      simp only [fStr] at h
      split at h
      · rename_i hz
        exact call_str_int pins s σ H _ us Q I rs ⟨i, rfl, hz, h.val M rstr⟩
      · exact h.elim
    | non =>
      obtain rfl := vnon r
      have hv := h.val M rstr
      obtain ⟨u, rfl, rx⟩ := vals1 rs
      cases rx
      exact PySem.P.str_of_none ⟨.str _, H, I.tok _, ⟨_, rfl⟩, hv⟩
    | _ => exact h.elim
  | [], _ => exact h.elim
  | p :: _ :: _, _ => cases p <;> exact h.elim
/-! repr of data -/
mutual
theorem dp_noDict {K : PySem.W.Frag} {H : Hp} : ∀ {x : V} {d : PyData}, Dp K H x d → d.hasDict = false
  | _, _, .non => by simp only [PyData.hasDict]
  | _, _, .bl _ => by simp only [PyData.hasDict]
  | _, _, .int _ => by simp only [PyData.hasDict]
  | _, _, .str _ => by simp only [PyData.hasDict]
  | _, _, .lst _ h => by simp only [PyData.hasDict]; exact dps_noDict h
  | _, _, .tup _ h => by simp only [PyData.hasDict]; exact dps_noDict h
theorem dps_noDict {K : PySem.W.Frag} {H : Hp} : ∀ {x : List V} {d : List PyData}, DpAll K H x d → PyData.hasDictAll d = false
  | _, _, .nil => by simp only [PyData.hasDictAll]
  | _, _, .cons h t => by simp only [PyData.hasDictAll, dp_noDict h, dps_noDict t, Bool.or_self]
end
/-! lists of data and of empty dicts -/
section
variable {pins : List (Addr × Obj)} {σ : L2.St} {H : Hp} {s : Shared} {ρ : List Addr} {μ : Mem}
/-- what repr reads of an item -/
structure Itm (P : Program) (w : World) (h : Heap) (u : Value) (d : PyData) : Prop where
  rd : ∃ as, Reads h u d as
  rp : d.showable = true → d.shown.length ≤ sizeLine → ∃ bs, ReadAtMost h d.depth bs ∧ ReprK P w bs h d.depth u d.shown
theorem itm_of (M : MemOk X.K H ρ μ) (I : Inv X pins σ H s) {p : PV} {y : V} {u : Value} {d : PyData} (e : toI μ p = some d) (r : Rep X.K H ρ p y) (ru : RelV y u) : Itm X.prog X.w s.heap u d := by
  unfold toI at e
  cases q : toD μ p with
  | some d' =>
    rw [q] at e
    cases e
    have dp := dp_toD M q r
    have ⟨as, rd⟩ := Dp.reads I _ _ _ dp ru
    exact ⟨⟨as, rd⟩, fun a1 a2 => ReprK.of_reads rd a1 (PyData.noDict_hsm (dp_noDict dp)) a2⟩
  | none =>
    rw [q] at e
    cases p <;> simp only [reduceCtorEq] at e
    rename_i n
    split at e
    · rename_i q2
      cases e
      obtain ⟨a, h1, rfl⟩ := rep_ref M r
      obtain ⟨xs, h3, h4⟩ := M.at' n _ a q2 h1
      simp only [RepK] at h4
      subst h4
      cases ru
      obtain ⟨_, ns, vs, kv, o, es, ep, q1, q2, q3, _, q5, _⟩ := L2.dk_of I.hok h3
      cases kv
      have hes : es.toList = [] := by
        cases hh : es.toList with
        | nil => rfl
        | cons a l => rw [hh] at q5; nomatch q5
      have rd : Reads s.heap (.ref a) (.dict []) (a :: [] ++ []) := .dict q1 q2.1 q3 (by rw [hes]; exact .nil) (by rw [hes]; exact .nil)
      exact ⟨⟨_, rd⟩, fun a1 a2 => ReprK.of_reads rd a1 (fun _ hm => by
        simp only [List.append_nil, List.mem_singleton] at hm
        rw [← hm] at ns
        exact absurd ns (by simp)) a2⟩
    · cases e
theorem itms_of (M : MemOk X.K H ρ μ) (I : Inv X pins σ H s) : ∀ {l : List PV} {ys : List V} {us : List Value} {ds : List PyData}, toIs μ l = some ds → Reps X.K H ρ l ys → Vals ys us → (∃ as, ReadsAll s.heap us ds as) ∧ (PyData.showableAll ds = true → (∀ t ∈ PyData.shownAll ds, t.length ≤ sizeLine) → ∃ bs, ReadAtMost s.heap (PyData.depthAll ds) bs ∧ ReprAllK X.prog X.w bs s.heap (PyData.depthAll ds) us (PyData.shownAll ds))
  | [], ys, us, ds, e, r, v => by
    simp only [toIs, Option.some.injEq] at e
    subst e
    simp only [Reps] at r
    subst r
    cases v
    exact ⟨⟨_, .nil⟩, fun _ _ => ⟨[], (fun _ h => nomatch h), by simp only [PyData.shownAll]; exact .nil⟩⟩
  | p :: ps, ys, us, ds, e, r, v => by
    obtain ⟨y, zs, rfl, r1, r2⟩ := Reps.cons_iff.mp r
    cases v with
    | cons v1 v2 =>
      simp only [toIs] at e
      cases q1 : toI μ p with
      | none => rw [q1] at e; simp at e
      | some d =>
        cases q2 : toIs μ ps with
        | none => rw [q1, q2] at e; simp at e
        | some es =>
          rw [q1, q2] at e
          simp only [Option.bind_some, Option.map_some, Option.some.injEq] at e
          subst e
          obtain ⟨⟨as, j1⟩, j2⟩ := itm_of M I q1 r1 v1
          obtain ⟨⟨bs, k1⟩, k2⟩ := itms_of M I q2 r2 v2
          refine ⟨⟨_, .cons j1 k1⟩, fun sh sz => ?_⟩
          simp only [PyData.showableAll, Bool.and_eq_true] at sh
          simp only [PyData.shownAll, List.mem_cons, forall_eq_or_imp] at sz
          obtain ⟨cs, x1, x2⟩ := j2 sh.1 sz.1
          obtain ⟨gs, y1, y2⟩ := k2 sh.2 sz.2
          refine ⟨cs ++ gs, ?_, ?_⟩
          · have l1 := Nat.le_max_left d.depth (PyData.depthAll es)
            have l2 := Nat.le_max_right d.depth (PyData.depthAll es)
            simp only [PyData.depthAll]
            exact (x1.mono l1).append (y1.mono l2)
          · have l1 := Nat.le_max_left d.depth (PyData.depthAll es)
            have l2 := Nat.le_max_right d.depth (PyData.depthAll es)
            have m1 : ∀ b ∈ cs, b ∈ cs ++ gs := fun b hb => by simp [hb]
            have m2 : ∀ b ∈ gs, b ∈ cs ++ gs := fun b hb => by simp [hb]
            simp only [PyData.depthAll, PyData.shownAll]
            exact .cons ((x2.more m1).level_le l1) (y2.more_le m2 l2)
theorem repr_items (M : MemOk X.K H ρ μ) (I : Inv X pins σ H s) (hg : X.A.guards = some []) (hu : X.A.units + 65 < cLine) {n : Nat} {y : V} {u : Value} {d : PyData} (e : toX μ (.ref n) = some d) (r : Rep X.K H ρ (.ref n) y) (ru : RelV y u) (z1 : d.showable = true) (z2 : d.shown.length ≤ sizeLine) (z3 : d.depth ≤ 64) {Q : Value → Shared → Prop} {E : Value → Shared → Prop}
    (hQ : ∀ h' t tk, (∀ b o, s.heap.get? b = some o → h'.get? b = some o) → Q (.str d.shown t) { s with heap := h', toks := tk }) : wpAny (model X.prog X.w) X.A (call (.builtin "repr") [u]) Q E s := by
  unfold toX at e
  simp only at e
  split at e
  · rename_i l q
    cases q2 : toIs μ l with
    | none => rw [q2] at e; simp at e
    | some ds =>
      rw [q2] at e
      simp only [Option.map_some, Option.some.injEq] at e
      subst e
      obtain ⟨a, ys, _, rfl, h2, h3⟩ := mem_lst M r q
      cases ru
      obtain ⟨its, rv, ⟨o, k, o1, o2, _, o3⟩, _⟩ := I.list (SqL.of h2)
      obtain ⟨⟨as, j1⟩, j2⟩ := itms_of M I q2 h3 rv
      have zl : (listText (PyData.shownAll ds)).length ≤ sizeLine := by simpa only [PyData.shown] using z2
      obtain ⟨bs, b1, b2⟩ := j2 (by simpa [PyData.showable] using z1) (fun t ht => Nat.le_trans (listText_mem_le ht) zl)
      have top : Reads s.heap (.ref a) (.list ds) (a :: as) := .list o1 o2 o3 j1
      have free : a ∉ bs := not_mem_of_deeper top (by simp only [PyData.depth]; omega) b1
      simp only [PyData.depth] at z3
      simp only [PyData.shown] at hQ
      refine call_repr_slot (by omega) ⟨o, o1, o2⟩ F.slot_list_repr.toG ?_
      cases its with
      | nil =>
        have j3 : ReadsAll s.heap [] ds as := j1
        cases j3
        simp only [PyData.shownAll, listText_nil] at hQ
        exact call_list_repr_empty ⟨o, o1, o2⟩ o1 o3 ⟨_, _, rfl, hQ s.heap _ _ fun _ _ e => e⟩
      | cons x xs =>
        exact call_list_reprK o1 o2 o3 free (by simpa using b2.length_eq) (fun i z ez => b2.item i z (by simpa using ez)) hg (fun b _ => Clear.nil b) (by show X.A.units + 1 + _ < cLine; omega) (fun _ _ e => e) (fun h' t tk hk => ⟨_, _, rfl, hQ h' t tk hk⟩) zl
  · rename_i q
    simp only [Option.some.injEq] at e
    subst e
    obtain ⟨a, h1, rfl⟩ := rep_ref M r
    obtain ⟨xs, h3, h4⟩ := M.at' n _ a q h1
    simp only [RepK] at h4
    subst h4
    cases ru
    obtain ⟨_, ns, vs, kv, o, es, ep, q1, q2, q3, _, q5, _⟩ := L2.dk_of I.hok h3
    cases kv
    have hes : es.toList = [] := by
      cases hh : es.toList with
      | nil => rfl
      | cons a l => rw [hh] at q5; nomatch q5
    have rd : Reads s.heap (.ref a) (.dict []) (a :: [] ++ []) := .dict q1 q2.1 q3 (by rw [hes]; exact .nil) (by rw [hes]; exact .nil)
    exact PySem.repr_of_reads' rd z1 (fun _ hm => by
        simp only [List.append_nil, List.mem_singleton] at hm
        rw [← hm] at ns
        exact absurd ns (by simp)) hg (by omega) (fun _ _ e => e) (fun h' t tk hk => hQ h' t tk hk) z2
  · cases e
end
theorem crP_repr (hg : X.A.guards = some []) (hu : X.A.units + 65 < cLine) : CallR X (.builtin "repr") (rPn X.K X.mg E fRepr) := by
  intro pins s σ H xs us Q I rs h
  obtain ⟨μ, ρ, ps, M, hp, h⟩ := h
  match ps, hp with
  | [p], hp =>
    obtain ⟨x, rfl, r⟩ := reps1 hp
    simp only [fRepr] at h
    split at h
    · rename_i d hd
      split at h
      · rename_i hz
        obtain ⟨z1, z2, z3⟩ := hz
        have hv := h.val M rstr
        have dp := dp_toD M hd r
        obtain ⟨u, rfl, rx⟩ := vals1 rs
        have sz : d.shown.length ≤ sizeLine := by rw [SL_eq]; exact z2
        cases dp with
        | non => cases rx; exact PySem.P.repr_of_none ⟨.str _, H, I.tok _, ⟨_, rfl⟩, hv⟩
        | bl b =>
          cases rx
          refine PySem.P.repr_of_bool ⟨.str _, H, I.tok _, ⟨_, rfl⟩, ?_⟩
          exact hv
        | int i =>
          obtain ⟨t, rfl⟩ := rx
          refine PySem.P.repr_of_int (by simpa [PyData.showable] using z1) ⟨.str _, H, I.tok _, ⟨_, rfl⟩, ?_⟩
          exact hv
        | str y =>
          obtain ⟨t, rfl⟩ := rx
          refine PySem.P.repr_of_str ⟨.str _, H, I.tok _, ⟨_, rfl⟩, ?_⟩ (by simpa [PyData.shown] using sz)
          exact hv
        | @lst a ys ds h1 h2 =>
          obtain ⟨as, rd⟩ := Dp.reads I _ _ u (.lst h1 h2) rx
          cases rx
          have hnd : PyData.hasDict (.list ds) = false := dp_noDict (.lst h1 h2)
          exact PySem.repr_of_reads' rd z1 (PySem.PyData.noDict_hsm hnd) hg (by omega) (fun _ _ e => e) (fun h' u tk hk => ⟨.str _, H, I.kept (t' := tk) hk, ⟨u, rfl⟩, hv⟩) sz
        | @tup a ys ds h1 h2 =>
          obtain ⟨as, rd⟩ := Dp.reads I _ _ u (.tup h1 h2) rx
          cases rx
          have hnd : PyData.hasDict (.tuple ds) = false := dp_noDict (.tup h1 h2)
          exact PySem.repr_of_reads' rd z1 (PySem.PyData.noDict_hsm hnd) hg (by omega) (fun _ _ e => e) (fun h' u tk hk => ⟨.str _, H, I.kept (t' := tk) hk, ⟨u, rfl⟩, hv⟩) sz
      · exact h.elim
    · split at h
      · rename_i n d hn hd
        split at h
        · rename_i hz
          obtain ⟨z1, z2, z3⟩ := hz
          have hv := h.val M rstr
          obtain ⟨u, rfl, rx⟩ := vals1 rs
          have sz : d.shown.length ≤ sizeLine := by rw [SL_eq]; exact z2
          exact repr_items M I hg hu hd r rx z1 sz z3 (fun h' u tk hk => ⟨.str _, H, I.kept (t' := tk) hk, ⟨u, rfl⟩, hv⟩)
        · exact h.elim
      · exact h.elim
  | [], _ => exact h.elim
  | p :: _ :: _, _ => cases p <;> exact h.elim
theorem kitb {K : PySem.W.Frag} {a b : String} {r : Bool} (h : kitB a b = some r) : PySem.W.kitOne K (.type a) (.type b) = some r := kit_ty h
def Ty.nm : Ty → String
  | .int => "int" | .bool => "bool" | .str => "str" | .tuple => "tuple" | .list => "list" | .dict => "dict"
theorem isTy_run {K : PySem.W.Frag} {H : Hp} {ρ : List Addr} {μ : Mem} {t : Ty} {p : PV} {x : V} {b : Bool} (M : MemOk K H ρ μ) (r : Rep K H ρ p x) (h : isTy μ t p = some b) : ∃ T, TyX K H x (.type T) ∧ kitB T t.nm = some b := by
  cases p with
  | non => obtain rfl := vnon r; refine ⟨"NoneType", .base .non, ?_⟩; cases t <;> simp only [isTy, Option.some.injEq, reduceCtorEq] at h <;> subst h <;> decide +kernel
  | bl y => obtain rfl := vbl r; refine ⟨"bool", .base (.bl y), ?_⟩; cases t <;> simp only [isTy, Option.some.injEq, reduceCtorEq] at h <;> subst h <;> decide +kernel
  | int y => obtain rfl := vint r; refine ⟨"int", .base (.int y), ?_⟩; cases t <;> simp only [isTy, Option.some.injEq, reduceCtorEq] at h <;> subst h <;> decide +kernel
  | str y => obtain rfl := vstr r; refine ⟨"str", .base (.str y), ?_⟩; cases t <;> simp only [isTy, Option.some.injEq, reduceCtorEq] at h <;> subst h <;> decide +kernel
  | cst a => cases t <;> simp [isTy] at h
  | tup l =>
    obtain ⟨a, xs, rfl, k1, k2⟩ := rep_tup r
    refine ⟨"tuple", ?_, ?_⟩
    · rcases k1 with (k1 | ⟨o, k1⟩) | ⟨o, its, n, k1, k3, _⟩
      · exact .base (.tup k1)
      · exact .fTuple k1
      · exact .kTuple k1 k3
    · cases t <;> simp only [isTy, Option.some.injEq, reduceCtorEq] at h <;> subst h <;> decide +kernel
  | ref n =>
    have h' : (match μ[n]? with
      | some (.lst _) => some t.isL
      | some (.dct _) => some t.isD
      | _ => none) = some b := by cases t <;> exact h
    split at h'
    · rename_i l e
      obtain ⟨a, xs, _, rfl, g3, _⟩ := mem_lst M r e
      refine ⟨"list", .base (.lst g3), ?_⟩
      cases h'
      cases t <;> decide +kernel
    · rename_i l e
      obtain ⟨a, h1, rfl⟩ := rep_ref M r
      obtain ⟨xs, h3, _⟩ := M.at' _ _ a e h1
      refine ⟨"dict", .base (.dK h3), ?_⟩
      cases h'
      cases t <;> decide +kernel
    · cases h'
/-- isinstance(x, T) -/
theorem pp_isi {t : Ty} {e : Expr} {fe : Ex} {x nm : Str} {p p2 pos : Pos} (ha : PP X E e fe) (hm : X.mg x = none) (hm2 : X.mg nm = none) (hx : bootBuiltins x = some (.builtin "isinstance")) (hnm : bootBuiltins nm = some (.type t.nm))
    (hg : Gl X x := by rfl) (hg2 : Gl X nm := by rfl) (hn : x ≠ "__name__" := by decide) (hdb : (x == ("__debug__" : Str)) = false := by decide) (hn2 : nm ≠ "__name__" := by decide) (hdb2 : (nm == ("__debug__" : Str)) = false := by decide)
    (he : starEach [e, .Name nm p2] X.env = (false, eval e X.env) :: starEach [.Name nm p2] X.env := by rfl) (hpl : (backTo pos (starEach [.Name nm p2] X.env)).any (·.1) = false := by rfl) (he2 : starEach [.Name nm p2] X.env = (false, eval (.Name nm p2) X.env) :: starEach [] X.env := by rfl) :
    PP X E (.Call (.Name x p) [e, .Name nm p2] [] pos) (app1 (fIsi t) fe) := ⟨by
  refine PE.imp (pe_callB call_isi hg hm hx (pa_cons ha.pe (pa_cons (pe_bltn (v := .ty t.nm) hg2 hm2 hnm rfl hn2 hdb2) pa_nil he2) he) hn hdb he hpl) fun σ H Q h => ?_
  obtain ⟨env, μ, ρ, eo, M, h⟩ := h
  refine tE_bind eo M h fun x H1 p m ρ1 _ l1 e1 M1 r1 q1 => ?_
  simp only [fIsi] at q1
  split at q1
  · rename_i b hb
    obtain ⟨T, h1, h2⟩ := isTy_run M1 r1 hb
    exact ⟨x, .ty t.nm, .type T, .type t.nm, b, rfl, .ty _, h1, kit_ty h2, q1.val M1 rbl⟩
  · exact q1.elim⟩
end
/-! ### targets -/
section
variable {X : Cx} {E : XK} {e : Expr} {es : List Expr} {fe : Ex} {pos : Pos}
theorem EnvOk.set {K : PySem.W.Frag} {H : Hp} {ρ : List Addr} {env : Env} {σ : L2.St} {i : Nat} {p : PV} {x : V} (e : EnvOk K H ρ env σ) (r : Rep K H ρ p x) : EnvOk K H ρ (env.set i (some p)) (σ.set i (some x)) := by
  refine ⟨by simp [e.len], fun j q h => ?_⟩
  have hl := e.len
  by_cases hj : i = j
  · subst hj
    have hi : i < env.length := by
      have := (List.getElem?_eq_some_iff.mp h).1
      simpa using this
    rw [List.getElem?_set_self hi] at h
    rw [List.getElem?_set_self (by omega)]
    cases h
    exact ⟨x, rfl, r⟩
  · rw [List.getElem?_set_ne hj] at h
    rw [List.getElem?_set_ne hj]
    exact e.at' j q h
theorem OutOf.refl (is : List Nat) (σ : L2.St) : OutOf is σ σ := ⟨rfl, fun _ _ => rfl⟩
theorem OutOf.trans {is js : List Nat} {σ σ1 σ2 : L2.St} (a : OutOf is σ σ1) (b : OutOf js σ1 σ2) : OutOf (is ++ js) σ σ2 :=
  ⟨b.1.trans a.1, fun j h => by
    simp only [List.mem_append, not_or] at h
    exact (b.2 j h.2).trans (a.2 j h.1)⟩
theorem ppg_n (i : Nat) {x : Str} (hN : X.N.Nodup) (hi : X.N[i]? = some x := by rfl) (hx : Loc X.env.scope x := by first | exact Or.inl rfl | exact Or.inr rfl) (hf : X.fn x = true ∨ X.env.scope.names.lookup x = some .local := by first | exact Or.inl rfl | exact Or.inr rfl) : PPG X E (.Name x pos) [i] (tn i) := ⟨by
  refine PG.imp (pg_name (i := i) hN hi hx hf) fun x σ H Q h => ?_
  obtain ⟨env, μ, ρ, p, eo, M, r, h⟩ := h
  exact Post.val (R := RG X.K [i] σ) (show Post X.K X.mg E (RG X.K [i] σ) H ρ Q (Res.ok (env.set i (some p)) μ) from h) M ⟨eo.set r, by simp, fun j hj => List.getElem?_set_ne (by simpa using Ne.symm (by simpa using hj))⟩⟩
theorem ppgs_nil : PPGs X E [] [] t0 := ⟨by
  refine PGs.imp pgs_nil fun xs σ H Q h => ?_
  obtain ⟨env, μ, ρ, ps, eo, M, r, h⟩ := h
  match ps, r with
  | [], r =>
    simp only [Reps] at r
    subst r
    exact ⟨rfl, Post.val (R := RG X.K [] σ) (show Post X.K X.mg E (RG X.K [] σ) H ρ Q (Res.ok env μ) from h) M ⟨eo, .refl _ _⟩⟩
  | _ :: _, _ => exact h.elim⟩
theorem ppgs_cons {g : Tg} {gs : Tgs} {is js : List Nat} (h1 : PPG X E e is g) (h2 : PPGs X E es js gs) (hs : (assignEach (e :: es) X.env).map (·.2) = assign e X.env :: (assignEach es X.env).map (·.2) := by rfl) : PPGs X E (e :: es) (is ++ js) (tc g gs) := ⟨by
  refine PGs.imp (pgs_cons h1.pg h2.pg hs) fun xs σ H Q h => ?_
  obtain ⟨env, μ, ρ, ps, eo, M, r, h⟩ := h
  match ps, r with
  | [], r => exact h.elim
  | p :: qs, r =>
    obtain ⟨y, ys, rfl, r1, r2⟩ := Reps.cons_iff.mp r
    refine ⟨y, ys, rfl, env, μ, ρ, p, eo, M, r1, ?_⟩
    refine (Post.bind (R := RG X.K is σ) h).imp fun σ' H1 ⟨env1, m, ρ1, _, l1, M1, ⟨e1, o1⟩, q1⟩ => ?_
    exact ⟨env1, m, ρ1, qs, e1, M1, Reps.mono l1 _ _ r2, q1.rel fun H' ρ' env2 σ2 ⟨g1, g2⟩ => ⟨g1, o1.trans g2⟩⟩⟩
section
variable {prog : Program} {w : World} {A : Around} {Ex : Value → Shared → Prop} {s : Shared}
theorem draw_list {it t : Addr} {items : Array Value} (hne : t ≠ it) : ∀ (n i : Nat) (s : Shared) (Q : List Value → Shared → Prop), s.heap.IsListIter it t i → s.heap.IsList t items → i + n ≤ items.size →
    (∀ h', h'.IsListIter it t (i + n) → Heap.SameBut it s.heap h' → Q ((items.toList.drop i).take n) { s with heap := h' }) → wpAny (model prog w) A (draw (.ref it) n) Q Ex s
  | 0, i, s, Q, hit, _, _, hQ => by
    show wpAny _ _ (pure []) Q Ex s
    exact wpAny_pure (by simpa using hQ s.heap hit (Heap.SameBut.refl ..))
  | n + 1, i, s, Q, hit, ht, hle, hQ => by
    have hlt : i < items.size := by omega
    show wpAny _ _ (pyNext (.ref it) >>= _) Q Ex s
    refine wpAny_bind (wpAny_pyNext_list_item hit ht (x := items[i]) (by simp [hlt]) fun h₁ hit₁ hs₁ => ?_)
    refine wpAny_bind (wpAny_holding (draw_list hne n (i + 1) _ _ hit₁ (ht.extBut hs₁.extBut hne) (by omega) fun h₂ hit₂ hs₂ => wpAny_pure ?_))
    have hd : items.toList.drop i = items[i] :: items.toList.drop (i + 1) := by simp [List.drop_eq_getElem_cons, hlt]
    have := hQ h₂ (by rw [show i + (n + 1) = i + 1 + n by omega]; exact hit₂) (hs₁.trans hs₂)
    rw [hd, List.take_succ_cons] at this
    exact this
theorem unpackItems_list {t : Addr} {items : Array Value} {Q : List Value → Shared → Prop} (hh : A.handled = none) (ht : s.heap.IsList t items)
    (hQ : ∀ h', Heap.ExtBut s.heap.objs.size s.heap h' → Q items.toList { s with heap := h' }) : wpAny (model prog w) A (unpackItems (.ref t) items.size none) Q Ex s := by
  have hlt : t ≠ s.heap.objs.size := by obtain ⟨o, ho, _⟩ := ht; exact Nat.ne_of_lt (Heap.lt_size ho)
  unfold unpackItems
  refine wpAny_bind ?_
  · unfold notIterableAtAll
    refine wpAny_bind (wpAny_specialOf ht.typeIs slot_list_iter.lookup ?_)
    refine wpAny_pure ?_
    simp only [Bool.false_eq_true, if_false]
    refine wpAny_bind (wpAny_holding (wpAny_pyIter_list ht ?_))
    refine wpAny_bind (wpAny_holding (draw_list hlt items.size 0 _ _ ⟨_, Heap.get?_push_size _ rfl, rfl, rfl⟩ (ht.push _) (by omega) fun h₁ hit₁ hs₁ => ?_))
    have hall : List.take items.size (List.drop 0 items.toList) = items.toList := by
      rw [List.drop_zero]; exact List.take_of_length_le (by simp)
    rw [hall]
    rw [if_neg (by simp)]
    have ht₁ : h₁.IsList t items := (ht.push _).extBut hs₁.extBut hlt
    refine wpAny_bind (wpAny_holding (wpAny_pyNext_list_end hh hit₁ ht₁ (by simp) fun h₂ he₂ => ?_))
    simp only [Option.isSome_none, Bool.false_eq_true, if_false]
    refine wpAny_pure (hQ h₂ fun b o hb e => he₂ b o hb (hs₁.extBut b o hb (Heap.get?_push_of_some _ e)))
theorem assign_Tuple_list {env : PySem.Env} {elts : List Expr} {x1} {pos : Pos} {t : Addr} {items : Array Value} {Q : Unit → Shared → Prop} (hh : A.handled = none) (ht : s.heap.IsList t items)
    (hn : (assignEach elts env).length = items.size) (hstar : (assignEach elts env).findIdx? (·.1) = none)
    (h : ∀ h', Heap.ExtBut s.heap.objs.size s.heap h' → wpAny (model prog w) A (assignInOrder ((assignEach elts env).map (·.2)) items.toList) Q Ex { s with heap := h' }) :
    wpAny (model prog w) A (assign (.Tuple elts x1 pos) env (.ref t)) Q Ex s := by
  rw [PyProof.Rows.assign_Tuple]
  refine wpAny_bind (wpAny_standAt ?_)
  unfold unpack
  rw [hn, hstar]
  exact wpAny_bind (wpAny_holding (unpackItems_list hh ht h))
end
/-- (a, b, ..) = a tuple or a list of that length -/
def gTupL (K : PySem.W.Frag) (n : Nat) (t : L2.TGs) : L2.TG := fun v σ H Q => ∃ a xs, v = .ref a ∧ (SqT K H a xs ∨ SqL K H a xs) ∧ xs.length = n ∧ t xs σ H Q
theorem pg_tupL {es : List Expr} {k : Nat} {t : L2.TGs} {n : Nat} (hc : X.calm = true) (h : PGs X es t)
    (hn : (assignEach es X.env).length = n := by rfl) (hst : (assignEach es X.env).findIdx? (·.1) = none := by rfl) : PG X (.Tuple es k pos) (gTupL X.K n t) := by
  refine ⟨fun pins s σ H v u Q I r hw => ?_⟩
  obtain ⟨a, xs, e1, hq, hl, hw⟩ := hw
  subst e1
  cases r
  rcases hq with hq | hq
  · obtain ⟨its, rv, ht, hz⟩ := I.tuple hq
    refine PyProof.Rows.assign_Tuple_tuple (I.ok.hd hc) ht (by simp [hn, ← hl, rv.length]) hst fun h' hx => ?_
    have I1 : Inv X pins σ H { s with heap := h' } := I.kept (t' := s.toks) fun b o e => hx b o (Nat.ne_of_lt (Heap.lt_size e)) e
    exact h.run pins _ σ H xs _ Q I1 (by simpa using rv) hw
  · obtain ⟨its, rv, ht, hz⟩ := I.list hq
    refine assign_Tuple_list (I.ok.hd hc) ht.isList (by simp [hn, ← hl, rv.length]) hst fun h' hx => ?_
    have I1 : Inv X pins σ H { s with heap := h' } := I.kept (t' := s.toks) fun b o e => hx b o (Nat.ne_of_lt (Heap.lt_size e)) e
    exact h.run pins _ σ H xs _ Q I1 (by simpa using rv) hw
theorem ppg_tup {n k : Nat} {gs : Tgs} {is : List Nat} (hc : X.calm = true) (h : PPGs X E es is gs) (hn : (assignEach es X.env).length = n := by rfl) (hst : (assignEach es X.env).findIdx? (·.1) = none := by rfl) : PPG X E (.Tuple es k pos) is (tt n gs) := ⟨by
  refine PG.imp (pg_tupL (n := n) hc h.pg hn hst) fun x σ H Q h => ?_
  obtain ⟨env, μ, ρ, p, eo, M, r, h⟩ := h
  cases p with
  | tup l =>
    obtain ⟨a, xs, rfl, k1, k2⟩ := rep_tup r
    simp only [tt] at h
    split at h
    · rename_i hl
      exact ⟨a, xs, rfl, .inl k1, by rw [k2.length]; exact hl, env, μ, ρ, l, eo, M, k2, h⟩
    · exact h.elim
  | ref m =>
    simp only [tt] at h
    split at h
    · rename_i l e
      split at h
      · rename_i hl
        obtain ⟨a, xs, g1, rfl, g3, g4⟩ := mem_lst M r e
        exact ⟨a, xs, rfl, .inr (SqL.of g3), by rw [g4.length]; exact hl, env, μ, ρ, l, eo, M, g4, h⟩
      · exact h.elim
    · exact h.elim
  | _ => exact h.elim⟩
theorem psetP : PSet X (fun o i v H Q => ∃ μ ρ p q r, MemOk X.K H ρ μ ∧ Rep X.K H ρ p o ∧ Rep X.K H ρ q i ∧ Rep X.K H ρ r v ∧ Post X.K X.mg E (RP X.K) H ρ (fun _ H' => Q H') (fSet [p, q, r] μ)) := by
  intro pins s σ H o i v ov iv u Q I ro ri rv h
  obtain ⟨μ, ρ, p, q, r, M, hp, hq, hr, h⟩ := h
  cases p with
  | ref n =>
    cases q with
    | int j =>
      obtain rfl := vint hq
      simp only [fSet] at h
      split at h
      · rename_i l e
        split at h
        · rename_i k hk
          obtain ⟨a, xs, g1, rfl, g3, g4⟩ := mem_lst M hp e
          exact set_list pins s σ H _ _ v ov iv u Q I ro ri rv ⟨a, xs, j, k, rfl, rfl, g3, by rw [g4.length]; exact hk, h.write M e g1 (g4.set k hr) rnon⟩
        · exact h.elim
      · exact h.elim
    | _ => exact h.elim
  | _ => cases q <;> exact h.elim
theorem ppg_sub {o i : Expr} {fo fi : Ex} (ho : PP X E o fo) (hi : PP X E i fi) (ha : ∀ v, assign (.Subscript o i pos) X.env v = (do
      let ov ← holding [v] (eval o X.env)
      let iv ← holding [v, ov] (eval i X.env)
      standAt pos
      holding [v, ov, iv] (setItem ov iv v)
      release [v, ov, iv] []) := by intro _; rfl) : PPG X E (.Subscript o i pos) [] (tsub fSet fo fi) := ⟨by
  refine PG.imp (pg_sub ho.pe hi.pe (psetP (E := E)) ha) fun x σ H Q h => ?_
  obtain ⟨env, μ, ρ, p, eo, M, r, h⟩ := h
  refine tE_bind eo M h fun y H1 q m ρ1 _ l1 e1 M1 r1 q1 => tE_bind e1 M1 q1 fun z H2 w m2 ρ2 _ l2 e2 M2 r2 q2 => ⟨m2, ρ2, q, w, p, M2, Rep.mono l2 _ _ r1, r2, Rep.mono (l1.trans l2) _ _ r, ?_⟩
  refine (Post.bind (R := RP X.K) q2).imp fun _ H3 ⟨_, m3, ρ3, _, l3, M3, _, q3⟩ => ?_
  exact Post.val (R := RG X.K [] σ) (show Post X.K X.mg E (RG X.K [] σ) H3 ρ3 Q (Res.ok env m3) from q3) M3 ⟨e2.mono l3, .refl _ _⟩⟩
end
/-! ### statements -/
section
variable {X : Cx} {E : XK} {a b e : Expr} {st : Stmt} {sts rest : List Stmt} {fa fb fe : Ex} {fs gs : Sm} {pos : Pos}
theorem tE_of {K : PySem.W.Frag} {mg : Str → Option Value} {H : Hp} {ρ : List Addr} {D : Ends} {env : Env} {μ : Mem} {σ : L2.St} {k : PV → Mem → Out} (eo : EnvOk K H ρ env σ) (M : MemOk K H ρ μ)
    (h : PostS K mg E H ρ D (.of (fa env μ) k)) {Q : VK} (i : ∀ x H1 p m ρ1, fa env μ = .ok p m → Lat K H ρ H1 ρ1 → EnvOk K H1 ρ1 env σ → MemOk K H1 ρ1 m → Rep K H1 ρ1 p x → PostS K mg E H1 ρ1 D (k p m) → Q x H1) : tE K mg E fa σ H Q :=
  ⟨env, μ, ρ, eo, M, (PostS.of (R := RP K) h).imp fun x H1 ⟨p, m, ρ1, e, l, M1, r, q⟩ => i x H1 p m ρ1 e l (eo.mono l) M1 r q⟩
theorem tT_of {K : PySem.W.Frag} {mg : Str → Option Value} {H : Hp} {ρ : List Addr} {D : Ends} {env : Env} {μ : Mem} {σ : L2.St} {k1 k2 : Mem → Out} (eo : EnvOk K H ρ env σ) (M : MemOk K H ρ μ)
    (h : PostS K mg E H ρ D (.of (fa env μ) fun p m => onS p (k1 m) (k2 m))) {Q : Bool → Hp → Prop} (i : ∀ t H1 m ρ1, fa env μ = .ok (.bl t) m → Lat K H ρ H1 ρ1 → EnvOk K H1 ρ1 env σ → MemOk K H1 ρ1 m → PostS K mg E H1 ρ1 D (if t = true then k1 m else k2 m) → Q t H1) : tT K mg E fa σ H Q := by
  refine ⟨env, μ, ρ, eo, M, ?_⟩
  cases e : fa env μ with
  | ok p m =>
    rw [e] at h
    cases p with
    | bl t =>
      intro b H1 ρ1 l M1 rb
      cases rb
      refine i t H1 m ρ1 e l (eo.mono l) M1 ?_
      have h2 : PostS K mg E H ρ D (onS (.bl t) (k1 m) (k2 m)) := h
      rw [onS_bl] at h2
      exact h2.later l
    | _ => exact h.elim
  | exc x m => rw [e] at h; exact h
  | stuck => rw [e] at h; exact h
theorem ps_nxt {K : PySem.W.Frag} {mg : Str → Option Value} {H : Hp} {ρ : List Addr} {D : Ends} {env : Env} {μ : Mem} {σ : L2.St} (h : PostS K mg E H ρ D (.nx env μ)) (M : MemOk K H ρ μ) (eo : EnvOk K H ρ env σ) : D.nx σ H := h σ H ρ (.refl K H ρ) M eo
theorem ppb_nil : PPb X E [] skip := ⟨PSs.imp pss_nil fun D σ H h => by
  obtain ⟨env, μ, ρ, eo, M, h⟩ := h
  exact ps_nxt (E := E) (mg := X.mg) h M eo⟩
theorem ppb_cons (h1 : PPs X E st fs) (h2 : PPb X E rest gs) : PPb X E (st :: rest) (seq fs gs) := ⟨PSs.imp (pss_cons h1.ps h2.ps) fun D σ H h => by
  obtain ⟨env, μ, ρ, eo, M, h⟩ := h
  refine ⟨env, μ, ρ, eo, M, (PostS.then h).imp (fun σ' H' ⟨env1, m, ρ1, l, M1, e1, q⟩ => ⟨env1, m, ρ1, e1, M1, q⟩) (fun _ _ q => q) (fun _ _ q => q) fun _ _ q => q⟩⟩
theorem ppb_one (h1 : PPs X E st fs) : PPb X E [st] fs := ⟨pss_one h1.ps⟩
theorem pps_pass : PPs X E (.Pass pos) skip := ⟨PS.imp ps_pass fun D σ H h => by
  obtain ⟨env, μ, ρ, eo, M, h⟩ := h
  exact ps_nxt (E := E) (mg := X.mg) h M eo⟩
theorem pps_brk : PPs X E (.Break pos) brk := ⟨PS.imp ps_break fun D σ H h => by
  obtain ⟨env, μ, ρ, eo, M, h⟩ := h
  exact (show ∀ σ' H' ρ', Lat X.K H ρ H' ρ' → MemOk X.K H' ρ' μ → EnvOk X.K H' ρ' env σ' → D.bk σ' H' from h) σ H ρ (.refl _ _ _) M eo⟩
theorem pps_cnt : PPs X E (.Continue pos) cnt := ⟨PS.imp ps_continue fun D σ H h => by
  obtain ⟨env, μ, ρ, eo, M, h⟩ := h
  exact (show ∀ σ' H' ρ', Lat X.K H ρ H' ρ' → MemOk X.K H' ρ' μ → EnvOk X.K H' ρ' env σ' → D.ct σ' H' from h) σ H ρ (.refl _ _ _) M eo⟩
theorem pps_exp (h : PP X E e fe) (hs : swapsWith e none pos.line X.env = pure false := by rfl) : PPs X E (.Expr e pos) (exp fe) := ⟨PS.imp (ps_expr h.pe hs) fun D σ H h => by
  obtain ⟨env, μ, ρ, eo, M, h⟩ := h
  exact tE_of eo M h fun x H1 p m ρ1 _ l1 e1 M1 r1 q1 => ps_nxt (E := E) (mg := X.mg) q1 M1 e1⟩
theorem pps_ret (h : PP X E e fe) : PPs X E (.Return (some e) pos) (ret fe) := ⟨PS.imp (ps_ret h.pe) fun D σ H h => by
  obtain ⟨env, μ, ρ, eo, M, h⟩ := h
  exact tE_of eo M h fun x H1 p m ρ1 _ l1 e1 M1 r1 q1 => (show ∀ x H' ρ', Lat X.K H1 ρ1 H' ρ' → MemOk X.K H' ρ' m → Rep X.K H' ρ' p x → D.rt x H' from q1) x H1 ρ1 (.refl _ _ _) M1 r1⟩
theorem pps_if (h : PPT X E e fe) (h1 : PPb X E sts fs) (h2 : PPb X E rest gs) : PPs X E (.If e sts rest pos) (cond fe fs gs) := ⟨PS.imp (ps_if h.pt h1.ps h2.ps) fun D σ H h => by
  obtain ⟨env, μ, ρ, eo, M, h⟩ := h
  exact tT_of (k1 := fun m => fs env m) (k2 := fun m => gs env m) eo M h fun t H1 m ρ1 _ l1 e1 M1 q1 => by
    cases t with
    | true => exact ⟨env, m, ρ1, e1, M1, q1⟩
    | false => exact ⟨env, m, ρ1, e1, M1, q1⟩⟩
theorem asg_read {g : Tg} {is : List Nat} {K : PySem.W.Frag} {mg : Str → Option Value} {D : Ends} {σ : L2.St} {H : Hp} (h : tS K mg E (asg g fe) D σ H) : tAsg (tE K mg E fe) (tG K mg E is g) D σ H := by
  obtain ⟨env, μ, ρ, eo, M, h⟩ := h
  refine tE_of eo M h fun x H1 p m ρ1 _ l1 e1 M1 r1 q1 => ⟨env, m, ρ1, p, e1, M1, r1, ?_⟩
  refine (PostS.of (R := RG K is σ) q1).imp fun σ' H2 ⟨env2, m2, ρ2, _, l2, M2, ⟨e2, _⟩, q2⟩ => ?_
  exact ps_nxt (E := E) (mg := mg) q2 M2 e2
theorem pps_asg {g : Tg} {is : List Nat} (h : PP X E e fe) (hg : PPG X E a is g) (hs : swapsWithSole [a] e pos.line X.env = pure false := by rfl) (hw : swappedStores [a] e X.env = pure none := by rfl) (h1 : (assignEach [a] X.env).map (·.2) = [assign a X.env] := by rfl) : PPs X E (.Assign [a] e pos) (asg g fe) :=
  ⟨PS.imp (ps_asg h.pe hg.pg hs hw h1) fun _ _ _ h => asg_read h⟩
theorem pps_set (i : Nat) {x : Str} {pos' : Pos} (hN : X.N.Nodup) (h : PP X E e fe) (hi : X.N[i]? = some x := by rfl) (hx : Loc X.env.scope x := by first | exact Or.inl rfl | exact Or.inr rfl) (hs : swapsWith e (some (.Name x pos')) pos.line X.env = pure false := by rfl)
    (hf : X.fn x = true ∨ X.env.scope.names.lookup x = some .local := by first | exact Or.inl rfl | exact Or.inr rfl) : PPs X E (.Assign [.Name x pos'] e pos) (setv i fe) := ⟨PS.imp (ps_set (i := i) hN hi hx h.pe hs hf) fun D σ H h => by
  obtain ⟨env, μ, ρ, eo, M, h⟩ := h
  exact tE_of eo M h fun x H1 p m ρ1 _ l1 e1 M1 r1 q1 => ps_nxt (E := E) (mg := X.mg) q1 M1 (e1.set r1)⟩
theorem pps_par (i j : Nat) {x y : Str} {px py pt : Pos} {kt k2 : Nat} {pt2 : Pos} (hc : X.calm = true) (hN : X.N.Nodup) (hij : i ≠ j) (ha : PP X E a fa) (hb : PP X E b fb) (hi : X.N[i]? = some x := by rfl) (hj : X.N[j]? = some y := by rfl)
    (hx : X.env.scope.names.lookup x = some .local := by rfl) (hy : X.env.scope.names.lookup y = some .local := by rfl)
    (hw : swappedStores [.Tuple [.Name x px, .Name y py] kt pt] (.Tuple [a, b] k2 pt2) X.env = pure (some [x, y]) := by rfl)
    (hs : swapsWithSole [.Tuple [.Name x px, .Name y py] kt pt] (.Tuple [a, b] k2 pt2) pos.line X.env = pure false := by rfl)
    (hs1 : starEach [a, b] X.env = (false, eval a X.env) :: starEach [b] X.env := by rfl) (hs2 : starEach [b] X.env = (false, eval b X.env) :: starEach [] X.env := by rfl) :
    PPs X E (.Assign [.Tuple [.Name x px, .Name y py] kt pt] (.Tuple [a, b] k2 pt2) pos) (par i j fa fb) := ⟨PS.imp (ps_par (i := i) (j := j) hc hN hi hj hij hx hy (pa_cons ha.pe (pa_cons hb.pe pa_nil hs2) hs1) hw hs) fun D σ H h => by
  obtain ⟨env, μ, ρ, eo, M, h⟩ := h
  exact tE_of eo M h fun x H1 p m ρ1 _ l1 e1 M1 r1 q1 => tE_of e1 M1 q1 fun y H2 q m2 ρ2 _ l2 e2 M2 r2 q2 => ⟨x, y, rfl, ps_nxt (E := E) (mg := X.mg) q2 M2 ((e2.set (Rep.mono l2 _ _ r1)).set r2)⟩⟩
end
end PL
end
section
set_option autoImplicit false
set_option Elab.async false
set_option linter.all false
set_option maxRecDepth 100000
set_option maxHeartbeats 1000000
/-! Loops, comprehensions, defs and their calls. -/
namespace PL
open PySem L2
section
variable {X : Cx} {E : XK} {a b d e tg iter : Expr} {st : Stmt} {sts rest : List Stmt} {fa fb fd fe : Ex} {fs gs : Sm} {pos : Pos}
theorem pps_par3 (i j l : Nat) {x y z : Str} {px py pz pt : Pos} {kt k2 : Nat} {pt2 : Pos} (hc : X.calm = true) (hN : X.N.Nodup) (hij : i ≠ j) (hil : i ≠ l) (hjl : j ≠ l) (ha : PP X E a fa) (hb : PP X E b fb) (hd : PP X E d fd) (hi : X.N[i]? = some x := by rfl) (hj : X.N[j]? = some y := by rfl) (hl : X.N[l]? = some z := by rfl)
    (hx : X.env.scope.names.lookup x = some .local := by rfl) (hy : X.env.scope.names.lookup y = some .local := by rfl) (hz : X.env.scope.names.lookup z = some .local := by rfl)
    (hw : swappedStores [.Tuple [.Name x px, .Name y py, .Name z pz] kt pt] (.Tuple [a, b, d] k2 pt2) X.env = pure (some [x, y, z]) := by rfl)
    (hs : swapsWithSole [.Tuple [.Name x px, .Name y py, .Name z pz] kt pt] (.Tuple [a, b, d] k2 pt2) pos.line X.env = pure false := by rfl)
    (hs1 : starEach [a, b, d] X.env = (false, eval a X.env) :: starEach [b, d] X.env := by rfl) (hs2 : starEach [b, d] X.env = (false, eval b X.env) :: starEach [d] X.env := by rfl) (hs3 : starEach [d] X.env = (false, eval d X.env) :: starEach [] X.env := by rfl) :
    PPs X E (.Assign [.Tuple [.Name x px, .Name y py, .Name z pz] kt pt] (.Tuple [a, b, d] k2 pt2) pos) (par3 i j l fa fb fd) := ⟨PS.imp (ps_par3 (i := i) (j := j) (l := l) hc hN hi hj hl hij hil hjl hx hy hz (pa_cons ha.pe (pa_cons hb.pe (pa_cons hd.pe pa_nil hs3) hs2) hs1) hw hs) fun D σ H h => by
  obtain ⟨env, μ, ρ, eo, M, h⟩ := h
  exact tE_of eo M h fun x H1 p m ρ1 _ l1 e1 M1 r1 q1 => tE_of e1 M1 q1 fun y H2 q m2 ρ2 _ l2 e2 M2 r2 q2 => tE_of e2 M2 q2 fun z H3 w m3 ρ3 _ l3 e3 M3 r3 q3 =>
    ⟨x, y, z, rfl, ps_nxt (E := E) (mg := X.mg) q3 M3 (((e3.set (Rep.mono (l2.trans l3) _ _ r1)).set (Rep.mono l3 _ _ r2)).set r3)⟩⟩
/-! ### while -/
theorem pps_while (hp : PassesOwn (model X.prog X.w) X.A X.env X.xe) (ht : PPT X E e fe) (hb : PPb X E sts fs) : PPs X E (.While e sts [] pos) (whileS fe fs) := ⟨PS.imp (ps_while hp ht.pt hb.ps) fun D σ H h => by
  obtain ⟨env, μ, ρ, eo, M, h⟩ := h
  refine ⟨fun m σ H => ∃ env μ ρ, EnvOk X.K H ρ env σ ∧ MemOk X.K H ρ μ ∧ PostS X.K X.mg E H ρ D (whileN fe fs m env μ), ⟨fuel, env, μ, ρ, eo, M, h⟩, ?_⟩
  rintro m σ1 H1 ⟨env1, μ1, ρ1, e1, M1, h1⟩
  cases m with
  | zero => exact h1.elim
  | succ m =>
    refine tT_of (k1 := fun μ1 => match fs env1 μ1 with | .nx e m' => whileN fe fs m e m' | .ct e m' => whileN fe fs m e m' | .bk e m' => .nx e m' | o => o) (k2 := fun μ1 => .nx env1 μ1) e1 M1 h1 fun t H2 μ2 ρ2 _ l2 e2 M2 q2 => ?_
    cases t with
    | false => exact ps_nxt (E := E) (mg := X.mg) q2 M2 e2
    | true =>
      refine ⟨fun σ' H' => ∃ env μ ρ, EnvOk X.K H' ρ env σ' ∧ MemOk X.K H' ρ μ ∧ PostS X.K X.mg E H' ρ D (whileN fe fs m env μ), fun σ' H' hh => ⟨m, Nat.lt_succ_self m, hh⟩, env1, μ2, ρ2, e2, M2, ?_⟩
      have q3 : PostS X.K X.mg E H2 ρ2 D (match fs env1 μ2 with | .nx e m' => whileN fe fs m e m' | .ct e m' => whileN fe fs m e m' | .bk e m' => .nx e m' | o => o) := q2
      cases z : fs env1 μ2 with
      | nx e3 m3 => rw [z] at q3; exact fun σ' H' ρ' l M' eo' => ⟨e3, m3, ρ', eo', M', PostS.later q3 l⟩
      | ct e3 m3 => rw [z] at q3; exact fun σ' H' ρ' l M' eo' => ⟨e3, m3, ρ', eo', M', PostS.later q3 l⟩
      | bk e3 m3 => rw [z] at q3; exact q3
      | rt p m3 => rw [z] at q3; exact q3
      | exc x m3 => rw [z] at q3; exact q3
      | stuck => rw [z] at q3; exact q3⟩
/-! ### for -/
theorem pps_for {it : PL.It} {g : Tg} {is : List Nat} (hp : PassesOwn (model X.prog X.w) X.A X.env X.xe) (hc : X.calm = true) (hi : PPI X E tg iter it) (hg : PPG X E tg is g) (hb : PPb X E sts fs) (hs : ∀ x, foldedSetIterable iter X.env x = pure x := by intro _; rfl) :
    PPs X E (.For tg iter sts [] pos) (forS it g fs) := ⟨PS.imp (ps_for hp hc hi.pi hg.pg hb.ps hs) fun D σ H h => by
  obtain ⟨env, μ, ρ, eo, M, h⟩ := h
  refine ⟨env, μ, ρ, eo, M, (PostS.of (R := fun H' ρ' z J => ItOk X.K H' ρ' z J) h).imp fun J H1 ⟨z, m1, ρ1, _, l1, M1, hJ, q1⟩ => ?_⟩
  refine ⟨fun i n σ H => n = z.items.length - i ∧ i ≤ z.items.length ∧ ∃ env μ ρ, Lat X.K H1 ρ1 H ρ ∧ EnvOk X.K H ρ env σ ∧ MemOk X.K H ρ μ ∧ PostS X.K X.mg E H ρ D (forN z.lk g fs (z.items.drop i) env μ), ⟨_, rfl, Nat.zero_le _, env, m1, ρ1, .refl _ _ _, eo.mono l1, M1, q1⟩, ?_⟩
  rintro i n σ2 H2 ⟨rfl, hi, env2, μ2, ρ2, l2, e2, M2, q2⟩
  by_cases hlt : i < z.items.length
  · have hd : z.items.drop i = z.items[i] :: z.items.drop (i + 1) := List.drop_eq_getElem_cons hlt
    rw [hd] at q2
    unfold forN at q2
    split at q2
    · rename_i hlk
      obtain ⟨go, yld⟩ := hJ.go H2 ρ2 μ2 i z.items[i] l2 M2 hlk (List.getElem?_eq_getElem hlt)
      refine .inr ⟨go, fun σ' H' => ∃ env μ ρ, Lat X.K H1 ρ1 H' ρ ∧ EnvOk X.K H' ρ env σ' ∧ MemOk X.K H' ρ μ ∧ PostS X.K X.mg E H' ρ D (forN z.lk g fs (z.items.drop (i + 1)) env μ), fun σ' H' hh => ⟨z.items.length - (i + 1), by omega, rfl, hlt, hh⟩, fun x H3 hy => ?_⟩
      obtain ⟨l3, M3, r3⟩ := yld x H3 hy
      refine ⟨env2, μ2, ρ2, z.items[i], e2.mono l3, M3, r3, ?_⟩
      refine (PostS.of (R := RG X.K is σ2) (q2.later l3)).imp fun σ4 H4 ⟨env4, μ4, ρ4, _, l4, M4, ⟨e4, _⟩, q4⟩ => ?_
      refine ⟨env4, μ4, ρ4, e4, M4, ?_⟩
      have l5 : Lat X.K H1 ρ1 H4 ρ4 := (l2.trans l3).trans l4
      cases zz : fs env4 μ4 with
      | nx e5 m5 => rw [zz] at q4; exact fun σ' H' ρ' l M' eo' => ⟨e5, m5, ρ', l5.trans l, eo', M', PostS.later q4 l⟩
      | ct e5 m5 => rw [zz] at q4; exact fun σ' H' ρ' l M' eo' => ⟨e5, m5, ρ', l5.trans l, eo', M', PostS.later q4 l⟩
      | bk e5 m5 => rw [zz] at q4; exact q4
      | rt p m5 => rw [zz] at q4; exact q4
      | exc x m5 => rw [zz] at q4; exact q4
      | stuck => rw [zz] at q4; exact q4
    · exact q2.elim
  · have e : i = z.items.length := by omega
    subst e
    rw [List.drop_eq_nil_of_le (Nat.le_refl _)] at q2
    unfold forN at q2
    split at q2
    · rename_i hlk
      exact .inl ⟨hJ.stop H2 ρ2 μ2 l2 M2 hlk, ps_nxt (E := E) (mg := X.mg) q2 M2 e2⟩
    · exact q2.elim⟩
/-! what a for walks -/
theorem itOk_tup {K : PySem.W.Frag} {H : Hp} {ρ : List Addr} {l : List PV} {a : Addr} {xs : List V} (s : SqT K H a xs) (r : Reps K H ρ l xs) : ItOk K H ρ ⟨l, []⟩ (Itt K a) where
  go := fun H1 ρ1 μ1 i p l1 M1 _ hi => by
    obtain ⟨x, h1, h2⟩ := r.get hi
    refine ⟨⟨xs, x, l1.keep a xs s, h1⟩, fun y H' hy => ?_⟩
    obtain ⟨rfl, hy⟩ := hy
    have := hy xs (l1.keep a xs s)
    rw [h1] at this
    cases this
    exact ⟨.refl _ _ _, M1, Rep.mono l1 _ _ h2⟩
  stop := fun H1 ρ1 μ1 l1 M1 _ => ⟨xs, l1.keep a xs s, by rw [r.length]; exact Nat.le_refl _⟩
theorem lock_seq {K : PySem.W.Frag} {H0 H : Hp} {ρ0 ρ : List Addr} {μ : Mem} {n : Nat} {a : Addr} {l : List PV} (ha : ρ0[n]? = some a) (L : Lat K H0 ρ0 H ρ) (M : MemOk K H ρ μ) (lk : μ[n]? = some (.lst l) ∨ μ[n]? = some (.ro l)) : ∃ xs, SqL K H a xs ∧ Reps K H ρ l xs := by
  rcases lk with h | h
  · obtain ⟨xs, h1, h2⟩ := M.at' n _ a h (L.get ha)
    exact ⟨xs, SqL.of h1, h2⟩
  · obtain ⟨xs, h1, h2⟩ := M.at' n _ a h (L.get ha)
    exact ⟨xs, h1.seq, h2⟩
theorem itOk_lst {K : PySem.W.Frag} {H : Hp} {ρ : List Addr} {l : List PV} {a : Addr} {n : Nat} (ha : ρ[n]? = some a) : ItOk K H ρ ⟨l, [(n, l)]⟩ (Itl K a) where
  go := fun H1 ρ1 μ1 i p l1 M1 lk hi => by
    obtain ⟨xs, h1, h2⟩ := lock_seq ha l1 M1 (lk (n, l) (by simp))
    obtain ⟨x, h3, h4⟩ := h2.get hi
    refine ⟨⟨xs, x, h1, h3⟩, fun y H' hy => ?_⟩
    obtain ⟨rfl, hy⟩ := hy
    have := hy xs h1
    rw [h3] at this
    cases this
    exact ⟨.refl _ _ _, M1, h4⟩
  stop := fun H1 ρ1 μ1 l1 M1 lk => by
    obtain ⟨xs, h1, h2⟩ := lock_seq ha l1 M1 (lk (n, l) (by simp))
    exact ⟨xs, h1, by rw [h2.length]; exact Nat.le_refl _⟩
theorem ppi_val (h : PP X E iter fe) : PPI X E tg iter (iVal fe) := ⟨PI.imp (PI.or (pi_list (tg := tg) h.pe) (pi_tup (tg := tg) h.pe)) fun σ H R hh => by
  obtain ⟨env, μ, ρ, eo, M, hh⟩ := hh
  cases z : fe env μ with
  | ok p m =>
    have hz : Post X.K X.mg E (fun H' ρ' z J => ItOk X.K H' ρ' z J) H ρ R (itsOf p m) := by
      unfold iVal at hh
      rw [z] at hh
      exact hh
    cases p with
    | tup l =>
      refine .inr ⟨env, μ, ρ, eo, M, ?_⟩
      rw [z]
      intro x H1 ρ1 l1 M1 r1
      obtain ⟨a, xs, rfl, k1, k2⟩ := rep_tup r1
      exact ⟨a, rfl, ⟨xs, k1⟩, hz (Itt X.K a) H1 ρ1 l1 M1 (itOk_tup k1 k2)⟩
    | ref n =>
      simp only [itsOf] at hz
      split at hz
      · rename_i l hl
        refine .inl ⟨env, μ, ρ, eo, M, ?_⟩
        rw [z]
        intro x H1 ρ1 l1 M1 r1
        obtain ⟨a, xs, rfl, k1, k2, _⟩ := getL_ref M1 r1 hl
        obtain ⟨b, hb, e⟩ := rep_ref M1 r1
        cases e
        exact ⟨a, rfl, ⟨xs, k1⟩, hz (Itl X.K a) H1 ρ1 l1 M1 (itOk_lst hb)⟩
      · exact hz.elim
    | _ => exact hz.elim
  | exc x m =>
    unfold iVal at hh
    rw [z] at hh
    exact .inl ⟨env, μ, ρ, eo, M, by rw [z]; exact hh⟩
  | stuck =>
    unfold iVal at hh
    rw [z] at hh
    exact hh.elim⟩
theorem rangeL_len (i : Int) (n : Nat) : (rangeL i n).length = n := by simp [rangeL]
theorem itOk_rng {K : PySem.W.Frag} {H : Hp} {ρ : List Addr} (i : Int) (n : Nat) : ItOk K H ρ ⟨rangeL i n, []⟩ (Itr i n) where
  go := fun H1 ρ1 μ1 k p l1 M1 _ hi => by
    have hk : k < n := by
      have := (List.getElem?_eq_some_iff.mp hi).1
      rw [rangeL_len] at this
      exact this
    refine ⟨hk, fun y H' hy => ?_⟩
    obtain ⟨rfl, rfl⟩ := hy
    have : p = .int (i + (k : Int)) := by
      simp only [rangeL, List.getElem?_map] at hi
      rw [List.getElem?_range hk] at hi
      simpa using hi.symm
    subst this
    exact ⟨.refl _ _ _, M1, rint⟩
  stop := fun H1 ρ1 μ1 l1 M1 _ => by
    show n ≤ (rangeL i n).length
    rw [rangeL_len]
    exact Nat.le_refl _
theorem pa1 {K : PySem.W.Frag} {mg : Str → Option Value} {σ : L2.St} {H : Hp} {Q : List V → Hp → Prop} (h : tE K mg E fe σ H (fun x H1 => Q [x] H1)) : tCons (tE K mg E fe) tNil σ H Q := h
theorem ppi_rng1 {p : Pos} (hm : X.mg "range" = none) (h : PP X E a fa) (hg : Gl X "range" := by rfl) (hs : starEach [a] X.env = [(false, eval a X.env)] := by rfl) : PPI X E tg (.Call (.Name "range" p) [a] [] pos) (iRng1 fa) :=
  ⟨PI.imp (pi_range1 (tg := tg) hg hm (pa_cons h.pe pa_nil (by rw [hs]; rfl)) hs) fun σ H R hh => by
  obtain ⟨env, μ, ρ, eo, M, hh⟩ := hh
  refine tE_bind eo M hh fun x H1 p m ρ1 _ l1 e1 M1 r1 q1 => ?_
  cases p with
  | int j =>
    obtain rfl := vint r1
    simp only at q1
    split at q1
    · rename_i hz
      exact ⟨j, rfl, hz.1, hz.2, q1 (Itr 0 j.toNat) H1 ρ1 (.refl _ _ _) M1 (itOk_rng 0 _)⟩
    · exact q1.elim
  | _ => exact q1.elim⟩
theorem ppi_rng2 {p : Pos} (hm : X.mg "range" = none) (h : PP X E a fa) (h' : PP X E b fb) (hg : Gl X "range" := by rfl) (hs : starEach [a, b] X.env = [(false, eval a X.env), (false, eval b X.env)] := by rfl) (hs2 : starEach [b] X.env = [(false, eval b X.env)] := by rfl) :
    PPI X E tg (.Call (.Name "range" p) [a, b] [] pos) (iRng2 fa fb) := ⟨PI.imp (pi_range2 (tg := tg) hg hm (pa_cons h.pe (pa_cons h'.pe pa_nil (by rw [hs2]; rfl)) (by rw [hs, hs2])) hs hs2) fun σ H R hh => by
  obtain ⟨env, μ, ρ, eo, M, hh⟩ := hh
  refine tE_bind eo M hh fun x H1 p m ρ1 _ l1 e1 M1 r1 q1 => tE_bind e1 M1 q1 fun y H2 q m2 ρ2 _ l2 e2 M2 r2 q2 => ?_
  cases p with
  | int i =>
    cases q with
    | int j =>
      obtain rfl := vint r1
      obtain rfl := vint r2
      simp only at q2
      split at q2
      · rename_i hz
        exact ⟨i, j, rfl, ⟨hz.1.1, hz.1.2, hz.2.1, hz.2.2⟩, q2 (Itr i (j - i).toNat) H2 ρ2 (.refl _ _ _) M2 (itOk_rng i _)⟩
      · exact q2.elim
    | _ => exact q2.elim
  | _ => cases q <;> exact q2.elim⟩
theorem zipL_get : ∀ {l k : List PV} {i : Nat} {p : PV}, (zipL l k)[i]? = some p → ∃ x y, l[i]? = some x ∧ k[i]? = some y ∧ p = .tup [x, y]
  | [], k, i, p, h => by simp [zipL] at h
  | _ :: _, [], i, p, h => by simp [zipL] at h
  | x :: l, y :: k, 0, p, h => by simp [zipL] at h; exact ⟨x, y, rfl, rfl, h.symm⟩
  | x :: l, y :: k, i + 1, p, h => by
    simp only [zipL, List.getElem?_cons_succ] at h ⊢
    exact zipL_get h
theorem zipL_len : ∀ (l k : List PV), (zipL l k).length = min l.length k.length
  | [], k => by simp [zipL]
  | _ :: _, [] => by simp [zipL]
  | x :: l, y :: k => by simp only [zipL, List.length_cons, zipL_len l k]; omega
theorem enumL_get : ∀ {l : List PV} {k i : Nat} {p : PV}, (enumL k l)[i]? = some p → ∃ x, l[i]? = some x ∧ p = .tup [.int ((k + i : Nat) : Int), x]
  | [], k, i, p, h => by simp [enumL] at h
  | x :: l, k, 0, p, h => by simp [enumL] at h; exact ⟨x, rfl, h.symm⟩
  | x :: l, k, i + 1, p, h => by
    simp only [enumL, List.getElem?_cons_succ] at h ⊢
    obtain ⟨y, h1, h2⟩ := enumL_get h
    exact ⟨y, h1, by rw [h2, show k + 1 + i = k + (i + 1) by omega]⟩
theorem enumL_len : ∀ (l : List PV) (k : Nat), (enumL k l).length = l.length
  | [], k => rfl
  | x :: l, k => by simp [enumL, enumL_len l]
theorem rep_pair {K : PySem.W.Frag} {H : Hp} {ρ : List Addr} {T : Addr} {p q : PV} {x y : V} (L : Lat K H ρ (upd H T (.tup [x, y])) ρ) (h1 : Rep K H ρ p x) (h2 : Rep K H ρ q y) : Rep K (upd H T (.tup [x, y])) ρ (.tup [p, q]) (.ref T) := by
  simp only [Rep]
  exact ⟨T, [x, y], rfl, SqT.of upd_same, .cons (Rep.mono L _ _ h1) (.cons (Rep.mono L _ _ h2) .nil)⟩
theorem itOk_zipT {K : PySem.W.Frag} {H : Hp} {ρ : List Addr} {l k : List PV} {a b : Addr} {xs ys : List V} (s : SqT K H a xs) (r : Reps K H ρ l xs) (s' : SqT K H b ys) (r' : Reps K H ρ k ys) : ItOk K H ρ ⟨zipL l k, []⟩ (RZ.ItzT K a b) where
  go := fun H1 ρ1 μ1 i p l1 M1 _ hi => by
    obtain ⟨p1, p2, g1, g2, rfl⟩ := zipL_get hi
    obtain ⟨x, h1, h2⟩ := r.get g1
    obtain ⟨y, h3, h4⟩ := r'.get g2
    have t1 := l1.keep a xs s
    have t2 := l1.keep b ys s'
    refine ⟨⟨xs, ys, x, y, t1, t2, h1, h3⟩, fun z H' hy => ?_⟩
    obtain ⟨T, x', y', rfl, hT, rfl, e1, e2⟩ := hy
    have e1 := e1 xs t1
    have e2 := e2 ys t2
    rw [h1] at e1
    rw [h3] at e2
    cases e1
    cases e2
    have q := M1.other (ho := .tup [x, y]) hT
    exact ⟨q.2, q.1, rep_pair q.2 (Rep.mono l1 _ _ h2) (Rep.mono l1 _ _ h4)⟩
  stop := fun H1 ρ1 μ1 l1 M1 _ => ⟨xs, ys, l1.keep a xs s, l1.keep b ys s', by
    show xs.length ≤ (zipL l k).length ∨ ys.length ≤ (zipL l k).length
    rw [zipL_len, r.length, r'.length]
    omega⟩
theorem itOk_zipL {K : PySem.W.Frag} {H : Hp} {ρ : List Addr} {l k : List PV} {a b : Addr} {n m : Nat} (ha : ρ[n]? = some a) (hb : ρ[m]? = some b) : ItOk K H ρ ⟨zipL l k, [(n, l), (m, k)]⟩ (Itz K a b) where
  go := fun H1 ρ1 μ1 i p l1 M1 lk hi => by
    obtain ⟨p1, p2, g1, g2, rfl⟩ := zipL_get hi
    obtain ⟨xs, s1, r⟩ := lock_seq ha l1 M1 (lk (n, l) (by simp))
    obtain ⟨ys, s2, r'⟩ := lock_seq hb l1 M1 (lk (m, k) (by simp))
    obtain ⟨x, h1, h2⟩ := r.get g1
    obtain ⟨y, h3, h4⟩ := r'.get g2
    refine ⟨⟨xs, ys, x, y, s1, s2, h1, h3⟩, fun z H' hy => ?_⟩
    obtain ⟨T, x', y', rfl, hT, rfl, e1, e2⟩ := hy
    have e1 := e1 xs s1
    have e2 := e2 ys s2
    rw [h1] at e1
    rw [h3] at e2
    cases e1
    cases e2
    have q := M1.other (ho := .tup [x, y]) hT
    exact ⟨q.2, q.1, rep_pair q.2 h2 h4⟩
  stop := fun H1 ρ1 μ1 l1 M1 lk => by
    obtain ⟨xs, s1, r⟩ := lock_seq ha l1 M1 (lk (n, l) (by simp))
    obtain ⟨ys, s2, r'⟩ := lock_seq hb l1 M1 (lk (m, k) (by simp))
    refine ⟨xs, ys, s1, s2, ?_⟩
    have e1 : xs.length = l.length := r.length
    have e2 : ys.length = k.length := r'.length
    show xs.length ≤ (zipL l k).length ∨ ys.length ≤ (zipL l k).length
    rw [zipL_len, e1, e2]
    omega
theorem itOk_enumL {K : PySem.W.Frag} {H : Hp} {ρ : List Addr} {l : List PV} {a : Addr} {n : Nat} (ha : ρ[n]? = some a) : ItOk K H ρ ⟨enumL 0 l, [(n, l)]⟩ (Ite K a) where
  go := fun H1 ρ1 μ1 i p l1 M1 lk hi => by
    obtain ⟨p1, g1, rfl⟩ := enumL_get hi
    obtain ⟨xs, s1, r⟩ := lock_seq ha l1 M1 (lk (n, l) (by simp))
    obtain ⟨x, h1, h2⟩ := r.get g1
    refine ⟨⟨xs, x, s1, h1⟩, fun z H' hy => ?_⟩
    obtain ⟨T, x', rfl, hT, rfl, e1⟩ := hy
    have e1 := e1 xs s1
    rw [h1] at e1
    cases e1
    have q := M1.other (ho := .tup [.int (i : Nat), x]) hT
    refine ⟨q.2, q.1, rep_pair q.2 ?_ h2⟩
    rw [Nat.zero_add]
    exact rint
  stop := fun H1 ρ1 μ1 l1 M1 lk => by
    obtain ⟨xs, s1, r⟩ := lock_seq ha l1 M1 (lk (n, l) (by simp))
    refine ⟨xs, s1, ?_⟩
    show xs.length ≤ (enumL 0 l).length
    rw [enumL_len, r.length]
    exact Nat.le_refl _
theorem ppi_zip {elts : List Expr} {kk : Nat} {tpos p : Pos} (hm : X.mg "zip" = none) (h : PP X E a fa) (h' : PP X E b fb) (hg : Gl X "zip" := by rfl)
    (hs : starEach [a, b] X.env = (false, eval a X.env) :: starEach [b] X.env := by rfl) (hs2 : starEach [b] X.env = (false, eval b X.env) :: starEach [] X.env := by rfl) (hpl : (backTo pos (starEach [b] X.env)).any (·.1) = false := by rfl) :
    PPI X E (.Tuple elts kk tpos) (.Call (.Name "zip" p) [a, b] [] pos) (iZip fa fb) := ⟨PI.imp (RZ.pi_zipA hg hm (pa_cons h.pe (pa_cons h'.pe pa_nil hs2) hs) hs hpl) fun σ H R hh => by
  obtain ⟨env, μ, ρ, eo, M, hh⟩ := hh
  refine tE_bind eo M hh fun x H1 p m ρ1 _ l1 e1 M1 r1 q1 => tE_bind e1 M1 q1 fun y H2 q m2 ρ2 _ l2 e2 M2 r2 q2 => ?_
  cases p with
  | tup l =>
    cases q with
    | tup k =>
      obtain ⟨a, xs, rfl, k1, k2⟩ := rep_tup (Rep.mono l2 _ _ r1)
      obtain ⟨b, ys, rfl, k3, k4⟩ := rep_tup r2
      exact ⟨a, b, xs, ys, rfl, .inr ⟨k1, k3, q2 (RZ.ItzT X.K a b) H2 ρ2 (.refl _ _ _) M2 (itOk_zipT k1 k2 k3 k4)⟩⟩
    | _ => exact q2.elim
  | ref n =>
    cases q with
    | ref k =>
      simp only at q2
      split at q2
      · rename_i l l' g1 g2
        obtain ⟨a, xs, rfl, k1, k2, _⟩ := getL_ref M2 (Rep.mono l2 _ _ r1) g1
        obtain ⟨b, ys, rfl, k3, k4, _⟩ := getL_ref M2 r2 g2
        obtain ⟨a', ha, e⟩ := rep_ref M2 (Rep.mono l2 _ _ r1)
        cases e
        obtain ⟨b', hb, e⟩ := rep_ref M2 r2
        cases e
        exact ⟨a, b, xs, ys, rfl, .inl ⟨k1, k3, q2 (Itz X.K a b) H2 ρ2 (.refl _ _ _) M2 (itOk_zipL ha hb)⟩⟩
      · exact q2.elim
    | _ => exact q2.elim
  | _ => cases q <;> exact q2.elim⟩
end
/-! ### comprehensions -/
section
variable {X : Cx} {E : XK} {tg iter elt : Expr} {ifs : List Expr} {scope : Scope} {pos : Pos}
structure PPTs (X : Cx) (E : XK) (ifs : List Expr) (f : Ex) : Prop where
  pt : PTs X ifs (tT X.K X.mg E f)
theorem ppts_nil : PPTs X E [] yes := ⟨⟨fun pins s σ H Q I h => pts_nil.run pins s σ H Q I (by
  obtain ⟨env, μ, ρ, eo, M, h⟩ := h
  exact Post.val (R := RB) (show Post X.K X.mg E RB H ρ Q (Res.ok true μ) from h) M rfl)⟩⟩
theorem ppts_one {e : Expr} {f : Ex} (h : PPT X E e f) : PPTs X E [e] f := ⟨pts_one h.pt⟩
theorem wipe_len (env : Env) : ∀ vs : List Nat, (PL.wipe env vs).length = env.length
  | [] => rfl
  | v :: vs => by unfold PL.wipe; rw [List.length_set, wipe_len env vs]
theorem EnvOk.wipe {K : PySem.W.Frag} {H : Hp} {ρ : List Addr} {env : Env} {σ : L2.St} (e : EnvOk K H ρ env σ) : ∀ vs : List Nat, EnvOk K H ρ (PL.wipe env vs) (L2.wipe σ vs)
  | [] => e
  | v :: vs => by
    have ih := EnvOk.wipe e vs
    refine ⟨by unfold PL.wipe L2.wipe; simp [ih.len], fun i p h => ?_⟩
    unfold PL.wipe at h
    unfold L2.wipe
    by_cases hv : v = i
    · subst hv
      by_cases hl : v < (PL.wipe env vs).length
      · rw [List.getElem?_set_self hl] at h; cases h
      · rw [List.getElem?_eq_none (by simpa using hl)] at h; cases h
    · rw [List.getElem?_set_ne hv] at h
      rw [List.getElem?_set_ne hv]
      exact ih.at' i p h
theorem wipe_at {α : Type} : ∀ (σ : List (Option α)) (vs : List Nat) (w : List (Option α) → List Nat → List (Option α)), (∀ σ, w σ [] = σ) → (∀ σ v vs, w σ (v :: vs) = (w σ vs).set v none) → ∀ j, (w σ vs)[j]? = if j ∈ vs ∧ j < σ.length then some none else σ[j]?
  | σ, [], w, h1, h2, j => by rw [h1]; simp
  | σ, v :: vs, w, h1, h2, j => by
    have ih := wipe_at σ vs w h1 h2
    have hl : ∀ us : List Nat, (w σ us).length = σ.length := fun us => by
      induction us with
      | nil => rw [h1]
      | cons u us ih => rw [h2, List.length_set, ih]
    rw [h2]
    by_cases e : v = j
    · subst e
      by_cases hv : v < σ.length
      · rw [List.getElem?_set_self (by rw [hl]; exact hv), if_pos ⟨by simp, hv⟩]
      · rw [List.getElem?_eq_none (by rw [List.length_set, hl]; omega), if_neg (fun z => hv z.2), List.getElem?_eq_none (by omega)]
    · rw [List.getElem?_set_ne e, ih j]
      by_cases hj : j ∈ vs ∧ j < σ.length
      · rw [if_pos hj, if_pos ⟨List.mem_cons_of_mem _ hj.1, hj.2⟩]
      · rw [if_neg hj, if_neg (fun z => hj ⟨(List.mem_cons.mp z.1).resolve_left (Ne.symm e), z.2⟩)]
theorem wipe_out {is vs : List Nat} {σ σ2 : L2.St} (h : OutOf is (L2.wipe σ vs) σ2) (hs : ∀ i ∈ is, i ∈ vs) : L2.wipe σ2 vs = L2.wipe σ vs := by
  have W := fun (σ : L2.St) j => wipe_at σ vs L2.wipe (fun _ => rfl) (fun _ _ _ => rfl) j
  have hl : σ2.length = σ.length := by rw [h.1, L2.wipe_length]
  apply List.ext_getElem?
  intro j
  rw [W, W]
  by_cases hj : j ∈ vs ∧ j < σ.length
  · rw [if_pos (by rw [hl]; exact hj), if_pos hj]
  · rw [if_neg (by rw [hl]; exact hj), if_neg hj]
    by_cases hv : j ∈ vs
    · have : σ.length ≤ j := by
        by_cases z : j < σ.length
        · exact absurd ⟨hv, z⟩ hj
        · omega
      rw [List.getElem?_eq_none (by omega), List.getElem?_eq_none this]
    · rw [h.2 j (fun z => hv (hs j z)), W, if_neg (fun z => hv z.1)]
theorem lc_read {K : PySem.W.Frag} {mg : Str → Option Value} {it : PL.It} {g : Tg} {is vs : List Nat} {ft fe : Ex} (hs : ∀ i ∈ is, i ∈ vs) {σ : L2.St} {H : Hp} {Q : VK} (h : tE K mg E (lc it g ft fe vs) σ H Q) :
    tLc (tI K mg E it) (tG K mg E is g) (tT K mg E ft) (tE K mg E fe) vs σ H Q := by
  obtain ⟨env, μ, ρ, eo, M, h⟩ := h
  refine ⟨env, μ, ρ, eo, M, (Post.bind (R := fun H' ρ' z J => ItOk K H' ρ' z J) h).imp fun J H1 ⟨z, m1, ρ1, _, l1, M1, hJ, q1⟩ => ?_⟩
  intro D hD
  obtain ⟨M1', L1'⟩ := M1.push (ho := .lst []) (o := .lst []) hD fun H' ρ' L e => ⟨[], e, .nil⟩
  have hn : (ρ1 ++ [D])[m1.length]? = some D := by rw [← M1.len, List.getElem?_append_right (Nat.le_refl _)]; simp
  refine ⟨fun i n H => n = z.items.length - i ∧ i ≤ z.items.length ∧ ∃ μ ρ, Lat K (upd H1 D (.lst [])) (ρ1 ++ [D]) H ρ ∧ EnvOk K H ρ env σ ∧ MemOk K H ρ μ ∧ Post K mg E (RP K) H ρ Q ((lcN z.lk g ft fe vs m1.length env (z.items.drop i) μ).bind fun _ μ2 => .ok (.ref m1.length) μ2),
    ⟨_, rfl, Nat.zero_le _, _, _, .refl _ _ _, eo.mono (l1.trans L1'), M1', q1.later L1'⟩, ?_⟩
  rintro i n H2 ⟨rfl, hi, μ2, ρ2, l2, e2, M2, q2⟩
  have nx : ∀ (H' : Hp) (μ' : Mem) (ρ' : List Addr), i < z.items.length → Lat K H2 ρ2 H' ρ' → MemOk K H' ρ' μ' → Post K mg E (RP K) H' ρ' Q ((lcN z.lk g ft fe vs m1.length env (z.items.drop (i + 1)) μ').bind fun _ μ2 => .ok (.ref m1.length) μ2) →
      ∃ μ ρ, Lat K (upd H1 D (.lst [])) (ρ1 ++ [D]) H' ρ ∧ EnvOk K H' ρ env σ ∧ MemOk K H' ρ μ ∧ Post K mg E (RP K) H' ρ Q ((lcN z.lk g ft fe vs m1.length env (z.items.drop (i + 1)) μ).bind fun _ μ2 => .ok (.ref m1.length) μ2) := fun H' μ' ρ' _ l M' q => ⟨μ', ρ', l2.trans l, e2.mono l, M', q⟩
  by_cases hlt : i < z.items.length
  · have hd : z.items.drop i = z.items[i] :: z.items.drop (i + 1) := List.drop_eq_getElem_cons hlt
    rw [hd] at q2
    unfold lcN at q2
    split at q2
    · rename_i hlk
      obtain ⟨go, yld⟩ := hJ.go H2 ρ2 μ2 i z.items[i] (L1'.trans l2) M2 hlk (List.getElem?_eq_getElem hlt)
      refine .inr ⟨go, fun H' => ∃ μ ρ, Lat K (upd H1 D (.lst [])) (ρ1 ++ [D]) H' ρ ∧ EnvOk K H' ρ env σ ∧ MemOk K H' ρ μ ∧ Post K mg E (RP K) H' ρ Q ((lcN z.lk g ft fe vs m1.length env (z.items.drop (i + 1)) μ).bind fun _ μ2 => .ok (.ref m1.length) μ2), fun H' hh => ⟨z.items.length - (i + 1), by omega, rfl, hlt, hh⟩, fun x H3 hy => ?_⟩
      obtain ⟨l3, M3, r3⟩ := yld x H3 hy
      refine ⟨PL.wipe env vs, μ2, ρ2, z.items[i], (e2.mono l3).wipe vs, M3, r3, ?_⟩
      rw [bind_bind] at q2
      refine (Post.bind (R := RG K is (L2.wipe σ vs)) (q2.later l3)).imp fun σ4 H4 ⟨env4, μ4, ρ4, _, l4, M4, ⟨e4, o4⟩, q4⟩ => ?_
      refine ⟨wipe_out o4 hs, ?_⟩
      rw [bind_bind] at q4
      simp only [bind_onB] at q4
      refine tT_bind (R' := RP K) (k1 := fun m => (((fe env4 m).bind fun q μ3 => match push1 m1.length q μ3 with
        | some μ4 => lcN z.lk g ft fe vs m1.length env (z.items.drop (i + 1)) μ4
        | none => .stuck).bind fun _ μ2 => Res.ok (PV.ref m1.length) μ2)) (k2 := fun m => (lcN z.lk g ft fe vs m1.length env (z.items.drop (i + 1)) m).bind fun _ μ2 => Res.ok (PV.ref m1.length) μ2) e4 M4 q4 fun t H5 μ5 ρ5 _ l5 e5 M5 q5 => ?_
      cases t with
      | false => exact nx H5 μ5 ρ5 hlt ((l3.trans l4).trans l5) M5 q5
      | true =>
        rw [if_pos rfl, bind_bind] at q5
        refine tE_bind e5 M5 q5 fun y H6 q μ6 ρ6 _ l6 e6 M6 r6 q6 => ?_
        have la : Lat K H2 ρ2 H6 ρ6 := ((l3.trans l4).trans l5).trans l6
        unfold push1 at q6
        cases e : μ6[m1.length]? with
        | none => rw [e] at q6; exact q6.elim
        | some o =>
          rw [e] at q6
          cases o with
          | lst acc =>
            simp only at q6
            by_cases hz : acc.length < SL
            · rw [if_pos hz] at q6
              have hn6 : ρ6[m1.length]? = some D := (l2.trans la).get hn
              obtain ⟨ys, k1, k2⟩ := M6.at' _ _ _ e hn6
              have L0 : Lat K H6 ρ6 (upd H6 D (.lst (ys ++ [y]))) ρ6 := ⟨⟨[], by simp⟩, .upd (fun xs q => by rw [k1] at q; cases q) fun ob xs q => by rw [k1] at q; cases q⟩
              obtain ⟨M7, L7⟩ := M6.set (ho := .lst (ys ++ [y])) (u := .lst (acc ++ [q])) e hn6 rfl ⟨ys ++ [y], upd_same, Reps.mono L0 _ _ (k2.append (.cons r6 .nil))⟩
              exact ⟨ys, k1, by rw [SL_eq, k2.length]; exact hz, nx _ _ ρ6 hlt (la.trans L7) M7 (Post.later q6 L7)⟩
            · rw [if_neg hz] at q6; exact q6.elim
          | _ => exact q6.elim
    · exact q2.elim
  · have e : i = z.items.length := by omega
    subst e
    rw [List.drop_eq_nil_of_le (Nat.le_refl _)] at q2
    unfold lcN at q2
    split at q2
    · rename_i hlk
      refine .inl ⟨hJ.stop H2 ρ2 μ2 (L1'.trans l2) M2 hlk, ?_⟩
      refine Post.val (R := RP K) (show Post K mg E (RP K) H2 ρ2 Q (Res.ok (.ref m1.length) μ2) from q2) M2 ?_
      show Rep K H2 ρ2 (.ref m1.length) (.ref D)
      simp only [Rep]
      exact ⟨D, l2.get hn, rfl⟩
    · exact q2.elim
/-- [elt for tg in iter if ..] as a value -/
theorem pp_lc {it : PL.It} {g : Tg} {is : List Nat} {ft fe : Ex} {own : List (Str × Nat)} (hc : X.calm = true) (hN : X.N.Nodup) (hi : PPI X E tg iter it) (ok : BlkOk X.N X.env.scope scope own)
    (hg : ∀ (s : Shared) (H : Hp) (C : Addr) (cl : List (Str × Addr)) (fp : List Addr), PPG (X.blk s H scope (compEnvC scope cl C X.env) fp) E tg is g) (ht : ∀ (s : Shared) (H : Hp) (C : Addr) (cl : List (Str × Addr)) (fp : List Addr), PPTs (X.blk s H scope (compEnvC scope cl C X.env) fp) E ifs ft)
    (he : ∀ (s : Shared) (H : Hp) (C : Addr) (cl : List (Str × Addr)) (fp : List Addr), PP (X.blk s H scope (compEnvC scope cl C X.env) fp) E elt fe) (hw : ∀ i ∈ is, i ∈ own.map (·.2) := by decide) (hs : ∀ x, foldedSetIterable iter X.env x = pure x := by intro _; rfl) :
    PP X E (.ListComp elt [⟨tg, iter, ifs, 0⟩] scope pos) (lc it g ft fe (own.map (·.2))) :=
  ⟨PE.imp (pe_lc hc hN hi.pi ok (fun s H C cl fp => (hg s H C cl fp).pg) (fun s H C cl fp => (ht s H C cl fp).pt) (fun s H C cl fp => (he s H C cl fp).pe) hs) fun _ _ _ h => lc_read hw h⟩
/-- name = [..] on one line -/
theorem pps_setLc (i : Nat) {y : Str} {py spos : Pos} {it : PL.It} {g : Tg} {is : List Nat} {ft fe : Ex} {own : List (Str × Nat)} (hc : X.calm = true) (hN : X.N.Nodup) (hi : PPI X E tg iter it) (ok : BlkOk X.N X.env.scope scope own)
    (hg : ∀ (s : Shared) (H : Hp) (C : Addr) (cl : List (Str × Addr)) (fp : List Addr), PPG (X.blk s H scope (compEnvC scope cl C X.env) fp) E tg is g) (ht : ∀ (s : Shared) (H : Hp) (C : Addr) (cl : List (Str × Addr)) (fp : List Addr), PPTs (X.blk s H scope (compEnvC scope cl C X.env) fp) E ifs ft)
    (he : ∀ (s : Shared) (H : Hp) (C : Addr) (cl : List (Str × Addr)) (fp : List Addr), PP (X.blk s H scope (compEnvC scope cl C X.env) fp) E elt fe) (hsw : swapsWith (.ListComp elt [⟨tg, iter, ifs, 0⟩] scope pos) (some (.Name y py)) spos.line X.env = pure true) (hy : X.N[i]? = some y := by rfl) (hyl : X.env.scope.names.lookup y = some .local := by rfl)
    (hw : ∀ i ∈ is, i ∈ own.map (·.2) := by decide) (hs : ∀ x, foldedSetIterable iter X.env x = pure x := by intro _; rfl) :
    PPs X E (.Assign [.Name y py] (.ListComp elt [⟨tg, iter, ifs, 0⟩] scope pos) spos) (setv i (lc it g ft fe (own.map (·.2)))) :=
  ⟨PS.imp (ps_setLc (i := i) hc hN hy hyl hsw hi.pi ok (fun s H C cl fp => (hg s H C cl fp).pg) (fun s H C cl fp => (ht s H C cl fp).pt) (fun s H C cl fp => (he s H C cl fp).pe) hs) fun D σ H h => by
    obtain ⟨env, μ, ρ, eo, M, h⟩ := h
    have h2 : tE X.K X.mg E (lc it g ft fe (own.map (·.2))) σ H (fun x H1 => gName i x σ H1 D.nx) := tE_of eo M h fun x H1 p m ρ1 _ l1 e1 M1 r1 q1 => ps_nxt (E := E) (mg := X.mg) q1 M1 (e1.set r1)
    exact lc_read hw h2⟩
end
end PL
end
section
set_option autoImplicit false
set_option Elab.async false
set_option linter.all false
set_option maxRecDepth 100000
set_option maxHeartbeats 1000000
/-! Defs, their calls, the law's end. -/
namespace PL
open PySem L2
section
variable {K : PySem.W.Frag} {mg : Str → Option Value} {E : XK} {H : Hp} {ρ : List Addr}
mutual
theorem rep_under : ∀ {p : PV} {x : V}, Rep K H ρ p x → p.under ρ.length = true
  | .non, _, _ => by simp only [PV.under]
  | .bl _, _, _ => by simp only [PV.under]
  | .int _, _, _ => by simp only [PV.under]
  | .str _, _, _ => by simp only [PV.under]
  | .cst _, _, _ => by simp only [PV.under]
  | .tup l, _, h => by
    obtain ⟨a, xs, _, _, h3⟩ := rep_tup h
    simp only [PV.under]
    exact reps_under h3
  | .ref n, _, h => by
    simp only [Rep] at h
    obtain ⟨a, h1, _⟩ := h
    simp only [PV.under, decide_eq_true_eq]
    exact (List.getElem?_eq_some_iff.mp h1).1
theorem reps_under : ∀ {ps : List PV} {xs : List V}, Reps K H ρ ps xs → PV.unders ρ.length ps = true
  | [], _, _ => by simp only [PV.unders]
  | p :: ps, _, h => by
    obtain ⟨y, ys, _, h1, h2⟩ := Reps.cons_iff.mp h
    simp only [PV.unders, rep_under h1, reps_under h2, Bool.and_self]
end
mutual
theorem rep_shrink {t : List Addr} : ∀ {p : PV} {x : V}, Rep K H (ρ ++ t) p x → p.under ρ.length = true → Rep K H ρ p x
  | .non, _, h, _ => by simpa only [Rep] using h
  | .bl _, _, h, _ => by simpa only [Rep] using h
  | .int _, _, h, _ => by simpa only [Rep] using h
  | .str _, _, h, _ => by simpa only [Rep] using h
  | .cst _, _, h, _ => by simpa only [Rep] using h
  | .tup l, _, h, u => by
    obtain ⟨a, xs, h1, h2, h3⟩ := rep_tup h
    simp only [PV.under] at u
    simp only [Rep]
    exact ⟨a, xs, h1, h2, reps_shrink h3 u⟩
  | .ref n, _, h, u => by
    simp only [Rep] at h ⊢
    simp only [PV.under, decide_eq_true_eq] at u
    obtain ⟨a, h1, h2⟩ := h
    rw [List.getElem?_append_left u] at h1
    exact ⟨a, h1, h2⟩
theorem reps_shrink {t : List Addr} : ∀ {p : List PV} {x : List V}, Reps K H (ρ ++ t) p x → PV.unders ρ.length p = true → Reps K H ρ p x
  | [], _, h, _ => by simpa only [Reps] using h
  | p :: ps, _, h, u => by
    obtain ⟨y, ys, rfl, h1, h2⟩ := Reps.cons_iff.mp h
    simp only [PV.unders, Bool.and_eq_true] at u
    exact .cons (rep_shrink h1 u.1) (reps_shrink h2 u.2)
end
theorem repK_vals : ∀ {l : List (Sum Int Str × PV)} {xs : List (Key × V)}, RepK K H ρ l xs → Reps K H ρ (l.map (·.2)) (xs.map (·.2)) ∧ l.map (·.1) = xs.map (·.1)
  | [], xs, h => by
    have : xs = [] := h
    subst this
    exact ⟨.nil, rfl⟩
  | p :: ps, xs, h => by
    obtain ⟨y, ys, rfl, h1, h2⟩ := h
    obtain ⟨h3, h4⟩ := repK_vals h2
    exact ⟨.cons h1 h3, by simp [h4]⟩
theorem repK_shrink {t : List Addr} : ∀ {l : List (Sum Int Str × PV)} {xs : List (Key × V)}, RepK K H (ρ ++ t) l xs → PV.unders ρ.length (l.map (·.2)) = true → RepK K H ρ l xs
  | [], xs, h, _ => h
  | p :: ps, xs, h, u => by
    obtain ⟨y, ys, rfl, h1, h2⟩ := h
    simp only [List.map_cons, PV.unders, Bool.and_eq_true] at u
    exact ⟨y, ys, rfl, rep_shrink h1 u.1, repK_shrink h2 u.2⟩
theorem repO_under {o : PO} {a : Addr} (h : RepO K H ρ o a) : o.under ρ.length = true := by
  cases o with
  | lst l => obtain ⟨xs, _, h⟩ := h; exact reps_under h
  | ro l => obtain ⟨xs, _, h⟩ := h; exact reps_under h
  | dct l => obtain ⟨xs, _, h⟩ := h; exact reps_under (repK_vals h).1
theorem repO_shrink {t : List Addr} {o : PO} {a : Addr} (h : RepO K H (ρ ++ t) o a) (u : o.under ρ.length = true) : RepO K H ρ o a := by
  cases o with
  | lst l => obtain ⟨xs, e, h⟩ := h; exact ⟨xs, e, reps_shrink h u⟩
  | ro l => obtain ⟨xs, e, h⟩ := h; exact ⟨xs, e, reps_shrink h u⟩
  | dct l => obtain ⟨xs, e, h⟩ := h; exact ⟨xs, e, repK_shrink h u⟩
theorem Post.gc {Q : VK} {μ : Mem} {r : Res PV} (h : Post K mg E (RP K) H ρ Q (gc μ r)) (M : MemOk K H ρ μ) : Post K mg E (RP K) H ρ Q r := by
  cases r with
  | ok p m =>
    intro x H' ρ' l M' rx
    unfold PL.gc at h
    simp only at h
    split at h
    · rename_i hg
      obtain ⟨g1, g2, g3⟩ := hg
      obtain ⟨t, rfl⟩ := l.pre
      have l' : Lat K H ρ H' ρ := ⟨⟨[], by simp⟩, l.keep⟩
      have hl := M.len
      refine h x H' ρ l' ⟨by simp; omega, fun n o a hn ha => ?_, fun n k a o u hn hk ho hu mo mu => ?_⟩ (rep_shrink rx (by rw [hl]; exact g2))
      · have hlt : n < μ.length := by
          have := (List.getElem?_eq_some_iff.mp ha).1
          omega
        rw [List.getElem?_take, if_pos hlt] at hn
        have r1 := M'.at' n o a hn (by rw [List.getElem?_append_left (by omega)]; exact ha)
        refine repO_shrink r1 ?_
        rcases g3 n hlt with e | ⟨o', e, ho'⟩
        · rw [hn] at e
          exact repO_under (M.at' n o a e.symm ha)
        · rw [hn] at e
          cases e
          rw [hl]
          exact ho'
      · have k1 : n < μ.length := by have := (List.getElem?_eq_some_iff.mp hn).1; omega
        have k2 : k < μ.length := by have := (List.getElem?_eq_some_iff.mp hk).1; omega
        rw [List.getElem?_take, if_pos k1] at ho
        rw [List.getElem?_take, if_pos k2] at hu
        exact M'.inj n k a o u (by rw [List.getElem?_append_left (by omega)]; exact hn) (by rw [List.getElem?_append_left (by omega)]; exact hk) ho hu mo mu
    · exact h x H' ρ' l M' rx
  | exc x m => exact h
  | stuck => exact h
end
/-- what a def promises by its pure function -/
def spP (K : PySem.W.Frag) (mg : Str → Option Value) (n : Nat) (m : Fn) : Sp := fun vs H Q E => ∃ args μ ρ, args.length = n ∧ MemOk K H ρ μ ∧ Reps K H ρ args vs ∧ Post K mg E (RP K) H ρ Q (m args μ)
/-- a def keeps its promise where the guards of repr are known -/
structure FnG (P : Program) (w : World) (K : PySem.W.Frag) (mg : Str → Option Value) (base : Heap) (CX : CXT) (k : Nat) (f : Addr) (fd : FuncData) (ps : List Str) (sp : Sp) : Prop where
  len : ∀ vs H Q E, sp vs H Q E → vs.length = ps.length
  run : ∀ (A : Around) (outer : List PySem.Env) (s : Shared) (H : Hp) (args : Args) (us : List Value) (vs : List V) (Q : VK) (E : XK), Room k A → A.guards = some [] → Env0 P w K mg base A outer s H → BindsTo s fd args (ps.zip us) → Vals vs us → sp vs H Q E →
    codeAny (model P w) A (.call (.ref f) args) (CR CX outer P w H s Q E) s
theorem fnG_of {CX : CXT} {P : Program} {w : World} {K : PySem.W.Frag} {mg : Str → Option Value} {base : Heap} {k : Nat} {f : Addr} {name qual : Str} {params : Arguments} {body : List Stmt} {scope : Scope} {dV kV doc pm cdv ct oc : Value} {an od : Option Addr}
    {osl : Array (Option Value)} {N ps : List Str} {sp : Sp} (lk : K.lookup f = some ⟨oc, od, .func (PySem.W.fnOf name qual params body scope dV kV doc pm an cdv ct), osl⟩) (hcd : PySem.W.codeIn K cdv qual = true) (S : FnScope N ps scope)
    (len : ∀ vs H Q E, sp vs H Q E → vs.length = ps.length)
    (hbody : ∀ (A : Around) (outer : List PySem.Env) (s : Shared) (H : Hp) (vs : List V) (Q : VK) (E : XK), Room k (A.deeper (PyProof.Rows.envOfC qual scope s.heap.objs.size f cdv)) → A.guards = some [] → sp vs H Q E →
      ∃ t, PSs (cxOf CX P w K mg base N qual scope f cdv A outer s H E) body t ∧ t { nx := fun _ H' => Q .non H', rt := Q } (L2.start N vs) H) :
    FnG P w K mg base CX (k + 1) f (PySem.W.fnOf name qual params body scope dV kV doc pm an cdv ct) ps sp := by
  refine ⟨len, fun A outer s H args us vs Q E hr hgd e0 hb r hsp => ?_⟩
  have hl := len _ _ _ _ hsp
  have KX : K.In s.heap := e0.mod.kin.keeps fun b o e => (e0.bs b o e).1
  have lim : s.heap.NoLimit := e0.mod.nolimit.keeps fun b o e => (e0.bs b o e).1
  have hkind : ∀ y ∈ ps.zip us, scope.names.lookup y.1 = some .local ∨ (scope.names.lookup y.1 = some .cell ∧ ((cellsFrom (s.heap.objs.size + 1) scope.names []).lookup y.1).isSome = true) := fun ⟨n, v⟩ hy => by
    rcases S.par n (List.of_mem_zip hy).1 with q | q
    · exact .inl q
    · exact .inr ⟨q, PySem.W.cellsFrom_some _ _ _ (.inl q)⟩
  refine codeAny_call_function hr.depth (KX _ _ lk) rfl S.co S.gen rfl (PySem.W.codeRec_of KX hcd) (hb _ _ _ _ ?_)
  refine wpAny_newFunctionEnv_cells S.kind hkind fun env he s1 x => ?_
  subst he
  refine ⟨lim.keeps x.toInCall.keep, codeAny_func ?_⟩
  obtain ⟨t, ht, hq⟩ := hbody A outer s H vs Q E (hr.deeper _) hgd hsp
  have I : Inv (cxOf CX P w K mg base N qual scope f cdv A outer s H E) [] (L2.start N vs) H s1 := inv_start S hr.hd e0 hl r x
  refine wpAny_mono (ht.run [] s1 (L2.start N vs) H _ I hq) (fun fl s' hs => ?_) fun e s' hs => hs
  have fin : ∀ {σ' : L2.St} {H' : Hp} {v : V} {u : Value}, Inv (cxOf CX P w K mg base N qual scope f cdv A outer s H E) [] σ' H' s' → RelV v u → Q v H' → CE outer P w H s Q u s' :=
    fun {σ' H' v u} J rv q => ⟨v, H', J.os, J.bare, J.base, J.hok, rv, q⟩
  cases fl with
  | ret u =>
    obtain ⟨v, σ', H', J, rv, q⟩ := hs
    exact fin J rv q
  | next =>
    obtain ⟨σ', H', J, q⟩ := hs
    exact fin (v := V.non) (u := Value.none) J rfl q
  | brk =>
    obtain ⟨_, _, _, q⟩ := hs
    exact False.elim q
  | cont =>
    obtain ⟨_, _, _, q⟩ := hs
    exact False.elim q
/-- the def st of the module under the name x does what the pure m says -/
structure FnM (P : Program) (w : World) (K : PySem.W.Frag) (mg : Str → Option Value) (base : Heap) (CX : CXT) (k : Nat) (x : Str) (st : Stmt) (ps : List Str) (m : Fn) : Prop where
  ex : ∃ (f : Addr) (fd : FuncData) (qual : Str), L2.Fun K x qual st f fd ∧ mg x = some (.ref f) ∧ FnG P w K mg base CX k f fd ps (spP K mg ps.length m)
theorem start_env {K : PySem.W.Frag} {H : Hp} {ρ : List Addr} {N : List Str} {args : List PV} {vs : List V} {n : Nat} (hn : N.length = n) (r : Reps K H ρ args vs) : EnvOk K H ρ (args.map some ++ List.replicate (n - args.length) none) (L2.start N vs) := by
  refine ⟨by simp [L2.start, r.length, hn], fun i p h => ?_⟩
  unfold L2.start
  by_cases hi : i < args.length
  · rw [List.getElem?_append_left (by simpa using hi)] at h
    rw [List.getElem?_map] at h
    cases e : args[i]? with
    | none => rw [e] at h; cases h
    | some q =>
      rw [e] at h
      simp only [Option.map_some, Option.some.injEq] at h
      subst h
      obtain ⟨x, h1, h2⟩ := r.get e
      refine ⟨x, ?_, h2⟩
      rw [List.getElem?_append_left (by simp [r.length]; exact hi), List.getElem?_map, h1]
      rfl
  · rw [List.getElem?_append_right (by simpa using hi)] at h
    have := List.getElem?_replicate (n := n - args.length) (a := (none : Option PV)) (i := i - (args.map some).length)
    rw [this] at h
    split at h <;> cases h
/-- A DEF: its body as a pure statement -/
theorem fn_pure {P : Program} {w : World} {K : PySem.W.Frag} {mg : Str → Option Value} {base : Heap} {k n : Nat} {x qual : Str} {st : Stmt} {f : Addr} {fd : FuncData} {N ps : List Str} {b : Sm} (F : L2.Fun K x qual st f fd) (hm : mg x = some (.ref f)) (S : FnScope N ps (defScope st)) (hn : N.length = n)
    (body : ∀ (cdv : Value) (A : Around) (outer : List PySem.Env) (s : Shared) (H : Hp) (E : XK), Room k (A.deeper (PyProof.Rows.envOfC qual (defScope st) s.heap.objs.size f cdv)) → A.guards = some [] →
      PPb (cxOf CX0 P w K mg base N qual (defScope st) f cdv A outer s H E).nox E (defBody st) b) : FnM P w K mg base CX0 (k + 1) x st ps (fn n b) := by
  refine ⟨f, fd, qual, F, hm, ?_⟩
  obtain ⟨oc, od, kV, doc, pm, an, cdv, ct, osl, rfl, lk, hcd⟩ := F.ex
  refine fnG_of lk hcd S (fun vs H Q E h => ?_) fun A outer s H vs Q E hr hg hsp => ?_
  · obtain ⟨args, μ, ρ, hl, _, r, _⟩ := h
    rw [r.length, hl]
  · refine ⟨_, (body cdv A outer s H E hr hg).ps.nox, ?_⟩
    obtain ⟨args, μ, ρ, hl, M, r, h⟩ := hsp
    refine ⟨_, μ, ρ, start_env hn r, M, ?_⟩
    have h2 : Post K mg E (RP K) H ρ Q (run n b args μ) := Post.gc h M
    unfold run at h2
    show PostS K mg E H ρ _ (b (args.map some ++ List.replicate (n - args.length) none) μ)
    cases e : b (args.map some ++ List.replicate (n - args.length) none) μ with
    | nx env m => rw [e] at h2; exact fun σ' H' ρ' l M' _ => h2 .non H' ρ' l M' rnon
    | rt p m => rw [e] at h2; exact fun x H' ρ' l M' r' => h2 x H' ρ' l M' r'
    | bk env m => rw [e] at h2; exact h2.elim
    | ct env m => rw [e] at h2; exact h2.elim
    | exc x m => rw [e] at h2; exact h2
    | stuck => rw [e] at h2; exact h2.elim
section
variable {X : Cx} {E : XK} {CX : CXT} {k : Nat} {e : Expr} {es : List Expr} {pos : Pos} {m : Fn} {ps : List Str} {st : Stmt}
theorem run_fnG {f : Addr} {fd : FuncData} {args : Args} {pins : List (Addr × Obj)} {σ : L2.St} {H : Hp} {s : Shared} {Q : VK} {us : List Value} {vs : List V} {sp : Sp} (F : FnG X.prog X.w X.K X.mg X.base CX k f fd ps sp) (hr : Room k X.A) (hgd : X.A.guards = some []) (hb : BindsTo s fd args (ps.zip us)) (hx : Passes CX X E)
    (I : Inv X pins σ H s) (r : Vals vs us) (h : sp vs H Q E) : codeAny (model X.prog X.w) X.A (.call (.ref f) args) (fun r s' => match r with | .ok (.ret u) => EP X pins σ Q u s' | .ok _ => False | .error e => X.xe e s') s := by
  refine codeAny_mono (F.run X.A X.stack s H args us vs Q E hr hgd I.env0 hb r h) fun r s' hq => ?_
  cases r with
  | error e => exact hx pins σ H s e s' I hq
  | ok fl =>
    cases fl with
    | ret u => exact I.after hq
    | next => exact False.elim hq
    | brk => exact False.elim hq
    | cont => exact False.elim hq
theorem call_fnG {f : Addr} {fd : FuncData} {pins : List (Addr × Obj)} {σ : L2.St} {H : Hp} {s : Shared} {Q : VK} {us pus : List Value} {kw : List (Str × Value)} {vs : List V} {sp : Sp} (F : FnG X.prog X.w X.K X.mg X.base CX k f fd ps sp) (hr : Room k X.A) (hgd : X.A.guards = some []) (hb : BindsTo s fd ⟨pus, kw⟩ (ps.zip us)) (hx : Passes CX X E)
    (I : Inv X pins σ H s) (r : Vals vs us) (h : sp vs H Q E) : wpAny (model X.prog X.w) X.A (call (.ref f) pus kw) (EP X pins σ Q) X.xe s :=
  wpAny_call (codeAny_mono (run_fnG F hr hgd hb hx I r h) fun r s' hq => by
    cases r with
    | error e => exact hq
    | ok fl =>
      cases fl with
      | ret u => exact hq
      | next => exact False.elim hq
      | brk => exact False.elim hq
      | cont => exact False.elim hq)
/-- how a def's positional arguments bind -/
def Bd (x : Str) (st : Stmt) (ps : List Str) : Prop := ∀ (qual : Str) (kV doc pm : Value) (an : Option Addr) (cdv ct : Value) (us : List Value), us.length = ps.length → bindArgs (PySem.W.fnOf x qual (defArgs st) (defBody st) (defScope st) .none kV doc pm an cdv ct) ⟨us, []⟩ = pure (ps.zip us)
theorem pp_call {x : Str} {g : Ag} {p : Pos} {j : Nat} (F : FnM X.prog X.w X.K X.mg X.base CX j x st ps m) (B : Bd x st ps) (hr : Room k X.A) (hj : j ≤ k) (hgd : X.A.guards = some []) (hx : Passes CX X E) (ha : PPA X E (e :: es) g) (hl : (e :: es).length = ps.length := by rfl) (hg : Gl X x := by rfl) (hdb : (x == ("__debug__" : Str)) = false := by decide)
    (he : starEach (e :: es) X.env = (false, eval e X.env) :: starEach es X.env := by rfl) (hpl : (backTo pos (starEach es X.env)).any (·.1) = false := by rfl) : PP X E (.Call (.Name x p) (e :: es) [] pos) (app m g) := ⟨⟨fun pins s σ H Q I h => by
  obtain ⟨f, fd, qual, FF, hm, G⟩ := F.ex
  obtain ⟨env, μ, ρ, eo, M, h⟩ := h
  have h1 : tA X.K X.mg E g σ H (fun vs H1 => spP X.K X.mg ps.length m vs H1 Q E) := tA_bind eo M h fun xs H1 as μ1 ρ1 eg l1 e1 M1 r1 q1 => ⟨as, μ1, ρ1, by rw [ha.len _ _ _ _ eg, hl], M1, r1, q1⟩
  refine wpAny_Call_Name_kw (ld_glob I hg hm ?_ hdb)
  refine PySem.W.callWith_K (h₀ := X.base) I.ok.mod.kin FF.kp (thn (ha.pa.run pos pins s σ H _ I h1) fun us s1 ⟨vs, H1, I1, r, q⟩ => ⟨I1.kIn, ?_⟩) he hpl
  have hl2 : us.length = ps.length := by rw [← r.length]; exact G.len _ _ _ _ q
  obtain ⟨oc, od, kV, doc, pm, an, cdv, ct, osl, rfl, lk, hcd⟩ := FF.ex
  exact call_fnG G (hr.mono hj) hgd (.of_eq (B qual kV doc pm an cdv ct us hl2)) hx I1 r q⟩⟩
end
end PL
end
section
set_option autoImplicit false
set_option Elab.async false
set_option linter.all false
set_option maxRecDepth 100000
set_option maxHeartbeats 2000000
/-! enumerate of a tuple. -/
namespace PL
section
open PySem
open PySem.Sem (wp)
open PySem.AutoSeq1 (wpAny_loadPart')
theorem meets_enumT (l : Addr) (items : Array Value) (n : Nat) (dct : Option Addr) (sl : Array (Option Value)) :
    Meets (Builtin.«enumerate.__new__» ⟨[.type "enumerate", .ref l], []⟩) (fun _ R s => s.heap.get? l = some { cls := .type "tuple", dict := dct, data := .seq items n, slots := sl } ∧
      R (.ok (.ret (.ref (s.heap.push { cls := .type "tuple_iterator", data := .fields #[.ref l, .int 0 0] }).objs.size)))
        { s with heap := (s.heap.push { cls := .type "tuple_iterator", data := .fields #[.ref l, .int 0 0] }).push { cls := .type "enumerate", data := .fields #[.none, .bool false, .ref s.heap.objs.size, rawInt 0, .none, .none] } }) :=
  .of_wp fun prog w A R s h => by
    obtain ⟨hp, g, d, tk, os⟩ := s; obtain ⟨hl, h⟩ := h
    have hsub := sub_enumerate
    have hL : Heap.IsTuple (Shared.heap ⟨hp, g, d, tk, os⟩) l items := ⟨_, hl, rfl, n, rfl⟩
    wp_walk using wpAny_loadPart' hl
    refine wpAny_stack_any fun st => wpAny_pure ?_
    split
    · rename_i c _ _ _ _ _
      cases (c == Value.type "enumerate")
      · wp_walk using wpAny_loadPart' hl, wpAny_pyIter_tuple hL
        exact ⟨_, rfl, h⟩
      · wp_walk using wpAny_loadPart' hl, wpAny_pyIter_tuple hL
        exact ⟨_, rfl, h⟩
    · wp_walk using wpAny_loadPart' hl, wpAny_pyIter_tuple hL
      exact ⟨_, rfl, h⟩
section
variable {prog : Program} {w : World} {A : Around} {E : Value → Shared → Prop} {s : Shared}
theorem call_enumT {l : Addr} {items : Array Value} {Q : Value → Shared → Prop} (hL : s.heap.IsTuple l items)
    (h : ∀ h', IsEnum h' (s.heap.objs.size + 1) s.heap.objs.size 0 .none → h'.IsTupleIter s.heap.objs.size l 0 → h'.objs.size = s.heap.objs.size + 2 →
      (∀ b o, s.heap.get? b = some o → h'.get? b = some o) → Q (.ref (s.heap.objs.size + 1)) { s with heap := h' }) :
    wpAny (model prog w) A (call (.type "enumerate") [.ref l]) Q E s := by
  obtain ⟨⟨c, dct, dt, sl⟩, hl, hc, n, hd⟩ := hL
  replace hc : c = .type "tuple" := hc
  replace hd : dt = .seq items n := hd
  subst hc hd
  refine callType_new F.called_enumerate (by decide) (F.typeCall_enumerate_1 _) (F.newCall_enumerate_1 _) (fun obj => F.args_object_init_2 obj _) F.entry_enumerate_new
    (meets_enumT l items n dct sl) ⟨hl, ?_⟩
  have hz : (s.heap.push { cls := .type "tuple_iterator", data := .fields #[.ref l, .int 0 0] }).objs.size = s.heap.objs.size + 1 := Heap.size_push ..
  show _ ∧ _
  rw [hz]
  have he : IsEnum ((s.heap.push { cls := .type "tuple_iterator", data := .fields #[.ref l, .int 0 0] }).push
      { cls := .type "enumerate", data := .fields #[.none, .bool false, .ref s.heap.objs.size, rawInt 0, .none, .none] }) (s.heap.objs.size + 1) s.heap.objs.size 0 .none := by
    have := Heap.get?_push_size (s.heap.push { cls := .type "tuple_iterator", data := .fields #[.ref l, .int 0 0] })
      (o := { cls := .type "enumerate", data := .fields #[.none, .bool false, .ref s.heap.objs.size, rawInt 0, .none, .none] }) rfl
    rw [hz] at this; exact this
  refine ⟨⟨_, he, rfl⟩, h _ he ⟨_, Heap.get?_push_of_some _ (Heap.get?_push_size _ rfl), rfl, rfl⟩ (by rw [Heap.size_push, hz]) fun b o x => Heap.get?_push_of_some _ (Heap.get?_push_of_some _ x)⟩
theorem enum_endT {e it l : Addr} {i : Nat} {items : Array Value} {old : Value} {Q : Option Value → Shared → Prop} (hh : A.handled = none)
    (he : IsEnum s.heap e it i old) (hit : s.heap.IsTupleIter it l i) (hl : s.heap.IsTuple l items) (hx : items[i]? = none)
    (hQ : ∀ h', Heap.ExtBut it s.heap h' → Q none { s with heap := h' }) : wpAny (model prog w) A (pyNext (.ref e)) Q E s := by
  have hT : s.TypeIs (.ref e) "enumerate" := ⟨_, he, rfl⟩
  unfold pyNext
  refine wpAny_bind (wpAny_attempt (wpAny_callSpecial?_slot (name := Str.ofString "__next__") hT F.slot_enumerate_next
    (wpAny_call_entry F.slot_enumerate_next hT F.entry_enumerate_next ?_ (F.args_enumerate_next_1 _))))
  show wpAny _ _ (field (.ref e) 2 >>= _) _ _ _
  refine wpAny_bind (wpAny_field he rfl (x := .ref it) rfl ?_)
  refine wpAny_bind (wpAny_nextOf_tuple_end hh hit hl hx fun h' x he' hx' => ?_)
  obtain ⟨o, ho, hc⟩ := hx'
  refine wpAny_bind (wpAny_isInstance (T := "StopIteration") (b := true) ⟨o, ho, hc⟩ isSubtype_stop ?_)
  exact wpAny_pure (hQ _ he')
end
end
section
open PySem PySem.Spec PyProof.Rows L2
/-- the tuple at a at each turn, each item in a new pair -/
def IteT (K : PySem.W.Frag) (a : Addr) : L2.It :=
  ⟨fun i H => ∃ (xs : List V) (x : V), SqT K H a xs ∧ xs[i]? = some x, fun i H v H' => ∃ T x, v = .ref T ∧ H T = none ∧ H' = upd H T (.tup [.int (i : Nat), x]) ∧ ∀ xs, SqT K H a xs → xs[i]? = some x, fun i H => ∃ xs : List V, SqT K H a xs ∧ xs.length ≤ i⟩
theorem turn_enumT {P : Program} {w : World} {K : PySem.W.Frag} {elts : List Expr} {kk : Nat} {tpos : Pos} (a e it : Addr) :
    Turn P w K (.Tuple elts kk tpos) (IteT K a) [e, it] e (fun i h => (∃ old, IsEnum h e it ((i : Nat) : Int) old) ∧ h.IsTupleIter it a i ∧ e ≠ it ∧ e ≠ a ∧ it ≠ a) where
  mem := by simp
  obj := fun i h st b hb => by
    obtain ⟨⟨old, he⟩, ⟨o, ho, hc, hd⟩, _⟩ := st
    have e' : b = e ∨ b = it := by simpa using hb
    rcases e' with z | z
    · rw [z]; exact ⟨_, he, fun v q => nomatch q⟩
    · rw [z]; exact ⟨o, ho, fun v q => by rw [hd] at q; cases q⟩
  keep := fun i h h' st k => let ⟨⟨old, he⟩, hi, hne⟩ := st; ⟨⟨old, k e (by simp) _ he⟩, hi.at fun o q => k it (by simp) o q, hne⟩
  item := by
    intro X hP hw hK hc i pins s σ H E I hf st hg
    subst hP hw hK
    obtain ⟨⟨old, he⟩, hit, hne, hea, hia⟩ := st
    obtain ⟨xs, x, hq, hx⟩ := hg
    obtain ⟨its, rv, p, hz⟩ := I.tuple hq
    obtain ⟨u, hu, ru⟩ := rv.get hx
    have hel : e < s.heap.objs.size := Heap.lt_size he
    have hil : it < s.heap.objs.size := by obtain ⟨_, q, _⟩ := hit; exact Heap.lt_size q
    have hlt : i < its.toArray.size := by
      have := (List.getElem?_eq_some_iff.mp hu).1
      simpa using this
    refine wpAny_pyNext_enum_itemD (Draws.tuple (A := X.A.in1) (show X.A.in1.handled = none from I.ok.hd hc) it a (Ne.symm hia) its.toArray) he ⟨hit, p⟩ hlt hne (by simp [hne, hea]) fun y h' tk hy ho hst' hT hsz hk => ?_
    obtain rfl : y = u := by
      have h1 : its[i]? = some y := by simpa using hy
      rw [hu] at h1
      exact (Option.some.inj h1).symm
    refine ⟨_, rfl, wpAny_letOwnedTupleGo_enum (s := { s with heap := h', toks := tk + 1 }) ho fun h'' he' sb => ?_⟩
    have hT2 : h''.get? s.heap.objs.size = some { cls := .type "tuple", data := .seq #[.int i tk, y] } := (sb.2 _ (Nat.ne_of_gt hel)).trans hT
    have new : ObjOk X.prog X.w (upd H s.heap.objs.size (.tup [.int (i : Nat), x])) h'' s.heap.objs.size (.tup [.int (i : Nat), x]) :=
      ⟨by show 2 ≤ sizeLine; decide, [.int i tk, y], .cons ⟨_, rfl⟩ (.cons ru .nil), ⟨_, hT2, rfl, _, rfl⟩⟩
    have I1 : Inv X pins σ (upd H s.heap.objs.size (.tup [.int (i : Nat), x])) { s with heap := h'', toks := tk + 1 } :=
      I.turnedNew (ch := [e, it]) (fun b ob hb q => (sb.2 b (fun z => hb (by simp [z]))).trans (hk b ob (fun z => hb (by simp [z])) (fun z => hb (by simp [z])) q)) hf (Nat.le_refl _) new
    refine ⟨.ref s.heap.objs.size, _, I1, rfl, ⟨_, x, rfl, I.hok.fresh (Nat.le_refl _), rfl, fun ys hy => by rw [I.tuple_inj hy hq]; exact hx⟩, ⟨⟨y, ?_⟩, hst'.1.at fun o q => (sb.2 it (Ne.symm hne)).trans q, hne, hea, hia⟩, fun b hb => ?_⟩
    · have e1 : ((i + 1 : Nat) : Int) = (i : Int) + 1 := by omega
      rw [e1]; exact he'
    · have hb' : b < s.heap.objs.size := by
        have e' : b = e ∨ b = it := by simpa using hb
        rcases e' with z | z
        · rw [z]; exact hel
        · rw [z]; exact hil
      rw [upd_ne (Nat.ne_of_lt hb')]
      exact (hf b hb).1
  done := by
    intro X hP hw hK hc i pins s σ H E I hf st hg
    subst hP hw hK
    obtain ⟨⟨old, he⟩, hit, hne, hea, hia⟩ := st
    obtain ⟨xs, hq, hx⟩ := hg
    obtain ⟨its, rv, p, hz⟩ := I.tuple hq
    obtain ⟨f0, f1, f2, f3, f4, f5⟩ := hf it (by simp)
    have hl := rv.length
    exact enum_endT (I.ok.hd hc) he hit p (by simp; omega) fun h' eb => ⟨rfl, I.turned (t' := s.toks) (fun b o hb q => eb b o hb q) f0 f1 f3 f4 f5⟩
  self := fun A i s Q E st h => let ⟨⟨_, he⟩, _⟩ := st; wpAny_pyIter_enum he h
def iEnumT (K : PySem.W.Frag) (ta : TA) : TI := fun σ H R => ta σ H fun vs H1 => ∃ a xs, vs = [.ref a] ∧ SqT K H1 a xs ∧ R (IteT K a) H1
theorem pi_enumT {X : Cx} {e : Expr} {ta : TA} {p pos tpos : Pos} {elts : List Expr} {kk : Nat} (hg : Gl X "enumerate") (hm : X.mg "enumerate" = none) (ha : PA X [e] ta) (hs : starEach [e] X.env = [(false, eval e X.env)] := by rfl) :
    PI X (.Tuple elts kk tpos) (.Call (.Name "enumerate" p) [e] [] pos) (iEnumT X.K ta) := by
  refine ⟨fun pins s σ H R I h => ?_⟩
  refine Call_ (ld_blt I hg hm boot_enumerate (PyProof.Rows.callWith_type1 (thn (ha.run pos pins s σ H _ I h) fun us s1 ⟨vs, H1, I1, r1, q1⟩ => ?_) hs rfl))
  obtain ⟨a, xs, ex, hq, q⟩ := q1
  subst ex
  cases r1 with
  | cons r rr =>
    cases rr
    cases r
    obtain ⟨its, rv, p', hz⟩ := I1.tuple hq
    have hlt : a < s1.heap.objs.size := by obtain ⟨o, h1, _⟩ := p'; exact Heap.lt_size h1
    refine call_enumT p' fun h' he hit hsz hk => wpAny_pyIter_enum he ?_
    have I2 : Inv X pins σ H1 { s1 with heap := h' } := I1.kept (t' := s1.toks) hk
    refine ⟨s1.heap.objs.size + 1, [s1.heap.objs.size + 1, s1.heap.objs.size], _, _, H1, rfl, I2, turn_enumT a (s1.heap.objs.size + 1) s1.heap.objs.size, ⟨⟨.none, he⟩, hit, Nat.succ_ne_self _, Nat.ne_of_gt (Nat.lt_succ_of_lt hlt), Nat.ne_of_gt hlt⟩, fun b hb => ?_, q⟩
    have e' : b = s1.heap.objs.size + 1 ∨ b = s1.heap.objs.size := by simpa using hb
    have hle : s1.heap.objs.size ≤ b := by
      rcases e' with z | z
      · rw [z]; exact Nat.le_add_right _ _
      · rw [z]; exact Nat.le_refl _
    exact I1.fpOk hle (I1.hok.fresh hle)
end
section
open PySem L2
theorem itOk_enumT {K : PySem.W.Frag} {H : Hp} {ρ : List Addr} {l : List PV} {a : Addr} {xs : List V} (s : SqT K H a xs) (r : Reps K H ρ l xs) : ItOk K H ρ ⟨enumL 0 l, []⟩ (IteT K a) where
  go := fun H1 ρ1 μ1 i p l1 M1 lk hi => by
    obtain ⟨p1, g1, rfl⟩ := enumL_get hi
    have s1 := l1.keep a xs s
    obtain ⟨x, h1, h2⟩ := r.get g1
    refine ⟨⟨xs, x, s1, h1⟩, fun z H' hy => ?_⟩
    obtain ⟨T, x', rfl, hT, rfl, e1⟩ := hy
    have e1 := e1 xs s1
    rw [h1] at e1
    cases e1
    have q := M1.other (ho := .tup [.int (i : Nat), x]) hT
    refine ⟨q.2, q.1, rep_pair q.2 ?_ (Rep.mono l1 _ _ h2)⟩
    rw [Nat.zero_add]
    exact rint
  stop := fun H1 ρ1 μ1 l1 M1 lk => by
    refine ⟨xs, l1.keep a xs s, ?_⟩
    show xs.length ≤ (enumL 0 l).length
    rw [enumL_len, r.length]
    exact Nat.le_refl _
variable {X : Cx} {E : XK} {a : Expr} {fa : Ex} {pos : Pos}
theorem ppi_enum {elts : List Expr} {kk : Nat} {tpos p : Pos} (hm : X.mg "enumerate" = none) (h : PP X E a fa) (hg : Gl X "enumerate" := by rfl) (hs : starEach [a] X.env = [(false, eval a X.env)] := by rfl) :
    PPI X E (.Tuple elts kk tpos) (.Call (.Name "enumerate" p) [a] [] pos) (iEnum fa) :=
  ⟨PI.imp (PI.or (pi_enum hg hm (pa_cons h.pe pa_nil (by rw [hs]; rfl)) hs) (pi_enumT hg hm (pa_cons h.pe pa_nil (by rw [hs]; rfl)) hs)) fun σ H R hh => by
  obtain ⟨env, μ, ρ, eo, M, hh⟩ := hh
  cases z : fa env μ with
  | ok p m =>
    have hz : Post X.K X.mg E (fun H' ρ' z J => ItOk X.K H' ρ' z J) H ρ R (enumOf p m) := by
      unfold iEnum at hh
      rw [z] at hh
      exact hh
    cases p with
    | tup l =>
      refine .inr (pa1 ⟨env, μ, ρ, eo, M, ?_⟩)
      rw [z]
      intro x H1 ρ1 l1 M1 r1
      obtain ⟨a, xs, rfl, k1, k2⟩ := rep_tup r1
      exact ⟨a, xs, rfl, k1, hz (IteT X.K a) H1 ρ1 l1 M1 (itOk_enumT k1 k2)⟩
    | ref n =>
      simp only [enumOf] at hz
      split at hz
      · rename_i l hl
        refine .inl (pa1 ⟨env, μ, ρ, eo, M, ?_⟩)
        rw [z]
        intro x H1 ρ1 l1 M1 r1
        obtain ⟨a, xs, rfl, k1, k2, _⟩ := getL_ref M1 r1 hl
        obtain ⟨b, hb, e⟩ := rep_ref M1 r1
        cases e
        exact ⟨a, xs, rfl, k1, hz (Ite X.K a) H1 ρ1 l1 M1 (itOk_enumL hb)⟩
      · exact hz.elim
    | _ => exact hz.elim
  | exc x m =>
    unfold iEnum at hh
    rw [z] at hh
    exact .inl (pa1 ⟨env, μ, ρ, eo, M, by rw [z]; exact hh⟩)
  | stuck =>
    unfold iEnum at hh
    rw [z] at hh
    exact hh.elim⟩
end
end PL
end
section
set_option autoImplicit false
set_option Elab.async false
set_option linter.all false
set_option maxRecDepth 100000
set_option maxHeartbeats 2000000
/-! Calls with keywords; the law's end. -/
namespace PL
open PySem L2
section
variable {X : Cx} {E : XK} {CX : CXT} {k : Nat} {e : Expr} {es : List Expr} {pos : Pos} {m : Fn} {ps : List Str} {st : Stmt}
/-- the values of keywords -/
structure PPK (X : Cx) (E : XK) (kws : List Keyword) (f : Ag) : Prop where
  pk : PK X kws (tA X.K X.mg E f)
  len : ∀ env μ as μ', f env μ = .ok as μ' → as.length = kws.length
theorem PK.imp {kws : List Keyword} {t t' : TA} (h : PK X kws t) (i : ∀ σ H Q, t' σ H Q → t σ H Q) : PK X kws t' := ⟨fun p pins s σ H Q I q => h.run p pins s σ H Q I (i σ H Q q)⟩
theorem ac_len {fa : Ex} {f : Ag} {n : Nat} (h : ∀ env μ as μ', f env μ = .ok as μ' → as.length = n) : ∀ env μ as μ', ac fa f env μ = .ok as μ' → as.length = n + 1 := fun env μ as μ' e => by
  unfold ac at e
  cases z : fa env μ with
  | ok p m =>
    rw [z, Res.bind_ok] at e
    cases z2 : f env m with
    | ok qs m2 =>
      rw [z2, Res.bind_ok] at e
      cases e
      simp [h _ _ _ _ z2]
    | exc x m2 => rw [z2] at e; cases e
    | stuck => rw [z2] at e; cases e
  | exc x m => rw [z] at e; cases e
  | stuck => rw [z] at e; cases e
theorem ppk_nil : PPK X E [] an := ⟨PK.imp pk_nil fun σ H Q h => by
  obtain ⟨env, μ, ρ, eo, M, h⟩ := h
  exact Post.val (R := RPs X.K) (show Post X.K X.mg E (RPs X.K) H ρ Q (Res.ok [] μ) from h) M .nil, fun env μ as μ' e => by cases e; rfl⟩
theorem ppk_cons {nm : Option Str} {kpos : Pos} {kws : List Keyword} {fa : Ex} {f : Ag} (ha : PP X E e fa) (hr : PPK X E kws f) : PPK X E (⟨nm, e, kpos⟩ :: kws) (ac fa f) := ⟨PK.imp (pk_cons ha.pe hr.pk) fun σ H Q h => by
  obtain ⟨env, μ, ρ, eo, M, h⟩ := h
  exact tE_bind eo M h fun x H1 p m ρ1 _ l1 e1 M1 r1 q1 => tA_bind e1 M1 q1 fun xs H2 qs m2 ρ2 _ l2 e2 M2 r2 q2 =>
    Post.val (R := RPs X.K) (show Post X.K X.mg E (RPs X.K) H2 ρ2 Q (Res.ok (p :: qs) m2) from q2) M2 (.cons (Rep.mono l2 _ _ r1) r2), fun env μ as μ' e => ac_len hr.len env μ as μ' e⟩
theorem perm_reps {K : PySem.W.Frag} {H : Hp} {ρ : List Addr} {l : List PV} {xs : List V} (r : Reps K H ρ l xs) : ∀ is : List Nat, Reps K H ρ (perm is l) (perm is xs)
  | [] => .nil
  | i :: is => by
    have ih := perm_reps r is
    unfold perm at ih ⊢
    cases h : l[i]? with
    | some p =>
      obtain ⟨x, h1, h2⟩ := r.get h
      rw [List.filterMap_cons_some h, List.filterMap_cons_some h1]
      exact .cons h2 ih
    | none =>
      have h1 : xs[i]? = none := by
        rw [List.getElem?_eq_none_iff, r.length]
        exact List.getElem?_eq_none_iff.mp h
      rw [List.filterMap_cons_none h, List.filterMap_cons_none h1]
      exact ih
theorem perm_vals {xs : List V} {us : List Value} (r : Vals xs us) : ∀ is : List Nat, Vals (perm is xs) (perm is us)
  | [] => .nil
  | i :: is => by
    have ih := perm_vals r is
    unfold perm at ih ⊢
    cases h : xs[i]? with
    | some p =>
      obtain ⟨u, h1, h2⟩ := r.get h
      rw [List.filterMap_cons_some h, List.filterMap_cons_some h1]
      exact .cons h2 ih
    | none =>
      rw [List.filterMap_cons_none h, List.filterMap_cons_none (r.none_of h)]
      exact ih
/-- how a call with keywords binds -/
def BdK (x : Str) (st : Stmt) (ps ks : List Str) (n : Nat) (is : List Nat) : Prop := ∀ (qual : Str) (kV doc pm : Value) (an : Option Addr) (cdv ct : Value) (us ws : List Value), us.length = n → ws.length = ks.length →
  bindArgs (PySem.W.fnOf x qual (defArgs st) (defBody st) (defScope st) .none kV doc pm an cdv ct) ⟨us, ks.zip ws⟩ = pure (ps.zip (perm is (us ++ ws)))
theorem pp_callK {x : Str} {g gk : Ag} {p : Pos} {j : Nat} {ks : List Str} {is : List Nat} {kws : List Keyword} (F : FnM X.prog X.w X.K X.mg X.base CX j x st ps m) (B : BdK x st ps ks (e :: es).length is) (hr : Room k X.A) (hj : j ≤ k) (hgd : X.A.guards = some []) (hx : Passes CX X E) (ha : PPA X E (e :: es) g) (hkw : PPK X E kws gk)
    (hl : ∀ l : List PV, l.length = (e :: es).length + kws.length → (perm is l).length = ps.length) (hlk : kws.length = ks.length := by rfl) (hg : Gl X x := by rfl) (hdb : (x == ("__debug__" : Str)) = false := by decide)
    (hall : (backToKw pos (keywordEach kws X.env)).all (·.1.isSome) = true := by rfl) (hks : (backToKw pos (keywordEach kws X.env)).filterMap (·.1) = ks := by rfl)
    (he : starEach (e :: es) X.env = (false, eval e X.env) :: starEach es X.env := by rfl)
    (hpl : ((backTo pos (starEach (e :: es) X.env)).any (·.1) || (backToKw pos (keywordEach kws X.env)).any (·.1.isNone)) = false := by rfl) :
    PP X E (.Call (.Name x p) (e :: es) kws pos) (callK m is g gk) := ⟨⟨fun pins s σ H Q I h => by
  obtain ⟨f, fd, qual, FF, hm, G⟩ := F.ex
  obtain ⟨env, μ, ρ, eo, M, h⟩ := h
  refine wpAny_Call_Name_kw (ld_glob I hg hm ?_ hdb)
  have h1 : tA X.K X.mg E g σ H (fun vs H1 => vs.length = (e :: es).length ∧ tA X.K X.mg E gk σ H1 fun zs H2 => zs.length = ks.length ∧ spP X.K X.mg ps.length m (perm is (vs ++ zs)) H2 Q E) :=
    tA_bind eo M h fun xs H1 as μ1 ρ1 eg l1 e1 M1 r1 q1 => ⟨by rw [r1.length]; exact ha.len _ _ _ _ eg, tA_bind e1 M1 q1 fun ys H2 bs μ2 ρ2 eg2 l2 e2 M2 r2 q2 =>
      ⟨by rw [r2.length, hkw.len _ _ _ _ eg2, hlk], _, μ2, ρ2, hl (as ++ bs) (by rw [List.length_append, ha.len _ _ _ _ eg, hkw.len _ _ _ _ eg2]), M2, perm_reps ((Reps.mono l2 _ _ r1).append r2) is, q2⟩⟩
  refine PySem.W.callWith_KW (h₀ := X.base) I.ok.mod.kin FF.kp hall (thn (ha.pa.run pos pins s σ H _ I h1) fun us s1 ⟨vs, H1, I1, r, hv, q⟩ => ?_) hpl he
  refine thn (hkw.pk.run pos pins s1 σ H1 _ I1 q) fun ws s2 ⟨zs, H2, I2, rz, hz, q2⟩ => ⟨I2.kIn, ?_⟩
  rw [hks]
  obtain ⟨oc, od, kV, doc, pm, an, cdv, ct, osl, rfl, lk, hcd⟩ := FF.ex
  exact call_fnG G (hr.mono hj) hgd (.of_eq (B qual kV doc pm an cdv ct us ws (by rw [← r.length]; exact hv) (by rw [← rz.length]; exact hz))) hx I2 (perm_vals (r.append rz) is) q2⟩⟩
theorem pp_callK0 {x : Str} {gk : Ag} {p : Pos} {j : Nat} {ks : List Str} {is : List Nat} {kws : List Keyword} (F : FnM X.prog X.w X.K X.mg X.base CX j x st ps m) (B : BdK x st ps ks 0 is) (hr : Room k X.A) (hj : j ≤ k) (hgd : X.A.guards = some []) (hx : Passes CX X E) (hkw : PPK X E kws gk)
    (hl : ∀ l : List PV, l.length = kws.length → (perm is l).length = ps.length) (hlk : kws.length = ks.length := by rfl) (hg : Gl X x := by rfl) (hdb : (x == ("__debug__" : Str)) = false := by decide)
    (hall : (backToKw pos (keywordEach kws X.env)).all (·.1.isSome) = true := by rfl) (hks : (backToKw pos (keywordEach kws X.env)).filterMap (·.1) = ks := by rfl)
    (hpl : ((backTo pos (starEach [] X.env)).any (·.1) || (backToKw pos (keywordEach kws X.env)).any (·.1.isNone)) = false := by rfl) :
    PP X E (.Call (.Name x p) [] kws pos) (callK m is an gk) := ⟨⟨fun pins s σ H Q I h => by
  obtain ⟨f, fd, qual, FF, hm, G⟩ := F.ex
  obtain ⟨env, μ, ρ, eo, M, h⟩ := h
  refine wpAny_Call_Name_kw (ld_glob I hg hm ?_ hdb)
  have h1 : tA X.K X.mg E gk σ H (fun zs H2 => zs.length = ks.length ∧ spP X.K X.mg ps.length m (perm is zs) H2 Q E) :=
    tA_bind (k := fun bs μ2 => m (perm is ([] ++ bs)) μ2) eo M h fun ys H2 bs μ2 ρ2 eg2 l2 e2 M2 r2 q2 => ⟨by rw [r2.length, hkw.len _ _ _ _ eg2, hlk], _, μ2, ρ2, hl bs (hkw.len _ _ _ _ eg2), M2, perm_reps r2 is, q2⟩
  refine PySem.W.callWith_KW0 (h₀ := X.base) I.ok.mod.kin FF.kp hall ?_ hpl
  refine thn (hkw.pk.run pos pins s σ H _ I h1) fun ws s2 ⟨zs, H2, I2, rz, hz, q2⟩ => ⟨I2.kIn, ?_⟩
  rw [hks]
  obtain ⟨oc, od, kV, doc, pm, an, cdv, ct, osl, rfl, lk, hcd⟩ := FF.ex
  exact call_fnG G (hr.mono hj) hgd (.of_eq (B qual kV doc pm an cdv ct [] ws rfl (by rw [← rz.length]; exact hz))) hx I2 (perm_vals rz is) q2⟩⟩
end
end PL
end
section
set_option autoImplicit false
set_option Elab.async false
set_option linter.all false
set_option maxRecDepth 100000
set_option maxHeartbeats 2000000
/-! The law's end: from the pure law to the row. -/
namespace PL
open PySem PySem.Spec PyProof.Rows L2
theorem hu65 {A : Around} {k : Nat} (hr : Room k A) : A.units + 65 < cLine := by have := hr.un; omega
theorem hu64 {A : Around} {k : Nat} (hr : Room k A) : A.units + 64 < cLine := by have := hr.un; omega
/-- what the script gives at the law's call -/
structure AtLaw (P : Program) (w : World) (K : PySem.W.Frag) (mg mb : Str → Option Value) (s : Shared) (a : Addr) (vs : List Value) (ns : List Int) : Prop where
  kin : K.In s.heap
  nm : s.heap.Ns mainGlobals mg
  nb : s.heap.Ns builtinsNs mb
  bt : ∀ x : Str, x ≠ "__name__" → mb x = bootBuiltins x
  lim : s.heap.NoLimit
  gens : s.gens = #[]
  obj : s.heap.get? a = some { cls := .type "list", data := .seq vs.toArray }
  vals : IntsAre vs ns
  few : ns.length ≤ sizeLine
/-- an abstract heap in which the script alone may be tracked -/
structure Alone (P : Program) (w : World) (K : PySem.W.Frag) (s : Shared) (a : Addr) (ns : List Int) (H : Hp) : Prop where
  only : Only H
  seq : RoL K H a (ns.map V.int)
  ok : HOk P w H s.heap
  here : ∀ b, H b ≠ none → b = a
  notK : H a ≠ none → K.lookup a = none
theorem AtLaw.alone {P : Program} {w : World} {K : PySem.W.Frag} {mg mb : Str → Option Value} {s : Shared} {a : Addr} {vs : List Value} {ns : List Int} (L : AtLaw P w K mg mb s a vs ns) : ∃ H, Alone P w K s a ns H := by
  have rv := vals_ints L.vals
  cases hk : K.lookup a with
  | some o =>
    have ho : o = { cls := .type "list", data := .seq vs.toArray } := Option.some.inj ((L.kin a o hk).symm.trans L.obj)
    subst ho
    have sq : ∀ H', SqL K H' a (ns.map V.int) := fun H' => Or.inr ⟨_, vs.toArray, _, hk, rfl, rfl, rfl, by rw [List.size_toArray, L.vals.length]; exact L.few, by simpa using rv⟩
    exact ⟨fun _ => none, ⟨fun _ => Or.inl rfl, Or.inr sq, fun b u z => by simp at z, fun b z => absurd rfl z, fun z => absurd rfl z⟩⟩
  | none =>
    let O : HO := .frz { cls := .type "list", data := .seq vs.toArray } (.lst (ns.map V.int))
    have at_a : ∀ b, b = a → (fun b => if b = a then some O else none : Hp) b = some O := fun b e => if_pos e
    have off : ∀ b, b ≠ a → (fun b => if b = a then some O else none : Hp) b = none := fun b e => if_neg e
    refine ⟨fun b => if b = a then some O else none, ⟨fun b => ?_, Or.inl ⟨_, at_a a rfl⟩, fun b u z => ?_, fun b z => ?_, fun _ => hk⟩⟩
    · by_cases e : b = a
      · exact Or.inr ⟨_, _, at_a b e⟩
      · exact Or.inl (off b e)
    · by_cases e : b = a
      · have z2 := (at_a b e).symm.trans z
        cases z2
        subst e
        exact ⟨L.obj, by rw [List.length_map]; exact L.few, vs, _, rv, L.obj⟩
      · have z2 := (off b e).symm.trans z
        cases z2
    · by_cases e : b = a
      · exact e
      · exact absurd (off b e) z
theorem lawG_call {P : Program} {w : World} {K : PySem.W.Frag} {mg mb : Str → Option Value} {k : Nat} {fa a : Addr} {fd : FuncData} {x : Str} {m : Fn} {s : Shared} {vs : List Value} {ns : List Int} (L : AtLaw P w K mg mb s a vs ns) (hr : Room k callerA)
    (F : ∀ base : Heap, K.In base → base.Ns mainGlobals mg → FnG P w K mg base CX0 k fa fd [x] (spP K mg 1 m)) (hbind : ∀ (s : Shared) (u : Value), BindsTo s fd ⟨[u], []⟩ [(x, u)])
    (law : ∃ μ', m [.ref 0] [.ro (ns.map PV.int)] = .ok (.bl true) μ') :
    codeAny (model P w) callerA (.call (.ref fa) ⟨[.ref a], []⟩) (fun r s' => r = .ok (.ret (.bool true)) ∧ OldK s.heap s'.heap ∧ s'.os = s.os ∧ AllBare s'.gens) s := by
  obtain ⟨H, N⟩ := L.alone
  obtain ⟨μ', hlaw⟩ := law
  have keepNs : ∀ {b : Addr} {f : Str → Option Value}, s.heap.Ns b f → (hidT s.heap H).Ns b f := fun {b f} ⟨o, es, ep, e, d, r⟩ => by
    have hb : H b = none := by
      cases q : H b with
      | none => rfl
      | some u =>
        have eb : b = a := N.here b (by simp [q])
        subst eb
        rw [L.obj] at e
        cases e
        cases d
    exact ⟨o, es, ep, hidT_get e hb, d, r⟩
  have kb : K.In (hidT s.heap H) := fun b o e => by
    refine hidT_get (L.kin b o e) ?_
    cases q : H b with
    | none => rfl
    | some u =>
      have eb : b = a := N.here b (by simp [q])
      subst eb
      rw [N.notK (by simp [q])] at e
      cases e
  have hM : Mod K mg (hidT s.heap H) := ⟨kb, keepNs L.nm, ⟨mb, keepNs L.nb, L.bt⟩, let ⟨mc, h1, h2⟩ := L.lim; ⟨mc, keepNs h1, h2⟩⟩
  have e0 : Env0 P w K mg (hidT s.heap H) callerA [] s H :=
    ⟨rfl, hM, fun b o e => of_hidT e, Nat.le_of_eq (hidT_size _ _), trivial, fun b hb => (nomatch (show b ∈ ([] : List Addr) from hb)), N.ok, .of_eq L.gens⟩
  have ints_rep : ∀ l : List Int, Reps K H [a] (l.map PV.int) (l.map V.int) := fun l => by
    induction l with
    | nil => exact .nil
    | cons z l ih => exact .cons rint ih
  have M : MemOk K H [a] [.ro (ns.map PV.int)] := by
    refine ⟨rfl, fun n o b hn hb => ?_, fun n k b o u _ _ ho _ mo _ => ?_⟩
    · have hn0 : n = 0 := by
        have := (List.getElem?_eq_some_iff.mp hn).1
        simpa using this
      subst hn0
      simp only [List.getElem?_cons_zero, Option.some.injEq] at hn hb
      subst hn hb
      exact ⟨ns.map V.int, N.seq, ints_rep ns⟩
    · have hn0 : n = 0 := by
        have := (List.getElem?_eq_some_iff.mp ho).1
        simpa using this
      subst hn0
      simp only [List.getElem?_cons_zero, Option.some.injEq] at ho
      subst ho
      cases mo
  have hsp : spP K mg 1 m [.ref a] H (fun v _ => v = .bl true) (fun _ _ _ => False) := by
    refine ⟨[.ref 0], [.ro (ns.map PV.int)], [a], rfl, M, .cons ?_ .nil, ?_⟩
    · simp only [Rep]
      exact ⟨a, rfl, rfl⟩
    · rw [hlaw]
      intro b H' ρ' l M' r
      exact vbl r
  refine codeAny_mono ((F _ kb (keepNs L.nm)).run callerA [] s H ⟨[.ref a], []⟩ [.ref a] [.ref a] _ _ hr rfl e0 (hbind s (.ref a)) (.cons rfl .nil) hsp) fun r s' h => ?_
  match r, h with
  | .error e, h => exact False.elim h
  | .ok .next, h => exact False.elim h
  | .ok .brk, h => exact False.elim h
  | .ok .cont, h => exact False.elim h
  | .ok (.ret u), h =>
    obtain ⟨v, H', os, bare, un, hok', rv, q⟩ := h
    have qv : v = .bl true := q
    subst qv
    have hu : u = Value.bool true := rv
    subst hu
    refine ⟨rfl, OldK.of_keep fun b o e => ?_, os, bare⟩
    cases q : H b with
    | none => exact un.keep b o e q (fun z => nomatch (show b ∈ ([] : List Addr) from z)) (fun z => nomatch z)
    | some u =>
      rcases N.only b with z | ⟨ob, xs, z⟩
      · rw [q] at z
        cases z
      · have z2 := un.frzs b ob _ z
        have g1 := (N.ok b _ z).1
        have g2 := (hok' b _ z2).1
        rw [e] at g1
        cases g1
        exact g2
/-- the goal that the head leaves -/
theorem walkP {l : PySem.W.OpenLaw} {n k : Nat} {q : Program} {loose : List Str} {XP : (Str → Option Value) → Heap → Prop} {YP : World → Heap → Prop} {d : DefRec} {K : Params → PySem.W.Frag} {x : Str} {st : Stmt} {m : Fn}
    (hn : l.most = some n) (hn2 : n ≤ sizeLine) (hdf : d.params.defaults = []) (hr : Room k callerA)
    (hY : ∀ (w : World) (h : Heap), YP w h → (K w.params).In h)
    (hB : Bd d.name st [x])
    (F : ∀ (w : World) (mg : Str → Option Value) (h base : Heap), (K w.params).In h → h.Ns mainGlobals mg → (K w.params).In base → base.Ns mainGlobals mg → FnM l.prog w (K w.params) mg base CX0 k d.name st [x] m)
    (law : ∀ ns : List Int, ns.length ≤ n → (∀ z ∈ ns, Builtin.Int.intBits z ≤ 1048576) → ∃ μ', m [.ref 0] [.ro (ns.map PV.int)] = .ok (.bl true) μ') :
    PySem.W.WalkO q loose XP YP l.row.toRowW d [] (fun f vs => PySem.call f vs) := by
  refine Att.attach_callB hn hdf fun w s₀ s₁ mg mb fa o pm cd doc a vs ns G Y ho hd hcd hmg hobj hints hlen hbits hg => ?_
  have KX := hY w _ Y
  have L : AtLaw l.prog w (K w.params) mg mb s₁ a vs ns := ⟨KX, G.T.g, G.T.b, G.T.builtins, G.T.nolimit, hg, hobj, hints, Nat.le_trans hlen hn2⟩
  obtain ⟨f0, fd0, qual, FF, hm0, G0⟩ := (F w mg s₁.heap s₁.heap KX G.T.g KX G.T.g).ex
  have ef : f0 = fa := by
    have h1 : (Value.ref f0 : Value) = Value.ref fa := Option.some.inj (hm0.symm.trans hmg)
    injection h1
  subst ef
  obtain ⟨oc, od, kV, doc', pm', an, cdv, ct, osl, rfl, lk, hcd'⟩ := FF.ex
  refine lawG_call L hr (fun base hb1 hb2 => ?_) (fun s u => .of_eq (hB qual kV doc' pm' an cdv ct [u] rfl)) (law ns hlen hbits)
  obtain ⟨f1, fd1, qual1, FF1, hm1, G1⟩ := (F w mg s₁.heap base KX G.T.g hb1 hb2).ex
  have ef : f1 = f0 := by
    have h1 : (Value.ref f1 : Value) = Value.ref f0 := Option.some.inj (hm1.symm.trans hmg)
    injection h1
  subst ef
  obtain ⟨oc1, od1, kV1, doc1, pm1, an1, cdv1, ct1, osl1, e1, lk1, hcd1⟩ := FF1.ex
  have e2 := lk.symm.trans lk1
  injection e2 with e3
  injection e3 with _ _ e4 _
  injection e4 with e5
  rw [e5]
  exact G1
end PL
end
section
set_option autoImplicit false
set_option Elab.async false
set_option linter.all false
set_option maxRecDepth 100000
set_option maxHeartbeats 2000000
/-! More: constants that are tuples, stars in displays, bits, statements that are not followed. -/
namespace PL
open PySem PySem.Spec PyProof.Rows L2
section
variable {K : PySem.W.Frag} {H : Hp} {ρ : List Addr}
/-- values of a constant -/
def KV (K : PySem.W.Frag) (H : Hp) (ρ : List Addr) (l : List PV) (vs : List Value) : Prop := ∃ xs, Vals xs vs ∧ Reps K H ρ l xs
theorem kv_nil : KV K H ρ [] [] := ⟨[], .nil, by simp only [Reps]⟩
theorem kv_cons {p : PV} {x : V} {u : Value} {l : List PV} {vs : List Value} (r : RelV x u) (h : Rep K H ρ p x) (t : KV K H ρ l vs) : KV K H ρ (p :: l) (u :: vs) := by
  obtain ⟨xs, h1, h2⟩ := t
  exact ⟨x :: xs, .cons r h1, .cons h h2⟩
theorem kv_int {i : Int} {t : Tok} {l : List PV} {vs : List Value} (h : KV K H ρ l vs) : KV K H ρ (.int i :: l) (.int i t :: vs) := kv_cons (x := .int i) ⟨t, rfl⟩ rint h
theorem kv_str {i : Str} {t : Tok} {l : List PV} {vs : List Value} (h : KV K H ρ l vs) : KV K H ρ (.str i :: l) (.str i t :: vs) := kv_cons (x := .str i) ⟨t, rfl⟩ rstr h
theorem kv_non {l : List PV} {vs : List Value} (h : KV K H ρ l vs) : KV K H ρ (.non :: l) (.none :: vs) := kv_cons (x := .non) rfl rnon h
theorem kv_bl {i : Bool} {l : List PV} {vs : List Value} (h : KV K H ρ l vs) : KV K H ρ (.bl i :: l) (.bool i :: vs) := kv_cons (x := .bl i) rfl rbl h
theorem kv_ref {p : PV} {a : Addr} {l : List PV} {vs : List Value} (r : Rep K H ρ p (.ref a)) (h : KV K H ρ l vs) : KV K H ρ (p :: l) (.ref a :: vs) := kv_cons (x := .ref a) rfl r h
theorem rep_ktup {a : Addr} {d : Option Addr} {its : Array Value} {n : Nat} {sl : Array (Option Value)} {l : List PV} (q : K.lookup a = some ⟨.type "tuple", d, .seq its n, sl⟩) (hz : its.size ≤ sizeLine) (hv : KV K H ρ l its.toList) : Rep K H ρ (.tup l) (.ref a) := by
  obtain ⟨xs, h1, h2⟩ := hv
  simp only [Rep]
  exact ⟨a, xs, rfl, .inr ⟨_, its, n, q, rfl, rfl, hz, h1⟩, h2⟩
end
section
variable {X : Cx} {E : XK} {a : Expr} {es : List Expr} {fa : Ex} {pos : Pos}
theorem pps_stuck {st : Stmt} : PPs X E st stuckS := ⟨⟨fun pins s σ H D I h => by
  obtain ⟨env, μ, ρ, _, _, h⟩ := h
  exact h.elim⟩⟩
/-- what a display lists, stars among it -/
structure PPAs (X : Cx) (E : XK) (es : List Expr) (f : Ag) : Prop where
  pa : PA X es (tA X.K X.mg E f)
theorem PPA.s {f : Ag} (h : PPA X E es f) : PPAs X E es f := ⟨h.pa⟩
theorem ppas_nil : PPAs X E [] an := PPA.s ppa_nil
theorem ppas_cons {f : Ag} (ha : PP X E a fa) (hr : PPAs X E es f) (hs : starEach (a :: es) X.env = (false, eval a X.env) :: starEach es X.env := by rfl) : PPAs X E (a :: es) (ac fa f) := ⟨by
  refine PA.imp (pa_cons ha.pe hr.pa hs) fun σ H Q h => ?_
  obtain ⟨env, μ, ρ, eo, M, h⟩ := h
  exact tE_bind eo M h fun x H1 p m ρ1 _ l1 e1 M1 r1 q1 => tA_bind e1 M1 q1 fun xs H2 ps m2 ρ2 _ l2 e2 M2 r2 q2 =>
    Post.val (R := RPs X.K) (show Post X.K X.mg E (RPs X.K) H2 ρ2 Q (Res.ok (p :: ps) m2) from q2) M2 (.cons (Rep.mono l2 _ _ r1) r2)⟩
theorem ppas_star {f : Ag} {p : Pos} (ha : PP X E a fa) (hr : PPAs X E es f) (hs : starEach (.Starred a p :: es) X.env = (true, eval a X.env) :: starEach es X.env := by rfl) : PPAs X E (.Starred a p :: es) (acs fa f) := ⟨by
  refine PA.imp (StX.pa_star ha.pe hr.pa hs) fun σ H Q h => ?_
  obtain ⟨env, μ, ρ, eo, M, h⟩ := h
  refine tE_bind eo M h fun x H1 p m ρ1 _ l1 e1 M1 r1 q1 => ?_
  cases p with
  | tup l =>
    obtain ⟨b, xs, rfl, k1, k2⟩ := rep_tup r1
    refine ⟨b, xs, rfl, .inl k1, tA_bind e1 M1 q1 fun ys H2 ps m2 ρ2 _ l2 e2 M2 r2 q2 => ?_⟩
    exact Post.val (R := RPs X.K) (show Post X.K X.mg E (RPs X.K) H2 ρ2 (fun ys H2 => Q ys H2) (Res.ok (l ++ ps) m2) from q2) M2 ((Reps.mono l2 _ _ k2).append r2)
  | ref n =>
    simp only at q1
    split at q1
    · rename_i l e
      obtain ⟨b, xs, g1, rfl, g3, g4⟩ := mem_lst M1 r1 e
      refine ⟨b, xs, rfl, .inr (SqL.of g3), tA_bind e1 M1 q1 fun ys H2 ps m2 ρ2 _ l2 e2 M2 r2 q2 => ?_⟩
      exact Post.val (R := RPs X.K) (show Post X.K X.mg E (RPs X.K) H2 ρ2 (fun ys H2 => Q ys H2) (Res.ok (l ++ ps) m2) from q2) M2 ((Reps.mono l2 _ _ g4).append r2)
    · exact q1.elim
  | _ => exact q1.elim⟩
theorem pp_tupS {f : Ag} {k : Nat} (h : PPAs X E es f) : PP X E (.Tuple es k pos) (app fTup f) := ⟨by
  refine PE.imp (pe_tup h.pa) fun σ H Q h => ?_
  obtain ⟨env, μ, ρ, eo, M, h⟩ := h
  refine tA_bind eo M h fun xs H1 ps m ρ1 _ l1 e1 M1 r1 q1 => ?_
  unfold fTup at q1
  split at q1
  · rename_i hz
    exact ⟨by rw [SL_eq, r1.length]; exact hz, q1.newT M1 r1⟩
  · exact q1.elim⟩
theorem pp_lstS {f : Ag} (h : PPAs X E es f) : PP X E (.List es pos) (app fLst f) := ⟨by
  refine PE.imp (pe_lst h.pa) fun σ H Q h => ?_
  obtain ⟨env, μ, ρ, eo, M, h⟩ := h
  refine tA_bind eo M h fun xs H1 ps m ρ1 _ l1 e1 M1 r1 q1 => ?_
  unfold fLst at q1
  split at q1
  · rename_i hz
    exact ⟨by rw [SL_eq, r1.length]; exact hz, q1.newL M1 r1⟩
  · exact q1.elim⟩
theorem opP_shl : OpR X (binaryOp .LShift) (rP2 X.K X.mg E fShl) := by
  intro pins s σ H x y v u Q I rx ry h
  obtain ⟨μ, ρ, p, q, M, hp, hq, h⟩ := h
  cases p <;> cases q <;> first | exact h.elim | skip
  rename_i i j
  obtain rfl := vint hp
  obtain rfl := vint hq
  simp only [fShl] at h
  split at h
  · rename_i hz
    exact op_shlW pins s σ H _ _ v u Q I rx ry ⟨i, j, rfl, rfl, hz, h.val M rint⟩
  · exact h.elim
theorem opP_shr : OpR X (binaryOp .RShift) (rP2 X.K X.mg E fShr) := by
  intro pins s σ H x y v u Q I rx ry h
  obtain ⟨μ, ρ, p, q, M, hp, hq, h⟩ := h
  cases p <;> cases q <;> first | exact h.elim | skip
  rename_i i j
  obtain rfl := vint hp
  obtain rfl := vint hq
  simp only [fShr] at h
  split at h
  · rename_i hz
    exact op_shr pins s σ H _ _ v u Q I rx ry ⟨i, j, rfl, rfl, hz, h.val M rint⟩
  · exact h.elim
theorem opP_band : OpR X (binaryOp .BitAnd) (rP2 X.K X.mg E fBAnd) := by
  intro pins s σ H x y v u Q I rx ry h
  obtain ⟨μ, ρ, p, q, M, hp, hq, h⟩ := h
  cases p <;> cases q <;> first | exact h.elim | skip
  rename_i i j
  obtain rfl := vint hp
  obtain rfl := vint hq
  exact op_and pins s σ H _ _ v u Q I rx ry ⟨i, j, rfl, rfl, Post.val (R := RP X.K) (show Post X.K X.mg E (RP X.K) H ρ Q (Res.ok (.int (Builtin.bitAnd i j)) μ) from h) M rint⟩
theorem opP_bor : OpR X (binaryOp .BitOr) (rP2 X.K X.mg E fBOr) := by
  intro pins s σ H x y v u Q I rx ry h
  obtain ⟨μ, ρ, p, q, M, hp, hq, h⟩ := h
  cases p <;> cases q <;> first | exact h.elim | skip
  rename_i i j
  obtain rfl := vint hp
  obtain rfl := vint hq
  exact op_or pins s σ H _ _ v u Q I rx ry ⟨i, j, rfl, rfl, Post.val (R := RP X.K) (show Post X.K X.mg E (RP X.K) H ρ Q (Res.ok (.int (Builtin.bitOr i j)) μ) from h) M rint⟩
theorem opP_bxor : OpR X (binaryOp .BitXor) (rP2 X.K X.mg E fBXor) := by
  intro pins s σ H x y v u Q I rx ry h
  obtain ⟨μ, ρ, p, q, M, hp, hq, h⟩ := h
  cases p <;> cases q <;> first | exact h.elim | skip
  rename_i i j
  obtain rfl := vint hp
  obtain rfl := vint hq
  exact op_xor pins s σ H _ _ v u Q I rx ry ⟨i, j, rfl, rfl, Post.val (R := RP X.K) (show Post X.K X.mg E (RP X.K) H ρ Q (Res.ok (.int (Builtin.bitXor i j)) μ) from h) M rint⟩
end
end PL
end
section
set_option autoImplicit false
set_option Elab.async false
set_option linter.all false
set_option maxRecDepth 100000
set_option maxHeartbeats 2000000
/-! range(a, b) of ends of any size. -/
namespace PL
open PySem PySem.Spec PyProof.Rows L2
theorem turn_longrange {P : Program} {w : World} {K : PySem.W.Frag} {tg : Expr} (it : Addr) (lo : Int) (n : Nat) : Turn P w K tg (Itr lo n) [it] it (fun i h => IsLongIter h it (lo + (i : Nat) * 1) ((n : Int) - (i : Nat)) 1) where
  mem := by simp
  obj := fun i h st b hb => by
    have e : b = it := by simpa using hb
    subst e
    exact ⟨_, st, fun v z => by
      have z' : Data.fields _ = Data.cell v := z
      cases z'⟩
  keep := fun i h h' st k => k it (by simp) _ st
  item := by
    intro X hP hw hK hc i pins s σ H E I hf st hg
    subst hP hw hK
    obtain ⟨f0, f1, f2, f3, f4, f5⟩ := hf it (by simp)
    have W := Walks.longrange (prog := X.prog) (w := X.w) (I.ok.hd hc) it lo 1 n
    refine W.item i s _ _ hg st fun v h' tk hv st' kk => ?_
    obtain ⟨t, rfl⟩ := hv
    have I1 : Inv X pins σ H { s with heap := h', toks := tk } := I.turned (fun b o hb e => kk b o (by simpa using hb) e) f0 f1 f3 f4 f5
    refine ⟨_, rfl, go_of (s := { s with heap := h', toks := tk }) (n := "longrange_iterator") st' rfl rfl (by decide) ⟨.int (lo + i), H, I1, ⟨t, ?_⟩, ⟨rfl, rfl⟩, st', fun b hb => (hf b hb).1⟩⟩
    rw [Int.mul_one]
  done := by
    intro X hP hw hK hc i pins s σ H E I hf st hg
    subst hP hw hK
    obtain ⟨f0, f1, f2, f3, f4, f5⟩ := hf it (by simp)
    exact wpAny_pyNext_long_end (I.ok.hd hc) st (by have : n ≤ i := hg; omega) fun h' eb => ⟨rfl, I.turned (t' := s.toks) (fun b o hb e => eb b o hb e) f0 f1 f3 f4 f5⟩
  self := fun _ _ _ _ _ st h => wpAny_pyIter_longiter st h
section
variable {X : Cx} {tg : Expr}
theorem range_itW {pins : List (Addr × Obj)} {σ : L2.St} {H : Hp} {s : Shared} {R : L2.It → Hp → Prop} {E : Value → Shared → Prop} {lo hi : Int} {t u v : Tok} {tk : Nat} (I : Inv X pins σ H s)
    (q : R (Itr lo (hi - lo).toNat) H) : wpAny (model X.prog X.w) X.A (pyIter (.ref s.heap.objs.size)) (PIE X pins σ tg R) E { s with heap := s.heap.push { cls := .type "range", data := .fields #[.int lo t, .int hi u, .int 1 v] }, toks := tk } := by
  have I1 : Inv X pins σ H { s with heap := s.heap.push { cls := .type "range", data := .fields #[.int lo t, .int hi u, .int 1 v] }, toks := tk } := I.kept fun b o e => Heap.get?_push_of_some _ e
  by_cases hs : Builtin.Range.small lo hi 1 = true
  · refine wpAny_pyIter_range (IsRange.new ..) hs ?_
    refine ⟨(s.heap.push { cls := .type "range", data := .fields #[.int lo t, .int hi u, .int 1 v] }).objs.size, [(s.heap.push { cls := .type "range", data := .fields #[.int lo t, .int hi u, .int 1 v] }).objs.size], _, _, H, rfl,
      I1.kept (t' := tk) fun b o e => Heap.get?_push_of_some _ e, turn_range _ lo (hi - lo).toNat, ?_, fun b hb => ?_, q⟩
    · have e1 : lo + ((0 : Nat) : Int) * 1 = lo := by simp
      have e2 : (((hi - lo).toNat : Nat) : Int) - ((0 : Nat) : Int) = Builtin.Range.rangeSize lo hi 1 := by rw [rangeSize_one]; split <;> omega
      show IsRangeIter _ _ (lo + ((0 : Nat) : Int) * 1) ((((hi - lo).toNat : Nat) : Int) - ((0 : Nat) : Int)) 1
      rw [e1, e2]
      exact Heap.get?_push_size _ rfl
    · have e : b = (s.heap.push { cls := .type "range", data := .fields #[.int lo t, .int hi u, .int 1 v] }).objs.size := by simpa using hb
      subst e
      exact I1.fpOk (Nat.le_refl _) (I1.hok.fresh (Nat.le_refl _))
  · refine wpAny_pyIter_longrange (IsRange.new ..) (by simpa using hs) ?_
    refine ⟨(s.heap.push { cls := .type "range", data := .fields #[.int lo t, .int hi u, .int 1 v] }).objs.size, [(s.heap.push { cls := .type "range", data := .fields #[.int lo t, .int hi u, .int 1 v] }).objs.size], _, _, H, rfl,
      I1.kept (t' := tk) fun b o e => Heap.get?_push_of_some _ e, turn_longrange _ lo (hi - lo).toNat, ?_, fun b hb => ?_, q⟩
    · have e1 : lo + ((0 : Nat) : Int) * 1 = lo := by simp
      have e2 : (((hi - lo).toNat : Nat) : Int) - ((0 : Nat) : Int) = Builtin.Range.rangeSize lo hi 1 := by rw [rangeSize_one]; split <;> omega
      show IsLongIter _ _ (lo + ((0 : Nat) : Int) * 1) ((((hi - lo).toNat : Nat) : Int) - ((0 : Nat) : Int)) 1
      rw [e1, e2]
      exact Heap.get?_push_size _ rfl
    · have e : b = (s.heap.push { cls := .type "range", data := .fields #[.int lo t, .int hi u, .int 1 v] }).objs.size := by simpa using hb
      subst e
      exact I1.fpOk (Nat.le_refl _) (I1.hok.fresh (Nat.le_refl _))
def wRng2 (ta : TA) : TI := fun σ H R => ta σ H fun vs H1 => ∃ i j : Int, vs = [.int i, .int j] ∧ R (Itr i (j - i).toNat) H1
theorem pi_range2W {a b : Expr} {ta : TA} {p pos : Pos} (hg : Gl X "range") (hm : X.mg "range" = none) (ha : PA X [a, b] ta) (hs : starEach [a, b] X.env = [(false, eval a X.env), (false, eval b X.env)] := by rfl) (hs2 : starEach [b] X.env = [(false, eval b X.env)] := by rfl) :
    PI X tg (.Call (.Name "range" p) [a, b] [] pos) (wRng2 ta) := by
  refine ⟨fun pins s σ H R I h => ?_⟩
  refine Call_ (ld_blt I hg hm boot_range (PyProof.Rows.callWith_type1 (thn (ha.run pos pins s σ H _ I h) fun us s1 ⟨vs, H1, I1, r1, q1⟩ => ?_) (by rw [hs, hs2]) (by rw [hs2]; rfl)))
  obtain ⟨i, j, e, q⟩ := q1
  subst e
  cases r1 with
  | cons r rr =>
    cases rr with
    | cons r' rr =>
      cases rr
      obtain ⟨t, rfl⟩ := r
      obtain ⟨t', rfl⟩ := r'
      exact call_range_2 (range_itW I1 q)
end
section
variable {X : Cx} {E : XK} {a b tg : Expr} {fa fb : Ex}
theorem ppi_rng2w {p pos : Pos} (hm : X.mg "range" = none) (h : PP X E a fa) (h' : PP X E b fb) (hg : Gl X "range" := by rfl) (hs : starEach [a, b] X.env = [(false, eval a X.env), (false, eval b X.env)] := by rfl) (hs2 : starEach [b] X.env = [(false, eval b X.env)] := by rfl) :
    PPI X E tg (.Call (.Name "range" p) [a, b] [] pos) (iRng2w fa fb) := ⟨PI.imp (pi_range2W (tg := tg) hg hm (pa_cons h.pe (pa_cons h'.pe pa_nil (by rw [hs2]; rfl)) (by rw [hs, hs2])) hs hs2) fun σ H R hh => by
  obtain ⟨env, μ, ρ, eo, M, hh⟩ := hh
  refine tE_bind eo M hh fun x H1 p m ρ1 _ l1 e1 M1 r1 q1 => tE_bind e1 M1 q1 fun y H2 q m2 ρ2 _ l2 e2 M2 r2 q2 => ?_
  cases p with
  | int i =>
    cases q with
    | int j =>
      obtain rfl := vint r1
      obtain rfl := vint r2
      exact ⟨i, j, rfl, q2 (Itr i (j - i).toNat) H2 ρ2 (.refl _ _ _) M2 (itOk_rng i _)⟩
    | _ => exact q2.elim
  | _ => cases q <;> exact q2.elim⟩
end
end PL
end
section
set_option autoImplicit false
set_option Elab.async false
set_option linter.all false
set_option maxRecDepth 100000
set_option maxHeartbeats 2000000
/-! list.index of data. -/
namespace PL
open PySem PySem.Spec PyProof.Rows L2
section
variable {X : Cx} {E : XK} {e : Expr} {es : List Expr} {pos : Pos}
theorem mtP_index (hu : X.A.units + 65 < cLine) : MtR X "list.index" (rPm X.K X.mg E fIndex) := by
  intro pins s σ H x xs v us Q I rx rxs h
  obtain ⟨μ, ρ, p, ps, M, hp, hps, h⟩ := h
  cases p with
  | ref n =>
    match ps, hps with
    | [q], hps =>
      obtain ⟨y, rfl, r⟩ := reps1 hps
      simp only [fIndex] at h
      split at h
      · rename_i d es e3 e4
        split at h
        · rename_i hz
          split at h
          · rename_i j hj
            have D1 := dp_toD M e4 hp
            have D2 := dp_toD M e3 r
            obtain ⟨hjl, hj1, hj2⟩ := List.findIdx?_eq_some_iff_getElem.mp hj
            obtain ⟨a, rfl⟩ : ∃ a, x = .ref a := by
              simp only [Rep] at hp
              first
                | exact ⟨_, hp.2⟩
                | (obtain ⟨a, _, rfl⟩ := hp; exact ⟨a, rfl⟩)
                | (obtain ⟨a, rfl, _⟩ := hp; exact ⟨a, rfl⟩)
            refine mt_indexD hu pins s σ H _ _ v us Q I rx rxs ⟨a, y, d, es, j, es[j], rfl, rfl, D1, D2, hz.2, hz.1, List.getElem?_eq_getElem hjl, hj1, ?_, h.val M rint⟩
            intro k z' hk hz'
            have hkl := (List.getElem?_eq_some_iff.mp hz').1
            have := hj2 k hk
            have e5 := (List.getElem?_eq_some_iff.mp hz').2
            rw [← e5]
            simpa using this
          · exact h.elim
        · exact h.elim
      · exact h.elim
    | [], _ => exact h.elim
    | _ :: _ :: _, _ => exact h.elim
  | _ => exact h.elim
theorem pp_index {o : Expr} {fo : Ex} {g : Ag} {apos : Pos} (hu : X.A.units + 65 < cLine) (ho : PP X E o fo) (ha : PPA X E (e :: es) g) (hbase : attributeBase o "index" X.env (eval o X.env) = eval o X.env := by rfl)
    (hfew : ((backTo pos (starEach (e :: es) X.env)).all (fun x => !x.1) && (backToKw pos (keywordEach [] X.env)).all (fun x => x.1.isSome)
      && decide ((e :: es).length + ([] : List Keyword).length + (if ([] : List Keyword).isEmpty then 0 else 1) < 30)) = true := by rfl)
    (hline : (apos.endLine == pos.line) = true := by rfl) (hs : starEach (e :: es) X.env = (false, eval e X.env) :: starEach es X.env := by rfl) (hplain : (backTo pos (starEach es X.env)).any (·.1) = false := by rfl) :
    PP X E (.Call (.Attribute o "index" apos) (e :: es) [] pos) (mth .list fIndex fo g) :=
  pp_bm (k := .list) PySem.F.plainAttrs_list PySem.F.slot_list_index PySem.F.type_list_index (mtP_index hu) ho ha hbase hfew hline hs hplain
end
end PL
end
section
set_option autoImplicit false
set_option Elab.async false
set_option linter.all false
/-! is True, is False. -/
namespace PL
open PySem PySem.Spec PyProof.Rows L2
section
variable {X : Cx} {E : XK}
theorem cmpP_isB : OpR X (compareOp .Is) (rP2 X.K X.mg E fIsB) := by
  intro pins s σ H x y v u Q I rx ry h
  obtain ⟨μ, ρ, p, q, M, hp, hq, h⟩ := h
  cases p <;> first | exact h.elim | skip
  rename_i a
  cases q <;> first | exact h.elim | skip
  rename_i b
  obtain rfl := vbl hp
  obtain rfl := vbl hq
  have e : fIsB [.bl a, .bl b] μ = .ok (.bl (decide (a = b))) μ := rfl
  rw [e] at h
  exact op_isBl pins s σ H _ _ v u Q I rx ry ⟨a, b, rfl, rfl, h.val M rbl⟩
theorem cmpP_notB : OpR X (compareOp .IsNot) (rP2 X.K X.mg E fNotB) := by
  intro pins s σ H x y v u Q I rx ry h
  obtain ⟨μ, ρ, p, q, M, hp, hq, h⟩ := h
  cases p <;> first | exact h.elim | skip
  rename_i a
  cases q <;> first | exact h.elim | skip
  rename_i b
  obtain rfl := vbl hp
  obtain rfl := vbl hq
  have e : fNotB [.bl a, .bl b] μ = .ok (.bl (!decide (a = b))) μ := rfl
  rw [e] at h
  exact op_notBl pins s σ H _ _ v u Q I rx ry ⟨a, b, rfl, rfl, h.val M rbl⟩
end
end PL
end
section
set_option autoImplicit false
set_option Elab.async false
set_option linter.all false
set_option maxRecDepth 100000
set_option maxHeartbeats 2000000
/-! Dicts with keys numbers and texts. -/
namespace PL
open PySem PySem.Spec PyProof.Rows L2
section
variable {K : PySem.W.Frag} {H : Hp} {ρ : List Addr}
theorem RepK.nil : RepK K H ρ [] [] := rfl
theorem RepK.cons_iff {p : DK × PV} {ps : KVs} {zs : List (Key × V)} : RepK K H ρ (p :: ps) zs ↔ ∃ y ys, zs = (p.1, y) :: ys ∧ Rep K H ρ p.2 y ∧ RepK K H ρ ps ys := Iff.rfl
theorem RepK.length : ∀ {kvs : KVs} {xs : List (Key × V)}, RepK K H ρ kvs xs → xs.length = kvs.length
  | [], xs, h => by have h' : xs = [] := h; subst h'; rfl
  | p :: ps, xs, h => by
    obtain ⟨y, ys, rfl, _, t⟩ := h
    simp [RepK.length t]
theorem RepK.val (k : DK) : ∀ {kvs : KVs} {xs : List (Key × V)}, RepK K H ρ kvs xs → (valD kvs k = none ∧ valV xs k = none) ∨ ∃ p x, valD kvs k = some p ∧ valV xs k = some x ∧ Rep K H ρ p x
  | [], xs, h => by have h' : xs = [] := h; subst h'; exact .inl ⟨rfl, rfl⟩
  | p :: ps, xs, h => by
    obtain ⟨y, ys, rfl, r, t⟩ := h
    by_cases e : p.1 = k
    · refine .inr ⟨p.2, y, by simp [valD, e], valV_pos (p := (p.1, y)) e, r⟩
    · have e1 : valD (p :: ps) k = valD ps k := by simp [valD, e]
      have e2 : valV ((p.1, y) :: ys) k = valV ys k := valV_neg (p := (p.1, y)) e
      rw [e1, e2]
      exact RepK.val k t
theorem RepK.any (k : DK) {kvs : KVs} {xs : List (Key × V)} (h : RepK K H ρ kvs xs) : (kvs.any fun kv => decide (kv.1 = k)) = xs.any fun kv => decide (kv.1 = k) := by
  induction kvs generalizing xs with
  | nil => have h' : xs = [] := h; subst h'; rfl
  | cons p ps ih =>
    obtain ⟨y, ys, rfl, r, t⟩ := h
    rw [List.any_cons, List.any_cons, ih t]
theorem RepK.map (k : DK) {q : PV} {y : V} (hq : Rep K H ρ q y) : ∀ {kvs : KVs} {xs : List (Key × V)}, RepK K H ρ kvs xs → RepK K H ρ (kvs.map fun kv => if kv.1 = k then (kv.1, q) else kv) (xs.map fun kv => if kv.1 = k then (kv.1, y) else kv)
  | [], xs, h => by have h' : xs = [] := h; subst h'; rfl
  | p :: ps, xs, h => by
    obtain ⟨z, ys, rfl, r, t⟩ := h
    by_cases e : p.1 = k
    · simp only [List.map_cons, e, if_true]
      exact ⟨y, _, rfl, hq, RepK.map k hq t⟩
    · simp only [List.map_cons, e, if_false]
      exact ⟨z, _, rfl, r, RepK.map k hq t⟩
theorem RepK.snoc {k : DK} {q : PV} {y : V} (hq : Rep K H ρ q y) : ∀ {kvs : KVs} {xs : List (Key × V)}, RepK K H ρ kvs xs → RepK K H ρ (kvs ++ [(k, q)]) (xs ++ [(k, y)])
  | [], xs, h => by have h' : xs = [] := h; subst h'; exact ⟨y, [], rfl, hq, rfl⟩
  | p :: ps, xs, h => by
    obtain ⟨z, ys, rfl, r, t⟩ := h
    exact ⟨z, _, rfl, r, RepK.snoc hq t⟩
theorem RepK.put {k : DK} {q : PV} {y : V} (hq : Rep K H ρ q y) {kvs : KVs} {xs : List (Key × V)} (h : RepK K H ρ kvs xs) : RepK K H ρ (putD kvs k q) (putK xs k y) := by
  unfold putD putK
  rw [h.any k]
  split
  · exact h.map k hq
  · exact h.snoc hq
theorem RepK.merge : ∀ {more : KVs} {ms : List (Key × V)} {kvs : KVs} {xs : List (Key × V)}, RepK K H ρ more ms → RepK K H ρ kvs xs → RepK K H ρ (mergeD kvs more) (mergeK xs ms)
  | [], ms, kvs, xs, h, t => by have h' : ms = [] := h; subst h'; exact t
  | p :: ps, ms, kvs, xs, h, t => by
    obtain ⟨y, ys, rfl, r, u⟩ := h
    have q := RepK.merge (more := ps) (ms := ys) u (t.put (k := p.1) r)
    exact q
theorem key_of' {q : PV} {k : DK} {y : V} (e : keyOf q = some k) (r : Rep K H ρ q y) : y = kV k := by
  cases q <;> simp only [keyOf, Option.some.injEq, reduceCtorEq] at e
  · subst e; exact vint r
  · subst e; exact vstr r
theorem dct_of {μ : Mem} {p : PV} {kvs : KVs} {x : V} (M : MemOk K H ρ μ) (e : dctAt μ p = some kvs) (r : Rep K H ρ p x) : ∃ n a xs, p = .ref n ∧ μ[n]? = some (.dct kvs) ∧ ρ[n]? = some a ∧ x = .ref a ∧ H a = some (.dK xs) ∧ RepK K H ρ kvs xs := by
  cases p <;> simp only [dctAt, reduceCtorEq] at e
  rename_i n
  split at e
  · rename_i kvs' e2
    cases e
    obtain ⟨a, h1, h2⟩ := rep_ref M r
    obtain ⟨xs, h3, h4⟩ := M.at' n _ a e2 h1
    exact ⟨n, a, xs, rfl, e2, h1, h2, h3, h4⟩
  · cases e
end
section
variable {X : Cx} {E : XK} {o i e : Expr} {fo fi fe : Ex} {pos pos' : Pos}
theorem pp_dget (hu : X.A.units + 1 < cLine) (ho : PP X E o fo) (hi : PP X E i fi) (hs : NoSl i := by intro _ _; rfl) : PP X E (.Subscript o i pos) (app2 fDGet fo fi) := ⟨by
  refine PE.imp (pe_dget hu ho.pe hi.pe hs) fun σ H Q h => ?_
  obtain ⟨env, μ, ρ, eo, M, h⟩ := h
  refine tE_bind eo M h fun x H1 p m ρ1 _ l1 e1 M1 r1 q1 => tE_bind e1 M1 q1 fun y H2 q m2 ρ2 _ l2 e2 M2 r2 q2 => ?_
  simp only [fDGet] at q2
  split at q2
  · rename_i kvs k h1 h2
    obtain ⟨n, a, xs, rfl, g1, g2, g3, g4, g5⟩ := dct_of M2 h1 (Rep.mono l2 _ _ r1)
    subst g3
    rcases g5.val k with ⟨z1, z2⟩ | ⟨p', x', z1, z2, z3⟩
    · rw [z1] at q2; exact q2.elim
    · rw [z1] at q2
      refine ⟨a, x', rfl, ?_, q2.val M2 z3⟩
      rw [key_of' h2 r2, ← z2]
      exact DGet.k g4
  · exact q2.elim⟩
theorem pps_dput (hu : X.A.units + 1 < cLine) (ho : PP X E o fo) (hi : PP X E i fi) (he : PP X E e fe) (hs : swapsWith e (some (.Subscript o i pos')) pos.line X.env = pure false := by rfl) :
    PPs X E (.Assign [.Subscript o i pos'] e pos) (dput fo fi fe) := ⟨by
  refine PS.imp (ps_dput hu ho.pe hi.pe he.pe hs) fun D σ H h => ?_
  obtain ⟨env, μ, ρ, eo, M, h⟩ := h
  have step : ∀ {f : Ex} {k : PV → Mem → Out} {H ρ env μ}, EnvOk X.K H ρ env σ → MemOk X.K H ρ μ → PostS X.K X.mg E H ρ D (.of (f env μ) k) → ∀ {Q : VK}, (∀ x H1 p m ρ1, Lat X.K H ρ H1 ρ1 → EnvOk X.K H1 ρ1 env σ → MemOk X.K H1 ρ1 m → Rep X.K H1 ρ1 p x → PostS X.K X.mg E H1 ρ1 D (k p m) → Q x H1) → tE X.K X.mg E f σ H Q :=
    fun {f k H ρ env μ} eo M h {Q} i => ⟨env, μ, ρ, eo, M, (PostS.of (R := RP X.K) h).imp fun x H1 ⟨p, m, ρ1, e, l, M1, r, q⟩ => i x H1 p m ρ1 l (eo.mono l) M1 r q⟩
  refine step (f := fe) eo M h fun v H1 p m ρ1 l1 e1 M1 r1 q1 => step (f := fo) e1 M1 q1 fun x H2 px m2 ρ2 l2 e2 M2 r2 q2 => step (f := fi) e2 M2 q2 fun y H3 py m3 ρ3 l3 e3 M3 r3 q3 => ?_
  have rx := Rep.mono l3 _ _ r2
  have rv := Rep.mono (l2.trans l3) _ _ r1
  cases px with
  | ref n =>
    simp only [fDPut] at q3
    split at q3
    · rename_i kvs k h1 h2
      split at q3
      · rename_i hz
        obtain ⟨n', a, xs, en, g1, g2, g3, g4, g5⟩ := dct_of (p := .ref n) (kvs := kvs) M3 (by simp only [dctAt, h1]) rx
        cases en
        subst g3
        have hl : xs.length < sizeLine := by rw [g5.length, SL_eq]; exact hz
        refine ⟨a, _, rfl, by rw [key_of' h2 r3]; exact DPut.k g4 hl, ?_⟩
        have L0 : Lat X.K H3 ρ3 (upd H3 a (.dK (putK xs k v))) ρ3 := ⟨⟨[], by simp⟩, .upd (fun xs q => by rw [g4] at q; cases q) fun ob xs q => by rw [g4] at q; cases q⟩
        have w := M3.set (ho := .dK (putK xs k v)) (u := .dct (putD kvs k p)) h1 g2 rfl ⟨_, upd_same, RepK.mono L0 _ _ (g5.put rv)⟩
        have q4 : PostS X.K X.mg E H3 ρ3 D (.nx env (m3.set n (.dct (putD kvs k p)))) := q3
        exact q4 σ _ ρ3 w.2 w.1 (e3.mono w.2)
      · exact q3.elim
    · exact q3.elim
  | _ => exact q3.elim⟩
theorem pp_dnew : PP X E (.Dict [] [] pos) dnew := ⟨by
  refine PE.imp pe_dnewK fun σ H Q h => ?_
  obtain ⟨env, μ, ρ, eo, M, h⟩ := h
  intro p hp
  have q := M.push (ho := .dK []) (o := .dct []) hp fun H' ρ' L e => ⟨[], e, rfl⟩
  have h' : Post X.K X.mg E (RP X.K) H ρ Q (.ok (.ref μ.length) (μ ++ [.dct []])) := h
  refine h' (.ref p) _ _ q.2 q.1 ?_
  show Rep X.K _ _ (.ref μ.length) (.ref p)
  simp only [Rep]
  exact ⟨p, by rw [← M.len, List.getElem?_append_right (Nat.le_refl _)]; simp, rfl⟩⟩
/-- pairs of a display -/
def RPP (K : PySem.W.Frag) (H : Hp) (ρ : List Addr) : List (PV × PV) → List (V × V) → Prop
  | [], xs => xs = []
  | p :: ps, xs => ∃ x y ys, xs = (x, y) :: ys ∧ Rep K H ρ p.1 x ∧ Rep K H ρ p.2 y ∧ RPP K H ρ ps ys
theorem RPP.mono {K : PySem.W.Frag} {H H' : Hp} {ρ ρ' : List Addr} (l : Lat K H ρ H' ρ') : ∀ (ps : List (PV × PV)) (xs : List (V × V)), RPP K H ρ ps xs → RPP K H' ρ' ps xs
  | [], _, h => h
  | p :: ps, xs, h => by
    obtain ⟨x, y, ys, e, r1, r2, t⟩ := h
    exact ⟨x, y, ys, e, Rep.mono l _ _ r1, Rep.mono l _ _ r2, RPP.mono l ps ys t⟩
structure PPP (X : Cx) (E : XK) (pos : Pos) (ks : List (Option Expr)) (vs : List Expr) (f : Ap) : Prop where
  ex : ∃ trs, L2.PPs X pos ks vs trs ∧ ∀ σ H (Q : List (V × V) → Hp → Prop), (∃ env μ ρ, EnvOk X.K H ρ env σ ∧ MemOk X.K H ρ μ ∧ Post X.K X.mg E (RPP X.K) H ρ Q (f env μ)) → tPairs trs σ H Q
theorem ppp_nil : PPP X E pos [] [] dn := ⟨[], L2.pps_nil, fun σ H Q ⟨env, μ, ρ, eo, M, h⟩ => Post.val (R := RPP X.K) (show Post X.K X.mg E (RPP X.K) H ρ Q (Res.ok [] μ) from h) M rfl⟩
theorem ppp_cons {k v : Expr} {fk fv : Ex} {ks : List (Option Expr)} {vs : List Expr} {f : Ap} (hk : PP X E k fk) (hv : PP X E v fv) (hr : PPP X E pos ks vs f) : PPP X E pos (some k :: ks) (v :: vs) (dc fk fv f) := by
  obtain ⟨trs, h1, h2⟩ := hr.ex
  refine ⟨(tE X.K X.mg E fk, tE X.K X.mg E fv) :: trs, L2.pps_cons hk.pe hv.pe h1, fun σ H Q ⟨env, μ, ρ, eo, M, h⟩ => ?_⟩
  refine tE_bind (fa := fk) eo M h fun x H1 p m ρ1 _ l1 e1 M1 r1 q1 => tE_bind (fa := fv) e1 M1 q1 fun y H2 q m2 ρ2 _ l2 e2 M2 r2 q2 => h2 σ H2 _ ⟨env, m2, ρ2, e2, M2, ?_⟩
  refine (Post.bind (R := RPP X.K) q2).imp fun ps H3 ⟨qs, m3, ρ3, _, l3, M3, r3, q3⟩ => ?_
  exact Post.val (R := RPP X.K) (show Post X.K X.mg E (RPP X.K) H3 ρ3 Q (Res.ok ((p, q) :: qs) m3) from q3) M3 ⟨x, y, ps, rfl, Rep.mono (l2.trans l3) _ _ r1, Rep.mono l3 _ _ r2, r3⟩
theorem keys_rep {K : PySem.W.Frag} {H : Hp} {ρ : List Addr} : ∀ {ps : List (PV × PV)} {kvs : KVs} {xs : List (V × V)}, keysOf ps = some kvs → RPP K H ρ ps xs → ∃ ks : List (Key × V), xs = ks.map (fun kv => (kV kv.1, kv.2)) ∧ RepK K H ρ kvs ks
  | [], kvs, xs, e, h => by
    simp only [keysOf, Option.some.injEq] at e
    subst e
    have h' : xs = [] := h
    subst h'
    exact ⟨[], rfl, rfl⟩
  | p :: ps, kvs, xs, e, h => by
    obtain ⟨x, y, ys, rfl, r1, r2, t⟩ := h
    simp only [keysOf] at e
    split at e
    · rename_i k ks h1 h2
      cases e
      obtain ⟨zs, rfl, hz⟩ := keys_rep h2 t
      exact ⟨(k, y) :: zs, by rw [key_of' h1 r1]; rfl, y, zs, rfl, r2, hz⟩
    · cases e
theorem pp_disp {ks : List (Option Expr)} {vs : List Expr} {f : Ap} (h : PPP X E pos ks vs f) (hall : ks.all (·.isSome) = true := by rfl) (hl : ks.length = vs.length := by rfl) (h0 : ks ≠ [] := by exact fun h => nomatch h) (h15 : ks.length ≤ 15 := by decide) :
    PP X E (.Dict ks vs pos) (dsp f) := by
  obtain ⟨trs, h1, h2⟩ := h.ex
  refine ⟨PE.imp (pe_disp h1 hall hl h0 h15) fun σ H Q hq => ?_⟩
  obtain ⟨env, μ, ρ, eo, M, hq⟩ := hq
  intro p hp
  have q := M.push (ho := .dK []) (o := .dct []) hp fun H' ρ' L e => ⟨[], e, rfl⟩
  have hq' : Post X.K X.mg E (RP X.K) H ρ Q ((f env (μ ++ [.dct []])).bind fun ps μ1 => dfin μ.length ps μ1) := hq
  refine h2 σ _ _ ⟨env, μ ++ [.dct []], ρ ++ [p], eo.mono q.2, q.1, ?_⟩
  refine (Post.bind (R := RPP X.K) (hq'.later q.2)).imp fun ps H3 ⟨qs, m3, ρ3, _, l3, M3, r3, q3⟩ => ?_
  unfold dfin at q3
  split at q3
  · rename_i kvs e1 e2
    split at q3
    · rename_i hz
      have hp1 : (ρ ++ [p])[μ.length]? = some p := by rw [← M.len, List.getElem?_append_right (Nat.le_refl _)]; simp
      have hp3 := l3.get hp1
      obtain ⟨xs, k1, k2⟩ := M3.at' _ _ p e1 hp3
      have k3 : xs = [] := k2
      subst k3
      obtain ⟨zs, rfl, hzs⟩ := keys_rep e2 r3
      refine ⟨k1, zs, rfl, by rw [hzs.length]; exact hz, ?_⟩
      have L0 : Lat X.K H3 ρ3 (upd H3 p (.dK (mergeK [] zs))) ρ3 := ⟨⟨[], by simp⟩, .upd (fun xs q => by rw [k1] at q; cases q) fun ob xs q => by rw [k1] at q; cases q⟩
      have w := M3.set (ho := .dK (mergeK [] zs)) (u := .dct (mergeD [] kvs)) e1 hp3 rfl ⟨_, upd_same, RepK.mono L0 _ _ (hzs.merge (kvs := []) (xs := []) rfl)⟩
      refine q3 (.ref p) _ _ w.2 w.1 ?_
      show Rep X.K _ _ (.ref μ.length) (.ref p)
      simp only [Rep]
      exact ⟨p, hp3, rfl⟩
    · exact q3.elim
  · exact q3.elim
theorem din_read {f : Fn} {g : Bool → Bool} (hf : ∀ q d μ, f [q, d] μ = match dctAt μ d, keyOf q with
    | some kvs, some k => .ok (.bl (g (valD kvs k).isSome)) μ
    | _, _ => .stuck) {K : PySem.W.Frag} {mg : Str → Option Value} {σ : L2.St} {H : Hp} {Q : VK} (h : tE K mg E (app2 f fi fo) σ H Q) :
    tE K mg E fi σ H fun y H1 => tE K mg E fo σ H1 fun x H2 => ∃ a o, x = .ref a ∧ DGet H2 a y o ∧ Q (.bl (g o.isSome)) H2 := by
  obtain ⟨env, μ, ρ, eo, M, h⟩ := h
  refine tE_bind eo M h fun y H1 p m ρ1 _ l1 e1 M1 r1 q1 => tE_bind e1 M1 q1 fun x H2 q m2 ρ2 _ l2 e2 M2 r2 q2 => ?_
  rw [hf] at q2
  split at q2
  · rename_i kvs k h1 h2
    obtain ⟨n, a, xs, rfl, g1, g2, g3, g4, g5⟩ := dct_of M2 h1 r2
    subst g3
    have hk := key_of' h2 (Rep.mono l2 _ _ r1)
    refine ⟨a, valV xs k, rfl, by rw [hk]; exact DGet.k g4, ?_⟩
    have es : (valV xs k).isSome = (valD kvs k).isSome := by
      rcases g5.val k with ⟨z1, z2⟩ | ⟨p', x', z1, z2, z3⟩
      · rw [z1, z2]; rfl
      · rw [z1, z2]; rfl
    rw [es]
    exact Post.val (R := RP K) q2 M2 rbl
  · exact q2.elim
theorem pp_din (hu : X.A.units + 1 < cLine) (hi : PP X E i fi) (ho : PP X E o fo) (hm : behindInMarks .In o = false := by first | rfl | with_unfolding_all rfl) : PP X E (.Compare i [.In] [o] pos) (app2 fDIn fi fo) :=
  ⟨PE.imp (pe_cmp (pc_din hu hi.pe ho.pe) hm) fun σ H Q h => din_read (g := id) (fun _ _ _ => rfl) h⟩
theorem pp_dnotin (hu : X.A.units + 1 < cLine) (hi : PP X E i fi) (ho : PP X E o fo) (hm : behindInMarks .NotIn o = false := by first | rfl | with_unfolding_all rfl) : PP X E (.Compare i [.NotIn] [o] pos) (app2 fDNotIn fi fo) :=
  ⟨PE.imp (pe_cmp (pc_dnotin hu hi.pe ho.pe) hm) fun σ H Q h => din_read (g := fun b => !b) (fun _ _ _ => rfl) h⟩
theorem tB_read {f : Ex} {K : PySem.W.Frag} {mg : Str → Option Value} {σ : L2.St} {H : Hp} {Q : Bool → Hp → Prop} {t : TE} (i : ∀ Q, tE K mg E f σ H Q → t σ H Q) (h : tT K mg E f σ H Q) : tB t σ H Q := i _ (tE_test h)
theorem ppt_din (hu : X.A.units + 1 < cLine) (hi : PP X E i fi) (ho : PP X E o fo) (hm : behindInMarks .In o = false := by first | rfl | with_unfolding_all rfl) : PPT X E (.Compare i [.In] [o] pos) (app2 fDIn fi fo) :=
  ⟨PT.imp (pt_cmp (pc_din hu hi.pe ho.pe) hm) fun σ H Q h => tB_read (fun Q h => din_read (g := id) (fun _ _ _ => rfl) h) h⟩
theorem ppt_dnotin (hu : X.A.units + 1 < cLine) (hi : PP X E i fi) (ho : PP X E o fo) (hm : behindInMarks .NotIn o = false := by first | rfl | with_unfolding_all rfl) : PPT X E (.Compare i [.NotIn] [o] pos) (app2 fDNotIn fi fo) :=
  ⟨PT.imp (pt_cmp (pc_dnotin hu hi.pe ho.pe) hm) fun σ H Q h => tB_read (fun Q h => din_read (g := fun b => !b) (fun _ _ _ => rfl) h) h⟩
end
theorem hu1 {n : Nat} (h : n + 64 < cLine) : n + 1 < cLine := by omega
end PL
end
section
set_option autoImplicit false
set_option Elab.async false
set_option linter.all false
set_option maxRecDepth 100000
set_option maxHeartbeats 4000000
/-! A tuple so many times, also none, once, of nothing. -/
namespace PL
open PySem PySem.Spec PyProof.Rows L2
theorem tuple_mul_same (l : Addr) (items : Array Value) (n : Nat) (dd : Option Addr) (sl : Array (Option Value)) (x : Int) (u : Tok) (k0 : (decide (x < -(2 ^ 63)) || decide (x ≥ 2 ^ 63)) = false) (k1 : (items.isEmpty || x == 1) = true) :
    Meets (Builtin.«tuple.__mul__» ⟨[.ref l, .int x u], []⟩) (fun _ R s => s.heap.get? l = some { cls := .type "tuple", dict := dd, data := .seq items n, slots := sl } ∧
      R (.ok (.ret (Value.ref l))) s) :=
  .of_wp fun prog w A R s h => by
    obtain ⟨hp, gs, dr, tk, os⟩ := s; obtain ⟨hat, h⟩ := h; have f1 := AutoSeq1.idx_int
    wp_walk using wpAny_loadPart' hat
    repeat (first
      | (refine wpAny_ite_false (decide_eq_false (by rw [k0]; exact Bool.false_ne_true)) ?_; wp_walk using wpAny_loadPart' hat)
      | (refine wpAny_ite_true (decide_eq_true k1) ?_; wp_walk using wpAny_loadPart' hat))
    exact ⟨_, rfl, h⟩
theorem tuple_mul_none (l : Addr) (items : Array Value) (n : Nat) (dd : Option Addr) (sl : Array (Option Value)) (x : Int) (u : Tok) (k0 : (decide (x < -(2 ^ 63)) || decide (x ≥ 2 ^ 63)) = false) (k1 : (items.isEmpty || x == 1) = false) (k2 : (decide (x ≤ 0) || items.isEmpty) = true) :
    Meets (Builtin.«tuple.__mul__» ⟨[.ref l, .int x u], []⟩) (fun _ R s => s.heap.get? l = some { cls := .type "tuple", dict := dd, data := .seq items n, slots := sl } ∧
      R (.ok (.ret (Value.ref s.heap.objs.size))) { s with heap := s.heap.push { cls := Value.type "tuple", data := Data.seq #[] }, toks := s.toks }) :=
  .of_wp fun prog w A R s h => by
    obtain ⟨hp, gs, dr, tk, os⟩ := s; obtain ⟨hat, h⟩ := h; have f1 := AutoSeq1.idx_int
    wp_walk using wpAny_loadPart' hat
    repeat (first
      | (refine wpAny_ite_false (decide_eq_false (by rw [k0]; exact Bool.false_ne_true)) ?_; wp_walk using wpAny_loadPart' hat)
      | (refine wpAny_ite_false (decide_eq_false (by rw [k1]; exact Bool.false_ne_true)) ?_; wp_walk using wpAny_loadPart' hat)
      | (refine wpAny_ite_true (decide_eq_true k2) ?_; wp_walk using wpAny_loadPart' hat))
    exact ⟨_, rfl, h⟩
section
variable {X : Cx} {E : XK}
theorem opP_mulT : OpR X (binaryOp .Mult) (rP2 X.K X.mg E fMulT) := by
  intro pins s σ H x y v u Q I rx ry h
  obtain ⟨μ, ρ, p, q, M, hp, hq, h⟩ := h
  cases p <;> cases q <;> first | exact h.elim | skip
  rename_i l j
  obtain rfl := vint hq
  obtain ⟨a, xs, rfl, h1, h2⟩ := rep_tup hp
  simp only [fMulT] at h
  split at h
  · rename_i hz
    obtain ⟨z1, z2, z3⟩ := hz
    by_cases cA : xs ≠ [] ∧ 2 ≤ j
    · exact op_repT pins s σ H _ _ v u Q I rx ry ⟨a, j, xs, rfl, rfl, h1, cA.1, cA.2, z2, by rw [h2.length]; exact z3, h.newT M (h2.rep _)⟩
    · cases rx
      obtain ⟨t, rfl⟩ := ry
      obtain ⟨its, r, ⟨⟨cls, dd, data, sl⟩, ho, hc, n, hd⟩, hs⟩ := I.tuple h1
      simp only at hc hd
      subst hc hd
      have k0 : (decide (j < -(2 ^ 63)) || decide (j ≥ 2 ^ 63)) = false := by
        rw [decide_eq_false (by omega), decide_eq_false (by omega)] <;> rfl
      have hle : its.length = xs.length := r.length.symm
      by_cases k1 : (its.toArray.isEmpty || j == 1) = true
      · refine wpAny_binaryOp_repeat_ref (T := "tuple") (U := "int") (by decide) ⟨_, ho, rfl⟩ (fun s' => typeIs_int s' j t) noFill_tuple_mul F.fills_int_mul F.slot_int_rmul repeat_tuple F.slot_int_index.lookup
          (call_meets F.slot_int_rmul (typeIs_int s j t) F.entry_int_rmul (F.args_int_rmul_2 _ _) (int_rmul_tuple j t a its.toArray n dd sl)
            ⟨ho, rfl, ⟨_, ho, rfl⟩, call_meets F.slot_tuple_mul ⟨_, ho, rfl⟩ F.entry_tuple_mul (F.args_tuple_mul_2 _ _) (tuple_mul_same a its.toArray n dd sl j t k0 k1) ⟨ho, ?_⟩⟩)
        refine ⟨.ref a, H, I, rfl, h.val M ?_⟩
        show Rep X.K H ρ (.tup (List.replicate j.toNat l).flatten) (.ref a)
        simp only [Rep]
        refine ⟨a, xs, rfl, h1, ?_⟩
        have el : (List.replicate j.toNat l).flatten = l := by
          rcases Bool.or_eq_true _ _ ▸ k1 with c | c
          · have e0 : its = [] := by
              cases its with
              | nil => rfl
              | cons a b => cases c
            have e1 : l = [] := List.eq_nil_of_length_eq_zero (by rw [← h2.length, ← hle, e0]; rfl)
            subst e1
            induction j.toNat with
            | zero => rfl
            | succ k ih => rw [List.replicate_succ, List.flatten_cons, ih]; rfl
          · have : j = 1 := by simpa using c
            subst this
            simp
        rw [el]; exact h2
      · have k1n : (its.toArray.isEmpty || j == 1) = false := by simpa using k1
        have hne : its ≠ [] := by
          intro e; subst e; simp at k1n
        have hj : j ≤ 0 := by
          have : j ≠ 1 := by
            intro e; subst e; simp at k1n
          by_cases c3 : 2 ≤ j
          · exact absurd ⟨fun e => hne (List.eq_nil_of_length_eq_zero (by rw [hle, e]; rfl)), c3⟩ cA
          · omega
        have k2 : (decide (j ≤ 0) || its.toArray.isEmpty) = true := by rw [decide_eq_true hj]; rfl
        refine wpAny_binaryOp_repeat_ref (T := "tuple") (U := "int") (by decide) ⟨_, ho, rfl⟩ (fun s' => typeIs_int s' j t) noFill_tuple_mul F.fills_int_mul F.slot_int_rmul repeat_tuple F.slot_int_index.lookup
          (call_meets F.slot_int_rmul (typeIs_int s j t) F.entry_int_rmul (F.args_int_rmul_2 _ _) (int_rmul_tuple j t a its.toArray n dd sl)
            ⟨ho, rfl, ⟨_, ho, rfl⟩, call_meets F.slot_tuple_mul ⟨_, ho, rfl⟩ F.entry_tuple_mul (F.args_tuple_mul_2 _ _) (tuple_mul_none a its.toArray n dd sl j t k0 k1n k2) ⟨ho, ?_⟩⟩)
        have e0 : (List.replicate j.toNat l).flatten = [] := by
          have : j.toNat = 0 := by omega
          rw [this]; rfl
        rw [e0] at h
        refine ⟨.ref s.heap.objs.size, _, I.laid (t' := s.toks) (o := .tup []) (fun b ob q => Heap.get?_push_of_some _ q) (Nat.le_refl _) ?_, rfl, h.newT M (xs := []) (by simp only [Reps]) _ (I.hok.fresh (Nat.le_refl _))⟩
        exact ⟨Nat.zero_le _, [], .nil, IsTup.new _ _⟩
  · exact h.elim
end
end PL
end
section
set_option autoImplicit false
set_option Elab.async false
set_option linter.all false
set_option maxRecDepth 100000
set_option maxHeartbeats 4000000
/-! `or` of values. -/
namespace PL
open PySem PySem.Spec PyProof.Rows L2
section
variable {X : Cx} {E : XK} {a b : Expr} {fa fb : Ex} {rest : List Expr} {pos : Pos}
theorem pp_orV (ha : PP X E a fa) (hb : PP X E (.BoolOp .Or (b :: rest) pos) fb) : PP X E (.BoolOp .Or (a :: b :: rest) pos) (orV fa fb) := ⟨by
  refine PE.imp (pe_orT ha.pe hb.pe) fun σ H Q h => ?_
  obtain ⟨env, μ, ρ, eo, M, h⟩ := h
  exact tE_bind eo M h fun x H1 p m ρ1 _ l1 e1 M1 r1 q1 => by
    cases p with
    | non =>
      obtain rfl := vnon r1
      exact ⟨false, rfl, by simpa using ⟨env, m, ρ1, e1, M1, q1⟩⟩
    | bl t =>
      obtain rfl := vbl r1
      cases t with
      | false => exact ⟨false, rfl, by simpa using ⟨env, m, ρ1, e1, M1, q1⟩⟩
      | true => exact ⟨true, rfl, by simpa using Post.val q1 M1 r1⟩
    | int i =>
      obtain rfl := vint r1
      by_cases hi : (i != 0) = true
      · refine ⟨true, hi.symm, ?_⟩
        simp only [truP, hi] at q1
        simpa using Post.val q1 M1 r1
      · have hi' : (i != 0) = false := by simpa using hi
        refine ⟨false, hi'.symm, ?_⟩
        simp only [truP, hi'] at q1
        simpa using ⟨env, m, ρ1, e1, M1, q1⟩
    | _ => exact q1.elim⟩
end
end PL
end
section
set_option autoImplicit false
set_option Elab.async false
set_option linter.all false
set_option maxRecDepth 100000
set_option maxHeartbeats 4000000
/-! divmod of great numbers; sorted of numbers. -/
namespace PL
open PySem PySem.Spec PyProof.Rows L2
section
variable {X : Cx} {E : XK}
theorem crP_divmod : CallR X (.builtin "divmod") (rPn X.K X.mg E fDivmodW) := by
  intro pins s σ H xs us Q I rs h
  obtain ⟨μ, ρ, ps, M, hp, h⟩ := h
  match ps, hp with
  | [p, q], hp =>
    cases p with
    | int i =>
      cases q with
      | int j =>
        obtain ⟨x, y, rfl, r1, r2⟩ := reps2 hp
        obtain rfl := vint r1
        obtain rfl := vint r2
        simp only [fDivmodW] at h
        split at h
        · rename_i hc
          have b := PyProof.Rows.intBits_le hc.2
          refine call_divmodW pins s σ H _ us Q I rs ⟨i, j, rfl, divp_ok hc.1 (by omega), h.newT M ?_⟩
          exact ⟨_, _, rfl, rint, _, _, rfl, rint, rfl⟩
        · exact h.elim
      | _ => exact h.elim
    | _ => exact h.elim
  | [], _ => exact h.elim
  | [p], _ => cases p <;> exact h.elim
  | p :: q :: _ :: _, _ => cases p <;> cases q <;> exact h.elim
theorem reps_ints {K : PySem.W.Frag} {H : Hp} {ρ : List Addr} : ∀ l : List Int, Reps K H ρ (l.map PV.int) (l.map V.int)
  | [] => rfl
  | i :: l => ⟨_, _, rfl, rint, reps_ints l⟩
theorem crP_sorted : CallR X (.builtin "sorted") (rPn X.K X.mg E fSorted) := by
  intro pins s σ H xs us Q I rs h
  obtain ⟨μ, ρ, ps, M, hp, h⟩ := h
  match ps, hp with
  | [.ref n], hp =>
    obtain ⟨x, rfl, r⟩ := reps1 hp
    simp only [fSorted] at h
    split at h
    · rename_i is e
      cases e2 : getL μ (.ref n) with
      | none => rw [e2] at e; simp at e
      | some l =>
        rw [e2] at e
        obtain ⟨a, ys, rfl, k1, k2, _⟩ := getL_ref M r e2
        obtain rfl := intsOf_map (show intsOf l = some is from e) k2
        refine cr_sortedI pins s σ H _ us Q I rs ⟨a, is, rfl, k1, fun ns' p hper hasc hn => ?_⟩
        have e3 : ns' = sortI is := asc_uniq (hper.trans (sortI_perm is).symm) hasc (sortI_asc is)
        rw [e3]
        exact h.newL M (reps_ints _) p hn
    · exact h.elim
  | [], _ => exact h.elim
  | p :: _ :: _, _ => cases p <;> exact h.elim
theorem isTrue_ite {t a b : Expr} {pos : Pos} {env : PySem.Env} {whole : Sem Value} {M : Model} {A : Around} {D : Value → Shared → Prop} {s : Shared} {Q : Bool → Shared → Prop}
    (h : wpAny M A (isTrue t env (eval t env)) (fun d s₁ => if d = true then wpAny M A (isTrue a env (eval a env)) Q D s₁ else wpAny M A (isTrue b env (eval b env)) Q D s₁) D s) : wpAny M A (isTrue (.IfExp t a b pos) env whole) Q D s := by
  have e : isTrue (.IfExp t a b pos) env whole = (do if ← isTrue t env (eval t env) then isTrue a env (eval a env) else isTrue b env (eval b env)) := rfl
  rw [e]
  refine wpAny_bind (wpAny_mono h (fun d s₁ h₁ => ?_) fun _ _ x => x)
  cases d <;> exact h₁
def tIfT (t ta tb : TT) : TT := fun σ H Q => t σ H fun d H1 => if d = true then ta σ H1 Q else tb σ H1 Q
theorem pt_ifExp {t a b : Expr} {pos : Pos} {tt ta tb : TT} (ht : PT X t tt) (ha : PT X a ta) (hb : PT X b tb) : PT X (.IfExp t a b pos) (tIfT tt ta tb) := by
  refine ⟨fun pins s σ H Q I h => ?_⟩
  refine isTrue_ite (thn (ht.run pins s σ H _ I h) fun d s1 ⟨H1, I1, q1⟩ => ?_)
  cases d with
  | true => exact ha.run pins s1 σ H1 Q I1 q1
  | false => exact hb.run pins s1 σ H1 Q I1 q1
theorem ite_asB (fe fa fb : Ex) (env : PL.Env) (μ : Mem) : (PL.ite fe fa fb env μ).bind asB = (fe env μ).bind fun p m => onB p ((fa env m).bind asB) ((fb env m).bind asB) := by
  unfold PL.ite
  cases fe env μ with
  | ok p m => cases p with
    | bl t => cases t <;> rfl
    | _ => rfl
  | _ => rfl
theorem ppt_ite {t a b : Expr} {pos : Pos} {ft fa fb : Ex} (ht : PPT X E t ft) (ha : PPT X E a fa) (hb : PPT X E b fb) : PPT X E (.IfExp t a b pos) (PL.ite ft fa fb) := ⟨by
  refine PT.imp (pt_ifExp ht.pt ha.pt hb.pt) fun σ H Q h => ?_
  obtain ⟨env, μ, ρ, eo, M, h⟩ := h
  rw [ite_asB] at h
  exact tT_bind (k1 := fun m => (fa env m).bind asB) (k2 := fun m => (fb env m).bind asB) eo M h fun t H1 m ρ1 _ l1 e1 M1 q1 => by
    cases t with
    | true => exact ⟨env, m, ρ1, e1, M1, q1⟩
    | false => exact ⟨env, m, ρ1, e1, M1, q1⟩⟩
end
end PL
end
section
set_option autoImplicit false
/-! How pure bodies are run: rewriting rules. -/
namespace PL
open PySem
section
variable (env : Env) (μ : Mem)
@[simp] theorem c_ev (p : PV) : c p env μ = .ok p μ := id rfl
@[simp] theorem an_ev : an env μ = .ok [] μ := id rfl
@[simp] theorem ac_ev (a : Ex) (r : Ag) : ac a r env μ = (a env μ).bind fun p μ1 => (r env μ1).bind fun ps μ2 => .ok (p :: ps) μ2 := id rfl
@[simp] theorem acs_ev (a : Ex) (r : Ag) : acs a r env μ = (a env μ).bind fun p μ1 => match p with
  | .tup l => (r env μ1).bind fun ps μ2 => .ok (l ++ ps) μ2
  | .ref n => match μ1[n]? with | some (.lst l) => (r env μ1).bind fun ps μ2 => .ok (l ++ ps) μ2 | _ => .stuck
  | _ => .stuck := id rfl
@[simp] theorem stuckS_ev : stuckS env μ = .stuck := id rfl
@[simp] theorem app_ev (f : Fn) (as : Ag) : app f as env μ = (as env μ).bind fun ps μ1 => f ps μ1 := id rfl
@[simp] theorem app1_ev (f : Fn) (a : Ex) : app1 f a env μ = (a env μ).bind fun p μ1 => f [p] μ1 := id rfl
@[simp] theorem app2_ev (f : Fn) (a b : Ex) : app2 f a b env μ = (a env μ).bind fun p μ1 => (b env μ1).bind fun q μ2 => f [p, q] μ2 := id rfl
@[simp] theorem mth_ev (k : Kd) (f : Fn) (o : Ex) (g : Ag) : mth k f o g env μ = (o env μ).bind fun p μ1 => if isKd k μ1 p = true then (g env μ1).bind fun ps μ2 => f (p :: ps) μ2 else .stuck := id rfl
@[simp] theorem ite_ev (t a b : Ex) : ite t a b env μ = (t env μ).bind fun p μ1 => onB p (a env μ1) (b env μ1) := id rfl
@[simp] theorem and_ev (a b : Ex) : PL.and a b env μ = (a env μ).bind fun p μ1 => onB p (b env μ1) (.ok (.bl false) μ1) := id rfl
@[simp] theorem or_ev (a b : Ex) : PL.or a b env μ = (a env μ).bind fun p μ1 => onB p (.ok (.bl true) μ1) (b env μ1) := id rfl
@[simp] theorem chain_ev (f g : Fn) (a b d : Ex) : chain f g a b d env μ = (a env μ).bind fun p μ1 => (b env μ1).bind fun q μ2 => (f [p, q] μ2).bind fun t μ3 =>
  onB t ((d env μ3).bind fun r μ4 => g [q, r] μ4) (.ok (.bl false) μ3) := id rfl
@[simp] theorem sl_ev (a lo hi : Ex) : sl a lo hi env μ = (a env μ).bind fun p μ1 => ((lo env μ1).bind onPart).bind fun ql μ2 => ((hi env μ2).bind onPart).bind fun qh μ3 => fSl [p, ql, qh] μ3 := id rfl
@[simp] theorem callK_ev (m : Fn) (is : List Nat) (g gk : Ag) : callK m is g gk env μ = (g env μ).bind fun as μ1 => (gk env μ1).bind fun bs μ2 => m (perm is (as ++ bs)) μ2 := id rfl
@[simp] theorem tn_ev (i : Nat) (p : PV) : tn i p env μ = .ok (env.set i (some p)) μ := id rfl
@[simp] theorem t0_ev : t0 [] env μ = .ok env μ := id rfl
@[simp] theorem tc_ev (g : Tg) (r : Tgs) (p : PV) (qs : List PV) : tc g r (p :: qs) env μ = (g p env μ).bind fun e μ1 => r qs e μ1 := id rfl
@[simp] theorem tt_ev (n : Nat) (r : Tgs) (l : List PV) : tt n r (.tup l) env μ = if l.length = n then r l env μ else .stuck := id rfl
@[simp] theorem tt_ref (n : Nat) (r : Tgs) (k : Nat) : tt n r (.ref k) env μ = (match μ[k]? with | some (.lst l) => if l.length = n then r l env μ else .stuck | _ => .stuck) := id rfl
@[simp] theorem tsub_ev (f : Fn) (o i : Ex) (p : PV) : tsub f o i p env μ = (o env μ).bind fun x μ1 => (i env μ1).bind fun y μ2 => (f [x, y, p] μ2).bind fun _ μ3 => .ok env μ3 := id rfl
@[simp] theorem skip_ev : skip env μ = .nx env μ := id rfl
@[simp] theorem brk_ev : brk env μ = .bk env μ := id rfl
@[simp] theorem cnt_ev : cnt env μ = .ct env μ := id rfl
@[simp] theorem seq_ev (a b : Sm) : seq a b env μ = (a env μ).then b := id rfl
@[simp] theorem exp_ev (e : Ex) : PL.exp e env μ = .of (e env μ) fun _ μ1 => .nx env μ1 := id rfl
@[simp] theorem ret_ev (e : Ex) : ret e env μ = .of (e env μ) fun p μ1 => .rt p μ1 := id rfl
@[simp] theorem cond_ev (t : Ex) (a b : Sm) : PL.cond t a b env μ = .of (t env μ) fun p μ1 => onS p (a env μ1) (b env μ1) := id rfl
@[simp] theorem asg_ev (g : Tg) (e : Ex) : asg g e env μ = .of (e env μ) fun p μ1 => .of (g p env μ1) fun e2 μ2 => .nx e2 μ2 := id rfl
@[simp] theorem setv_ev (i : Nat) (e : Ex) : setv i e env μ = .of (e env μ) fun p μ1 => .nx (env.set i (some p)) μ1 := id rfl
@[simp] theorem par_ev (i j : Nat) (a b : Ex) : par i j a b env μ = .of (a env μ) fun p μ1 => .of (b env μ1) fun q μ2 => .nx ((env.set i (some p)).set j (some q)) μ2 := id rfl
@[simp] theorem par3_ev (i j k : Nat) (a b d : Ex) : par3 i j k a b d env μ = .of (a env μ) fun p μ1 => .of (b env μ1) fun q μ2 => .of (d env μ2) fun r μ3 => .nx (((env.set i (some p)).set j (some q)).set k (some r)) μ3 := id rfl
@[simp] theorem forS_ev (it : It) (g : Tg) (body : Sm) : forS it g body env μ = .of (it env μ) fun z μ1 => forN z.lk g body z.items env μ1 := id rfl
@[simp] theorem whileS_ev (t : Ex) (body : Sm) : whileS t body env μ = whileN t body fuel env μ := id rfl
@[simp] theorem iVal_ev (e : Ex) : iVal e env μ = (e env μ).bind itsOf := id rfl
@[simp] theorem iEnum_ev (e : Ex) : iEnum e env μ = (e env μ).bind enumOf := id rfl
@[simp] theorem yes_ev : yes env μ = .ok (.bl true) μ := id rfl
theorem lc_ev (it : It) (g : Tg) (t e : Ex) (vs : List Nat) : lc it g t e vs env μ = (it env μ).bind fun z μ1 => (lcN z.lk g t e vs μ1.length env z.items (μ1 ++ [.lst []])).bind fun _ μ2 => .ok (.ref μ1.length) μ2 := rfl
end
/-- a name's value -/
theorem v_ev (i : Nat) (env : Env) (μ : Mem) (p : PV) (h : env[i]? = some (some p)) : v i env μ = .ok p μ := by unfold v; rw [h]
@[simp] theorem v0 (p : PV) (e : Env) (μ : Mem) : v 0 (some p :: e) μ = .ok p μ := id rfl
@[simp] theorem vS (n : Nat) (o : Option PV) (e : Env) (μ : Mem) : v (n + 1) (o :: e) μ = v n e μ := id rfl
@[simp] theorem itsOf_tup (l : List PV) (μ : Mem) : itsOf (.tup l) μ = .ok ⟨l, []⟩ μ := id rfl
@[simp] theorem enumOf_tup (l : List PV) (μ : Mem) : enumOf (.tup l) μ = .ok ⟨enumL 0 l, []⟩ μ := id rfl
@[simp] theorem locked_nil' (μ : Mem) : locked [] μ := locked_nil μ
theorem forN_nil {lk : List (Nat × List PV)} {g : Tg} {b : Sm} {env : Env} {μ : Mem} (h : locked lk μ) : forN lk g b [] env μ = .nx env μ := by unfold forN; rw [if_pos h]
theorem forN_cons {lk : List (Nat × List PV)} {g : Tg} {b : Sm} {env : Env} {μ : Mem} {p : PV} {ps : List PV} (h : locked lk μ) : forN lk g b (p :: ps) env μ = .of (g p env μ) fun e1 μ1 => match b e1 μ1 with
      | .nx e m => forN lk g b ps e m
      | .ct e m => forN lk g b ps e m
      | .bk e m => .nx e m
      | o => o := by rw [forN, if_pos h]; try rfl
/-! memory: what was there, then new cells -/
@[simp] theorem get_new0 (μ l : Mem) : (μ ++ l)[μ.length]? = l[0]? := by rw [List.getElem?_append_right (Nat.le_refl _), Nat.sub_self]
@[simp] theorem get_new (μ l : Mem) (k : Nat) : (μ ++ l)[μ.length + k]? = l[k]? := by rw [List.getElem?_append_right (Nat.le_add_right _ _), Nat.add_sub_cancel_left]
@[simp] theorem set_new0 (μ l : Mem) (o : PO) : (μ ++ l).set μ.length o = μ ++ l.set 0 o := by rw [List.set_append_right _ _ (Nat.le_refl _), Nat.sub_self]
@[simp] theorem set_new (μ l : Mem) (k : Nat) (o : PO) : (μ ++ l).set (μ.length + k) o = μ ++ l.set k o := by rw [List.set_append_right _ _ (Nat.le_add_right _ _), Nat.add_sub_cancel_left]
@[simp] theorem get_some {μ l : Mem} {k : Nat} {o : PO} (h : μ[k]? = some o) : (μ ++ l)[k]? = some o := by
  rw [List.getElem?_append_left (List.getElem?_eq_some_iff.mp h).1]; exact h
/-! defs -/
@[simp] theorem res_rt (p : PV) (m : Mem) : (Out.rt p m).res = .ok p m := id rfl
@[simp] theorem res_nx (e : Env) (m : Mem) : (Out.nx e m).res = .ok .non m := id rfl
@[simp] theorem res_exc (x : PX) (m : Mem) : (Out.exc x m).res = .exc x m := id rfl
theorem run_ev (n : Nat) (b : Sm) (args : List PV) (μ : Mem) : run n b args μ = (b (args.map some ++ List.replicate (n - args.length) none) μ).res := rfl
theorem fn_ev (n : Nat) (b : Sm) (args : List PV) (μ : Mem) : fn n b args μ = gc μ (run n b args μ) := rfl
@[simp] theorem gc_stuck (μ : Mem) : gc μ .stuck = .stuck := id rfl
theorem gc_drop {μ l : Mem} {p : PV} (h : p.under μ.length = true) : gc μ (.ok p (μ ++ l)) = .ok p μ := by
  unfold gc
  simp only
  rw [if_pos ⟨by simp, h, fun i hi => .inl (List.getElem?_append_left hi)⟩]
  rw [List.take_left]
theorem gc_same {μ : Mem} {p : PV} : gc μ (.ok p μ) = .ok p μ := by
  unfold gc
  simp only
  split
  · rw [List.take_length]
  · rfl
/-- cells of old were written, new ones are dropped -/
theorem gc_wr {μ μ' l : Mem} {p : PV} (hl : μ'.length = μ.length) (h : p.under μ.length = true) (hw : ∀ i, i < μ.length → μ'[i]? = μ[i]? ∨ ∃ o, μ'[i]? = some o ∧ o.under μ.length = true) : gc μ (.ok p (μ' ++ l)) = .ok p μ' := by
  unfold gc
  simp only
  rw [if_pos ⟨by simp [hl], h, fun i hi => by rw [List.getElem?_append_left (by omega)]; exact hw i hi⟩]
  rw [← hl, List.take_left]
/-! data: no reference at all -/
mutual
def PV.data : PV → Bool
  | .tup l => PV.datas l
  | .ref _ => false
  | .cst _ => false
  | .non => true | .bl _ => true | .int _ => true | .str _ => true
def PV.datas : List PV → Bool
  | [] => true
  | p :: ps => PV.data p && PV.datas ps
end
mutual
theorem under_data (n : Nat) : ∀ p : PV, p.data = true → p.under n = true
  | .tup l, h => by simp only [PV.data] at h; simp only [PV.under]; exact unders_data n l h
  | .ref _, h => by simp [PV.data] at h
  | .cst _, h => by simp [PV.data] at h
  | .non, _ => by simp only [PV.under]
  | .bl _, _ => by simp only [PV.under]
  | .int _, _ => by simp only [PV.under]
  | .str _, _ => by simp only [PV.under]
theorem unders_data (n : Nat) : ∀ l : List PV, PV.datas l = true → PV.unders n l = true
  | [], _ => by simp only [PV.unders]
  | p :: ps, h => by
    simp only [PV.datas, Bool.and_eq_true] at h
    simp only [PV.unders, under_data n p h.1, unders_data n ps h.2, Bool.and_self]
end
@[simp] theorem data_int (i : Int) : PV.data (.int i) = true := by simp only [PV.data]
@[simp] theorem data_bl (i : Bool) : PV.data (.bl i) = true := by simp only [PV.data]
@[simp] theorem data_str (i : Str) : PV.data (.str i) = true := by simp only [PV.data]
@[simp] theorem data_non : PV.data .non = true := by simp only [PV.data]
@[simp] theorem data_tup (l : List PV) : PV.data (.tup l) = PV.datas l := by simp only [PV.data]
@[simp] theorem datas_nil : PV.datas [] = true := by simp only [PV.datas]
@[simp] theorem datas_cons (p : PV) (l : List PV) : PV.datas (p :: l) = (PV.data p && PV.datas l) := by simp only [PV.datas]
theorem datas_iff (l : List PV) : PV.datas l = true ↔ ∀ p ∈ l, p.data = true := by
  induction l with
  | nil => simp
  | cons p ps ih => simp [ih]
/-- a def that hands back data and leaves the old cells alone -/
theorem fn_data {n : Nat} {b : Sm} {args : List PV} {μ l : Mem} {p : PV} (h : run n b args μ = .ok p (μ ++ l)) (hd : p.data = true) : fn n b args μ = .ok p μ := by
  rw [fn_ev, h, gc_drop (under_data _ _ hd)]
theorem fn_pure0 {n : Nat} {b : Sm} {args : List PV} {μ : Mem} {p : PV} (h : run n b args μ = .ok p μ) : fn n b args μ = .ok p μ := by
  rw [fn_ev, h, gc_same]
end PL
end
section
set_option autoImplicit false
/-! Operations by rewriting. -/
namespace PL
open PySem
theorem str_inj (a b : String) : (Str.ofString a = Str.ofString b) = (a = b) := by
  apply propext
  constructor
  · intro h
    rw [Str.ofString_eq_toList, Str.ofString_eq_toList] at h
    have h2 : (a.toList.map Char.toNat) = (b.toList.map Char.toNat) := by
      have := congrArg (fun s : Str => s.cps.toList) h
      simpa using this
    have h3 : a.toList = b.toList := by
      have inj : ∀ (l k : List Char), l.map Char.toNat = k.map Char.toNat → l = k := by
        intro l
        induction l with
        | nil => intro k h; cases k with
          | nil => rfl
          | cons _ _ => simp at h
        | cons x xs ih => intro k h; cases k with
          | nil => simp at h
          | cons y ys =>
            simp only [List.map_cons, List.cons.injEq] at h
            rw [ih ys h.2]
            congr 1
            exact Char.ext (UInt32.toNat_inj.mp h.1)
      exact inj _ _ h2
    exact String.toList_inj.mp h3
  · intro h; rw [h]
@[simp] theorem str_inj' (a b : String) : (Str.ofString a = Str.ofString b) ↔ (a = b) := by rw [str_inj]
section
variable (μ : Mem)
@[simp] theorem fAdd_int (i j : Int) : fAdd [.int i, .int j] μ = .ok (.int (i + j)) μ := id rfl
@[simp] theorem fSub_int (i j : Int) : fSub [.int i, .int j] μ = .ok (.int (i - j)) μ := id rfl
@[simp] theorem fNeg_int (i : Int) : fNeg [.int i] μ = .ok (.int (-i)) μ := id rfl
@[simp] theorem fNot_bl (b : Bool) : fNot [.bl b] μ = .ok (.bl (!b)) μ := id rfl
@[simp] theorem fLt_int (i j : Int) : fLt [.int i, .int j] μ = .ok (.bl (decide (i < j))) μ := id rfl
@[simp] theorem fLe_int (i j : Int) : fLe [.int i, .int j] μ = .ok (.bl (decide (i ≤ j))) μ := id rfl
@[simp] theorem fGt_int (i j : Int) : fGt [.int i, .int j] μ = .ok (.bl (decide (j < i))) μ := id rfl
@[simp] theorem fGe_int (i j : Int) : fGe [.int i, .int j] μ = .ok (.bl (decide (j ≤ i))) μ := id rfl
@[simp] theorem fEq_int (i j : Int) : fEq [.int i, .int j] μ = .ok (.bl (decide (i = j))) μ := id rfl
@[simp] theorem fNe_int (i j : Int) : fNe [.int i, .int j] μ = .ok (.bl (!decide (i = j))) μ := id rfl
@[simp] theorem fEq_str (i j : Str) : fEq [.str i, .str j] μ = .ok (.bl (decide (i = j))) μ := id rfl
@[simp] theorem fNe_str (i j : Str) : fNe [.str i, .str j] μ = .ok (.bl (!decide (i = j))) μ := id rfl
@[simp] theorem fEq_bl (i j : Bool) : fEq [.bl i, .bl j] μ = .ok (.bl (decide (i = j))) μ := id rfl
@[simp] theorem fNe_bl (i j : Bool) : fNe [.bl i, .bl j] μ = .ok (.bl (!decide (i = j))) μ := id rfl
@[simp] theorem fInt_int (i : Int) : fInt [.int i] μ = .ok (.int i) μ := id rfl
@[simp] theorem fInt_bl (b : Bool) : fInt [.bl b] μ = .ok (.int (if b then 1 else 0)) μ := id rfl
@[simp] theorem fAbs_int (i : Int) : fAbs [.int i] μ = .ok (.int (if i < 0 then -i else i)) μ := id rfl
@[simp] theorem fMax_int (i j : Int) : fMax [.int i, .int j] μ = .ok (.int (if j > i then j else i)) μ := id rfl
@[simp] theorem fMin_int (i j : Int) : fMin [.int i, .int j] μ = .ok (.int (if j < i then j else i)) μ := id rfl
theorem fMul_ok {i j : Int} (h : mulOk i j) : fMul [.int i, .int j] μ = .ok (.int (i * j)) μ := by simp only [fMul]; rw [if_pos h]
theorem fDiv_ok {i j : Int} (h : divOk j) : fDiv [.int i, .int j] μ = .ok (.int (i / j)) μ := by simp only [fDiv]; rw [if_pos h]
theorem fMod_ok {i j : Int} (h : 0 < j) : fMod [.int i, .int j] μ = .ok (.int (i % j)) μ := by simp only [fMod]; rw [if_pos h]
theorem fPow_ok {i j : Int} (h : 0 ≤ j ∧ j ≤ 1000000 ∧ i.natAbs < 2 ^ 64) : fPow [.int i, .int j] μ = .ok (.int (i ^ j.toNat)) μ := by simp only [fPow]; rw [if_pos h]
theorem fTup_ok {l : List PV} (h : l.length ≤ SL) : fTup l μ = .ok (.tup l) μ := by unfold fTup; rw [if_pos h]
theorem fLst_ok {l : List PV} (h : l.length ≤ SL) : fLst l μ = .ok (.ref μ.length) (μ ++ [.lst l]) := by unfold fLst newL; rw [if_pos h]
@[simp] theorem fTup0 : fTup [] μ = .ok (.tup []) μ := id rfl
@[simp] theorem fTup1 (a : PV) : fTup [a] μ = .ok (.tup [a]) μ := id rfl
@[simp] theorem fTup2 (a b : PV) : fTup [a, b] μ = .ok (.tup [a, b]) μ := id rfl
@[simp] theorem fTup3 (a b d : PV) : fTup [a, b, d] μ = .ok (.tup [a, b, d]) μ := id rfl
@[simp] theorem fTup4 (a b d e : PV) : fTup [a, b, d, e] μ = .ok (.tup [a, b, d, e]) μ := id rfl
@[simp] theorem fLst0 : fLst [] μ = .ok (.ref μ.length) (μ ++ [.lst []]) := id rfl
@[simp] theorem fLst1 (a : PV) : fLst [a] μ = .ok (.ref μ.length) (μ ++ [.lst [a]]) := id rfl
@[simp] theorem fLst2 (a b : PV) : fLst [a, b] μ = .ok (.ref μ.length) (μ ++ [.lst [a, b]]) := id rfl
@[simp] theorem fLst3 (a b d : PV) : fLst [a, b, d] μ = .ok (.ref μ.length) (μ ++ [.lst [a, b, d]]) := id rfl
@[simp] theorem fLst4 (a b d e : PV) : fLst [a, b, d, e] μ = .ok (.ref μ.length) (μ ++ [.lst [a, b, d, e]]) := id rfl
/-- places -/
def ixOf (l : List PV) (i : Int) (μ : Mem) : Res PV := match atI l i with | some q => .ok q μ | none => .stuck
@[simp] theorem fIx_tup (l : List PV) (i : Int) : fIx [.tup l, .int i] μ = ixOf l i μ := id rfl
theorem fIx_lst {n : Nat} {l : List PV} (i : Int) (h : μ[n]? = some (.lst l)) : fIx [.ref n, .int i] μ = ixOf l i μ := by
  simp only [fIx, getL, h]; rfl
theorem fIx_ro {n : Nat} {l : List PV} (i : Int) (h : μ[n]? = some (.ro l)) : fIx [.ref n, .int i] μ = ixOf l i μ := by
  simp only [fIx, getL, h]; rfl
@[simp] theorem ixOf0 (p : PV) (l : List PV) : ixOf (p :: l) 0 μ = .ok p μ := by
  simp [ixOf, atI, ixN]
theorem ixOf_nat {l : List PV} {k : Nat} {p : PV} (h : l[k]? = some p) : ixOf l (k : Int) μ = .ok p μ := by
  have hk := (List.getElem?_eq_some_iff.mp h).1
  unfold ixOf atI ixN
  rw [if_pos (by omega), if_pos (by omega)]
  simp [h]
@[simp] theorem ixOf1 (p q : PV) (l : List PV) : ixOf (p :: q :: l) 1 μ = .ok q μ := ixOf_nat (k := 1) μ rfl
@[simp] theorem ixOf2 (p q r : PV) (l : List PV) : ixOf (p :: q :: r :: l) 2 μ = .ok r μ := ixOf_nat (k := 2) μ rfl
@[simp] theorem ixOf3 (p q r s : PV) (l : List PV) : ixOf (p :: q :: r :: s :: l) 3 μ = .ok s μ := ixOf_nat (k := 3) μ rfl
theorem ixOf_int {l : List PV} {i : Int} {p : PV} (h0 : 0 ≤ i) (h : l[i.toNat]? = some p) : ixOf l i μ = .ok p μ := by
  have e : i = (i.toNat : Int) := by omega
  rw [e]
  exact ixOf_nat μ h
@[simp] theorem ixOf_last (l : List PV) (p : PV) : ixOf (l ++ [p]) (-1) μ = .ok p μ := by
  unfold ixOf atI ixN
  rw [if_neg (by omega), if_pos (by simp; omega)]
  have : ((-1 : Int) + ((l ++ [p]).length : Nat)).toNat = l.length := by simp; omega
  simp only [Option.bind_some, this]
  simp
/-- list cells -/
theorem push1_ok {n : Nat} {l : List PV} {p : PV} (h : μ[n]? = some (.lst l)) (hz : l.length < SL) : push1 n p μ = some (μ.set n (.lst (l ++ [p]))) := by
  unfold push1; rw [h]; simp only; rw [if_pos hz]
theorem append_ok {n : Nat} {l : List PV} {p : PV} (h : μ[n]? = some (.lst l)) (hz : l.length < SL) : fAppend [.ref n, p] μ = .ok .non (μ.set n (.lst (l ++ [p]))) := by
  simp only [fAppend]; rw [push1_ok μ h hz]
theorem isKd_lst {n : Nat} {l : List PV} (h : μ[n]? = some (.lst l)) : isKd .list μ (.ref n) = true := by simp only [isKd]; rw [h]
theorem fTuple_lst {n : Nat} {l : List PV} (h : μ[n]? = some (.lst l)) : fTuple [.ref n] μ = .ok (.tup l) μ := by simp only [fTuple, getL, h]
theorem fLen_lst {n : Nat} {l : List PV} (h : μ[n]? = some (.lst l)) : fLen [.ref n] μ = .ok (.int l.length) μ := by simp only [fLen, getL, h]
@[simp] theorem fLen_tup (l : List PV) : fLen [.tup l] μ = .ok (.int l.length) μ := id rfl
@[simp] theorem fTuple_tup (l : List PV) : fTuple [.tup l] μ = .ok (.tup l) μ := id rfl
theorem itsOf_lst {n : Nat} {l : List PV} (h : μ[n]? = some (.lst l)) : itsOf (.ref n) μ = .ok ⟨l, [(n, l)]⟩ μ := by simp only [itsOf, getL, h]
theorem itsOf_ro {n : Nat} {l : List PV} (h : μ[n]? = some (.ro l)) : itsOf (.ref n) μ = .ok ⟨l, [(n, l)]⟩ μ := by simp only [itsOf, getL, h]
theorem locked_lst {n : Nat} {l : List PV} (h : μ[n]? = some (.lst l)) : locked [(n, l)] μ := fun x hx => by
  simp only [List.mem_singleton] at hx
  subst hx
  exact .inl h
theorem locked_ro {n : Nat} {l : List PV} (h : μ[n]? = some (.ro l)) : locked [(n, l)] μ := fun x hx => by
  simp only [List.mem_singleton] at hx
  subst hx
  exact .inr h
theorem set_ok {n : Nat} {l : List PV} {i : Int} {p : PV} (h : μ[n]? = some (.lst l)) (h0 : 0 ≤ i) (h1 : i < l.length) : fSet [.ref n, .int i, p] μ = .ok .non (μ.set n (.lst (l.set i.toNat p))) := by
  simp only [fSet, h, ixN]
  rw [if_pos h0, if_pos h1]
theorem pop_ok {n : Nat} {l : List PV} {p : PV} (h : μ[n]? = some (.lst (l ++ [p]))) : fPop [.ref n] μ = .ok p (μ.set n (.lst l)) := by
  simp only [fPop, h]
  simp
@[simp] theorem fAppend_ref (n : Nat) (p : PV) : fAppend [.ref n, p] μ = (match μ[n]? with | some (.lst l) => if l.length < SL then .ok .non (μ.set n (.lst (l ++ [p]))) else .stuck | _ => .stuck) := by
  simp only [fAppend, push1]
  cases h : μ[n]? with
  | none => rfl
  | some o =>
    cases o with
    | lst l => by_cases hz : l.length < SL <;> simp [hz]
    | _ => rfl
@[simp] theorem isKd_ref (n : Nat) : isKd .list μ (.ref n) = (match μ[n]? with | some (.lst _) => true | _ => false) := id rfl
@[simp] theorem fIx_ref (n : Nat) (i : Int) : fIx [.ref n, .int i] μ = (match μ[n]? with | some (.lst l) => ixOf l i μ | some (.ro l) => ixOf l i μ | _ => .stuck) := by
  simp only [fIx, getL]
  cases h : μ[n]? with
  | none => rfl
  | some o => cases o <;> rfl
@[simp] theorem fLen_ref (n : Nat) : fLen [.ref n] μ = (match μ[n]? with | some (.lst l) => .ok (.int l.length) μ | some (.ro l) => .ok (.int l.length) μ | _ => .stuck) := by
  simp only [fLen, getL]
  cases h : μ[n]? with
  | none => rfl
  | some o => cases o <;> rfl
@[simp] theorem fTuple_ref (n : Nat) : fTuple [.ref n] μ = (match μ[n]? with | some (.lst l) => .ok (.tup l) μ | some (.ro l) => .ok (.tup l) μ | _ => .stuck) := by
  simp only [fTuple, getL]
  cases h : μ[n]? with
  | none => rfl
  | some o => cases o <;> rfl
@[simp] theorem fList_ref (n : Nat) : fList [.ref n] μ = (match μ[n]? with | some (.lst l) => .ok (.ref μ.length) (μ ++ [.lst l]) | some (.ro l) => .ok (.ref μ.length) (μ ++ [.lst l]) | _ => .stuck) := by
  simp only [fList, getL]
  cases h : μ[n]? with
  | none => rfl
  | some o => cases o <;> rfl
@[simp] theorem fList_tup (l : List PV) : fList [.tup l] μ = .ok (.ref μ.length) (μ ++ [.lst l]) := id rfl
@[simp] theorem itsOf_ref (n : Nat) : itsOf (.ref n) μ = (match μ[n]? with | some (.lst l) => .ok ⟨l, [(n, l)]⟩ μ | some (.ro l) => .ok ⟨l, [(n, l)]⟩ μ | _ => .stuck) := by
  simp only [itsOf, getL]
  cases h : μ[n]? with
  | none => rfl
  | some o => cases o <;> rfl
@[simp] theorem fAdd_ref (a b : Nat) : fAdd [.ref a, .ref b] μ = (match μ[a]?, μ[b]? with
    | some (.lst xs), some (.lst ys) => if xs.length + ys.length ≤ SL then .ok (.ref μ.length) (μ ++ [.lst (xs ++ ys)]) else .stuck
    | _, _ => .stuck) := id rfl
theorem fAdd_tup {a b : List PV} (h : a.length + b.length ≤ SL) : fAdd [.tup a, .tup b] μ = .ok (.tup (a ++ b)) μ := by simp only [fAdd]; rw [if_pos h]
@[simp] theorem fSl_tup (l : List PV) (lo hi : Option Int) (ql qh : PV) (h1 : optI ql = some lo) (h2 : optI qh = some hi) : fSl [.tup l, ql, qh] μ = .ok (.tup (cut l lo hi)) μ := by simp only [fSl, h1, h2]
@[simp] theorem optI_non : optI .non = some none := id rfl
@[simp] theorem optI_int (i : Int) : optI (.int i) = some (some i) := id rfl
@[simp] theorem onPart_non : onPart .non μ = .ok .non μ := id rfl
@[simp] theorem onPart_int (i : Int) : onPart (.int i) μ = .ok (.int i) μ := id rfl
@[simp] theorem fPart_int (i : Int) : fPart [.int i] μ = .ok (.int i) μ := id rfl
@[simp] theorem fSl_tup00 (l : List PV) : fSl [.tup l, .non, .non] μ = .ok (.tup (cut l none none)) μ := id rfl
@[simp] theorem fSl_tup01 (l : List PV) (j : Int) : fSl [.tup l, .non, .int j] μ = .ok (.tup (cut l none (some j))) μ := id rfl
@[simp] theorem fSl_tup10 (l : List PV) (i : Int) : fSl [.tup l, .int i, .non] μ = .ok (.tup (cut l (some i) none)) μ := id rfl
@[simp] theorem fSl_tup11 (l : List PV) (i j : Int) : fSl [.tup l, .int i, .int j] μ = .ok (.tup (cut l (some i) (some j))) μ := id rfl
@[simp] theorem fSl_ref (n : Nat) (ql qh : PV) : fSl [.ref n, ql, qh] μ = (match optI ql, optI qh with
    | some lo, some hi => (match μ[n]? with | some (.lst l) => .ok (.ref μ.length) (μ ++ [.lst (cut l lo hi)]) | some (.ro l) => .ok (.ref μ.length) (μ ++ [.lst (cut l lo hi)]) | _ => .stuck)
    | _, _ => .stuck) := by
  simp only [fSl, getL]
  cases optI ql with
  | none => rfl
  | some lo =>
    cases optI qh with
    | none => rfl
    | some hi =>
      simp only
      cases h : μ[n]? with
      | none => rfl
      | some o => cases o <;> rfl
@[simp] theorem cut_to (l : List PV) (j : Nat) : cut l none (some (j : Int)) = l.take j := by
  unfold cut sIx
  simp only [List.drop_zero, Nat.sub_zero]
  rw [if_neg (by omega)]
  simp only [Int.toNat_natCast]
  rw [Nat.min_def]
  split
  · rfl
  · rw [List.take_of_length_le (Nat.le_refl _), List.take_of_length_le (by omega)]
theorem cut_last (l : List PV) (p : PV) : cut (l ++ [p]) none (some (-1)) = l := by
  unfold cut sIx
  simp only [List.drop_zero, Nat.sub_zero]
  rw [if_pos (by omega)]
  have : ((-1 : Int) + ((l ++ [p]).length : Nat)).toNat = l.length := by simp; omega
  rw [this, List.take_left]
@[simp] theorem cut_from (l : List PV) (j : Nat) : cut l (some (j : Int)) none = l.drop j := by
  unfold cut sIx
  simp only
  rw [if_neg (by omega)]
  simp only [Int.toNat_natCast]
  rw [Nat.min_def]
  split
  · rw [List.take_of_length_le (by simp)]
  · rw [List.drop_of_length_le (Nat.le_refl _), List.drop_of_length_le (by omega)]; simp
@[simp] theorem fSub1 : SL = 16777216 := id rfl
end
/-! texts as constants -/
end PL
end
section
set_option autoImplicit false
/-! Loops by folds. -/
namespace PL
open PySem
/-- what is wanted of a statement's ends -/
structure Wp where
  nx : Env → Mem → Prop := fun _ _ => False
  rt : PV → Mem → Prop := fun _ _ => False
  bk : Env → Mem → Prop := fun _ _ => False
  ct : Env → Mem → Prop := fun _ _ => False
def Out.sat0 (o : Out) (W : Wp) : Prop := match o with
  | .nx e m => W.nx e m
  | .rt p m => W.rt p m
  | .bk e m => W.bk e m
  | .ct e m => W.ct e m
  | _ => False
/-- not reckoned out when looked at -/
def Out.sat (o : Out) (W : Wp) : Prop := (∃ e m, o = .nx e m ∧ W.nx e m) ∨ (∃ p m, o = .rt p m ∧ W.rt p m) ∨ (∃ e m, o = .bk e m ∧ W.bk e m) ∨ (∃ e m, o = .ct e m ∧ W.ct e m)
theorem sat_eq (o : Out) (W : Wp) : o.sat W = o.sat0 W := by
  apply propext
  cases o with
  | nx e m => exact ⟨fun h => by
      rcases h with ⟨_, _, h, h2⟩ | ⟨_, _, h, h2⟩ | ⟨_, _, h, h2⟩ | ⟨_, _, h, h2⟩ <;> cases h <;> exact h2, fun h => .inl ⟨_, _, rfl, h⟩⟩
  | rt e m => exact ⟨fun h => by
      rcases h with ⟨_, _, h, h2⟩ | ⟨_, _, h, h2⟩ | ⟨_, _, h, h2⟩ | ⟨_, _, h, h2⟩ <;> cases h <;> exact h2, fun h => .inr (.inl ⟨_, _, rfl, h⟩)⟩
  | bk e m => exact ⟨fun h => by
      rcases h with ⟨_, _, h, h2⟩ | ⟨_, _, h, h2⟩ | ⟨_, _, h, h2⟩ | ⟨_, _, h, h2⟩ <;> cases h <;> exact h2, fun h => .inr (.inr (.inl ⟨_, _, rfl, h⟩))⟩
  | ct e m => exact ⟨fun h => by
      rcases h with ⟨_, _, h, h2⟩ | ⟨_, _, h, h2⟩ | ⟨_, _, h, h2⟩ | ⟨_, _, h, h2⟩ <;> cases h <;> exact h2, fun h => .inr (.inr (.inr ⟨_, _, rfl, h⟩))⟩
  | exc e m => exact ⟨fun h => by simp [Out.sat] at h, fun h => h.elim⟩
  | stuck => exact ⟨fun h => by simp [Out.sat] at h, fun h => h.elim⟩
@[simp] theorem sat_nx (e : Env) (m : Mem) (W : Wp) : (Out.nx e m).sat W = W.nx e m := by rw [sat_eq]; exact id rfl
@[simp] theorem sat_rt (p : PV) (m : Mem) (W : Wp) : (Out.rt p m).sat W = W.rt p m := by rw [sat_eq]; exact id rfl
@[simp] theorem sat_bk (e : Env) (m : Mem) (W : Wp) : (Out.bk e m).sat W = W.bk e m := by rw [sat_eq]; exact id rfl
@[simp] theorem sat_ct (e : Env) (m : Mem) (W : Wp) : (Out.ct e m).sat W = W.ct e m := by rw [sat_eq]; exact id rfl
@[simp] theorem sat_stuck (W : Wp) : Out.stuck.sat W = False := by rw [sat_eq]; exact id rfl
@[simp] theorem sat_exc (x : PX) (m : Mem) (W : Wp) : (Out.exc x m).sat W = False := by rw [sat_eq]; exact id rfl
def Res.sat {α : Type} (r : Res α) (P : α → Mem → Prop) : Prop := ∃ a m, r = .ok a m ∧ P a m
@[simp] theorem rsat_ok {α : Type} (a : α) (m : Mem) (P : α → Mem → Prop) : (Res.ok a m).sat P = P a m := by
  apply propext
  exact ⟨fun ⟨_, _, h, h2⟩ => by cases h; exact h2, fun h => ⟨a, m, rfl, h⟩⟩
@[simp] theorem rsat_stuck {α : Type} (P : α → Mem → Prop) : (Res.stuck : Res α).sat P = False := by
  apply propext
  simp [Res.sat]
@[simp] theorem rsat_exc {α : Type} (x : PX) (m : Mem) (P : α → Mem → Prop) : (Res.exc x m : Res α).sat P = False := by
  apply propext
  simp [Res.sat]
theorem rsat_ex {α : Type} {r : Res α} {P : α → Mem → Prop} (h : r.sat P) : ∃ a m, r = .ok a m ∧ P a m := h
theorem rsat_imp {α : Type} {r : Res α} {P Q : α → Mem → Prop} (h : r.sat P) (i : ∀ a m, P a m → Q a m) : r.sat Q := by
  obtain ⟨a, m, rfl, h⟩ := h
  simpa using i a m h
theorem bind_sat {α β : Type} {r : Res α} {k : α → Mem → Res β} {P : β → Mem → Prop} (h : r.sat fun a m => (k a m).sat P) : (r.bind k).sat P := by
  obtain ⟨a, m, rfl, h⟩ := h
  exact h
theorem of_sat {α : Type} {r : Res α} {k : α → Mem → Out} {W : Wp} (h : r.sat fun a m => (k a m).sat W) : (Out.of r k).sat W := by
  obtain ⟨a, m, rfl, h⟩ := h
  exact h
theorem then_sat {o : Out} {k : Sm} {W : Wp} (h : o.sat { W with nx := fun e m => (k e m).sat W }) : (o.then k).sat W := by
  cases o <;> simpa using h
theorem sat_imp {o : Out} {W V : Wp} (h : o.sat W) (h1 : ∀ e m, W.nx e m → V.nx e m) (h2 : ∀ p m, W.rt p m → V.rt p m) (h3 : ∀ e m, W.bk e m → V.bk e m) (h4 : ∀ e m, W.ct e m → V.ct e m) : o.sat V := by
  cases o with
  | nx e m => simp at h ⊢; exact h1 _ _ h
  | rt p m => simp at h ⊢; exact h2 _ _ h
  | bk e m => simp at h ⊢; exact h3 _ _ h
  | ct e m => simp at h ⊢; exact h4 _ _ h
  | exc x m => simp at h
  | stuck => simp at h
/-! truth values open in two -/
@[simp] theorem onS_then (p : PV) (a b : Out) (k : Sm) : (onS p a b).then k = onS p (a.then k) (b.then k) := by
  cases p with
  | bl t => cases t <;> rfl
  | _ => rfl
@[simp] theorem onB_bind {α β : Type} (p : PV) (a b : Res α) (k : α → Mem → Res β) : (onB p a b).bind k = onB p (a.bind k) (b.bind k) := by
  cases p with
  | bl t => cases t <;> rfl
  | _ => rfl
@[simp] theorem onB_of {α : Type} (p : PV) (a b : Res α) (k : α → Mem → Out) : Out.of (onB p a b) k = onS p (Out.of a k) (Out.of b k) := by
  cases p with
  | bl t => cases t <;> rfl
  | _ => rfl
@[simp] theorem of_then {α : Type} (r : Res α) (k : α → Mem → Out) (j : Sm) : (Out.of r k).then j = Out.of r fun a m => (k a m).then j := by cases r <;> rfl
@[simp] theorem bind_bind' {α β γ : Type} (r : Res α) (k : α → Mem → Res β) (j : β → Mem → Res γ) : (r.bind k).bind j = r.bind fun a m => (k a m).bind j := by cases r <;> rfl
@[simp] theorem bind_of {α β : Type} (r : Res α) (k : α → Mem → Res β) (j : β → Mem → Out) : Out.of (r.bind k) j = Out.of r fun a m => Out.of (k a m) j := by cases r <;> rfl
@[simp] theorem then_then (o : Out) (a b : Sm) : (o.then a).then b = o.then fun e m => (a e m).then b := by cases o <;> rfl
@[simp] theorem onS_sat (t : Bool) (a b : Out) (W : Wp) : (onS (.bl t) a b).sat W ↔ (t = true → a.sat W) ∧ (t = false → b.sat W) := by cases t <;> simp
@[simp] theorem onB_sat {α : Type} (t : Bool) (a b : Res α) (P : α → Mem → Prop) : (onB (.bl t) a b).sat P ↔ (t = true → a.sat P) ∧ (t = false → b.sat P) := by cases t <;> simp
theorem run_sat {n : Nat} {b : Sm} {args : List PV} {μ : Mem} {P : PV → Mem → Prop} (h : (b (args.map some ++ List.replicate (n - args.length) none) μ).sat { rt := P, nx := fun _ m => P .non m }) : (run n b args μ).sat P := by
  rw [run_ev]
  generalize (b (args.map some ++ List.replicate (n - args.length) none) μ) = o at h
  cases o <;> simpa using h
/-- a def whose result is data: the memory as the body left it, its own cells dropped -/
theorem fn_sat_data {n : Nat} {b : Sm} {args : List PV} {μ : Mem} {p : PV} (hd : p.data = true) (h : (run n b args μ).sat fun q m => q = p ∧ ∃ l, m = μ ++ l) : fn n b args μ = .ok p μ := by
  obtain ⟨q, m, e, rfl, l, rfl⟩ := rsat_ex h
  exact fn_data e hd
/-! loops -/
def turn (g : Tg) (b : Sm) (p : PV) (env : Env) (μ : Mem) : Out := .of (g p env μ) fun e1 μ1 => b e1 μ1
@[simp] theorem turn_ev (g : Tg) (b : Sm) (p : PV) (env : Env) (μ : Mem) : turn g b p env μ = .of (g p env μ) fun e1 μ1 => b e1 μ1 := id rfl
theorem for_sat {α : Type} {lk : List (Nat × List PV)} {g : Tg} {b k : Sm} {W : Wp} {env : Env} {μ : Mem} (enc : α → PV) (xs : List α) (R : Nat → Env → Mem → Prop) (hl : ∀ i env μ, R i env μ → locked lk μ) (h : R 0 env μ)
    (st : ∀ i x env μ, xs[i]? = some x → R i env μ → (turn g b (enc x) env μ).sat { nx := R (i + 1), ct := R (i + 1), bk := fun e m => (k e m).sat W, rt := W.rt })
    (hk : ∀ e m, R xs.length e m → (k e m).sat W) : ((forN lk g b (xs.map enc) env μ).then k).sat W := by
  have go : ∀ (n i : Nat) (env : Env) (μ : Mem), n + i = xs.length → R i env μ → ((forN lk g b ((xs.drop i).map enc) env μ).then k).sat W := by
    intro n
    induction n with
    | zero =>
      intro i env μ hi h
      have : i = xs.length := by omega
      subst this
      rw [List.drop_length, List.map_nil, forN_nil (hl _ env μ h)]
      exact hk env μ h
    | succ n ih =>
      intro i env μ hi h
      have hlt : i < xs.length := by omega
      have s1 := st i xs[i] env μ (List.getElem?_eq_getElem hlt) h
      rw [sat_eq] at s1
      rw [List.drop_eq_getElem_cons hlt, List.map_cons, forN_cons (hl i env μ h)]
      unfold turn at s1
      cases z : g (enc xs[i]) env μ with
      | ok e1 μ1 =>
        rw [z] at s1
        simp only [Out.of_ok] at s1 ⊢
        cases z2 : b e1 μ1 with
        | nx e m => rw [z2] at s1; exact ih (i + 1) e m (by omega) s1
        | ct e m => rw [z2] at s1; exact ih (i + 1) e m (by omega) s1
        | bk e m => rw [z2] at s1; exact s1
        | rt p m => rw [z2] at s1; rw [Out.then_rt, sat_rt]; exact s1
        | exc x m => rw [z2] at s1; exact s1.elim
        | stuck => rw [z2] at s1; exact s1.elim
      | exc x m => rw [z] at s1; exact s1.elim
      | stuck => rw [z] at s1; exact s1.elim
  have := go xs.length 0 env μ (by omega) h
  rwa [List.drop_zero] at this
theorem for_sat0 {α : Type} {lk : List (Nat × List PV)} {g : Tg} {b : Sm} {W : Wp} {env : Env} {μ : Mem} (enc : α → PV) (xs : List α) (R : Nat → Env → Mem → Prop) (hl : ∀ i env μ, R i env μ → locked lk μ) (h : R 0 env μ)
    (st : ∀ i x env μ, xs[i]? = some x → R i env μ → (turn g b (enc x) env μ).sat { nx := R (i + 1), ct := R (i + 1), bk := W.nx, rt := W.rt })
    (hk : ∀ e m, R xs.length e m → W.nx e m) : (forN lk g b (xs.map enc) env μ).sat W := by
  have e : forN lk g b (xs.map enc) env μ = (forN lk g b (xs.map enc) env μ).then fun e m => .nx e m := by
    generalize forN lk g b (xs.map enc) env μ = o
    cases o <;> rfl
  rw [e]
  exact for_sat enc xs R hl h (fun i x env μ hx hR => by simpa using st i x env μ hx hR) (by simpa using hk)
/-- while, by a measure -/
theorem while_sat {t : Ex} {b k : Sm} {W : Wp} {env : Env} {μ : Mem} (R : Nat → Env → Mem → Prop) (n0 : Nat) (hn : n0 < fuel) (h : R n0 env μ)
    (st : ∀ n env μ, R n env μ → (t env μ).sat fun p m => ∃ c, p = .bl c ∧ (c = true → (b env m).sat { nx := fun e m => ∃ n', n' < n ∧ R n' e m, ct := fun e m => ∃ n', n' < n ∧ R n' e m, bk := fun e m => (k e m).sat W, rt := W.rt }) ∧ (c = false → (k env m).sat W)) :
    ((whileN t b fuel env μ).then k).sat W := by
  have go : ∀ (N n : Nat) (env : Env) (μ : Mem), n < N → R n env μ → ((whileN t b N env μ).then k).sat W := by
    intro N
    induction N with
    | zero => intro n env μ hn; omega
    | succ N ih =>
      intro n env μ hn h
      have s1 := st n env μ h
      unfold whileN
      cases z : t env μ with
      | ok p m =>
        rw [z, rsat_ok] at s1
        obtain ⟨c, rfl, s2, s3⟩ := s1
        simp only [Out.of_ok]
        cases c with
        | false => exact s3 rfl
        | true =>
          have s4 := s2 rfl
          rw [sat_eq] at s4
          simp only [onS_true]
          cases z2 : b env m with
          | nx e m => rw [z2] at s4; obtain ⟨n', h1, h2⟩ := s4; exact ih n' e m (by omega) h2
          | ct e m => rw [z2] at s4; obtain ⟨n', h1, h2⟩ := s4; exact ih n' e m (by omega) h2
          | bk e m => rw [z2] at s4; exact s4
          | rt p m => rw [z2] at s4; rw [Out.then_rt, sat_rt]; exact s4
          | exc x m => rw [z2] at s4; exact s4.elim
          | stuck => rw [z2] at s4; exact s4.elim
      | exc x m => rw [z, rsat_exc] at s1; exact s1.elim
      | stuck => rw [z, rsat_stuck] at s1; exact s1.elim
  exact go fuel n0 env μ hn h
/-- comprehensions: the list that is made, what each item gives (none: left out) -/
theorem lcN_map {α : Type} {lk : List (Nat × List PV)} {g : Tg} {t e : Ex} {vs : List Nat} {n : Nat} {env : Env} (enc : α → PV) (F : α → Option PV) (M : List PV → Mem) (hn : ∀ acc, (M acc)[n]? = some (.lst acc)) (hs : ∀ acc acc', (M acc).set n (.lst acc') = M acc') (hl : ∀ acc, locked lk (M acc)) :
    ∀ (xs : List α) (acc : List PV), acc.length + xs.length < SL → (∀ x ∈ xs, ∀ acc, ∃ e1, g (enc x) (wipe env vs) (M acc) = .ok e1 (M acc) ∧
      match F x with
      | some q => t e1 (M acc) = .ok (.bl true) (M acc) ∧ e e1 (M acc) = .ok q (M acc)
      | none => t e1 (M acc) = .ok (.bl false) (M acc)) →
    lcN lk g t e vs n env (xs.map enc) (M acc) = .ok () (M (acc ++ xs.filterMap F))
  | [], acc, _, _ => by rw [List.map_nil, lcN, if_pos (hl acc)]; simp
  | x :: xs, acc, hz, st => by
    obtain ⟨e1, h1, h2⟩ := st x List.mem_cons_self acc
    rw [List.map_cons, lcN, if_pos (hl acc), h1]
    simp only [Res.bind_ok]
    simp only [List.length_cons] at hz
    cases hF : F x with
    | none =>
      rw [hF] at h2
      simp only at h2
      rw [h2]
      simp only [Res.bind_ok, onB_false]
      rw [lcN_map enc F M hn hs hl xs acc (by omega) fun x hx => st x (List.mem_cons_of_mem _ hx), List.filterMap_cons_none hF]
    | some q =>
      rw [hF] at h2
      simp only at h2
      rw [h2.1]
      simp only [Res.bind_ok, onB_true]
      rw [h2.2]
      simp only [Res.bind_ok]
      rw [push1_ok _ (hn acc) (by omega)]
      simp only
      rw [hs, lcN_map enc F M hn hs hl xs (acc ++ [q]) (by rw [List.length_append, List.length_singleton]; omega) fun x hx => st x (List.mem_cons_of_mem _ hx), List.filterMap_cons_some hF]
      simp
/-- a comprehension whose parts leave the memory alone -/
theorem lc_pure {α : Type} {it : It} {g : Tg} {t e : Ex} {vs : List Nat} {env : Env} {μ μ1 : Mem} {lk : List (Nat × List PV)} (enc : α → PV) (F : α → Option PV) (xs : List α) (hi : it env μ = .ok ⟨xs.map enc, lk⟩ μ1) (hl : ∀ l, locked lk (μ1 ++ l)) (hz : xs.length < SL)
    (st : ∀ x ∈ xs, ∀ l, ∃ e1, g (enc x) (wipe env vs) (μ1 ++ l) = .ok e1 (μ1 ++ l) ∧
      match F x with
      | some q => t e1 (μ1 ++ l) = .ok (.bl true) (μ1 ++ l) ∧ e e1 (μ1 ++ l) = .ok q (μ1 ++ l)
      | none => t e1 (μ1 ++ l) = .ok (.bl false) (μ1 ++ l)) :
    lc it g t e vs env μ = .ok (.ref μ1.length) (μ1 ++ [.lst (xs.filterMap F)]) := by
  rw [lc_ev, hi]
  simp only [Res.bind_ok]
  have := lcN_map (lk := lk) (g := g) (t := t) (e := e) (vs := vs) (n := μ1.length) (env := env) enc F (fun acc => μ1 ++ [.lst acc]) (fun acc => by simp) (fun acc acc' => by simp) (fun acc => hl _) xs [] (by simpa using hz) fun x hx acc => st x hx _
  rw [this]
  simp
theorem locked_app {lk : List (Nat × List PV)} {μ : Mem} (h : locked lk μ) (l : Mem) : locked lk (μ ++ l) := fun x hx => by
  rcases h x hx with h | h
  · exact .inl (get_some h)
  · exact .inr (get_some h)
theorem gc_keep {μ m : Mem} {p : PV} (h : p.under μ.length = false) : gc μ (.ok p m) = .ok p m := by
  unfold gc
  simp only
  rw [if_neg fun z => by rw [z.2.1] at h; cases h]
/-- a comprehension whose parts change the memory: R by the turn, what is made so far, the memory -/
theorem lc_sat {α : Type} {it : It} {g : Tg} {t e : Ex} {vs : List Nat} {env : Env} {μ μ1 : Mem} {lk : List (Nat × List PV)} {P : PV → Mem → Prop} (enc : α → PV) (xs : List α) (R : Nat → List PV → Mem → Prop) (hi : it env μ = .ok ⟨xs.map enc, lk⟩ μ1)
    (hl : ∀ i acc m, R i acc m → locked lk m) (h0 : R 0 [] (μ1 ++ [.lst []])) (hz : xs.length < SL) (hacc : ∀ i acc m, R i acc m → acc.length ≤ i)
    (st : ∀ i x acc m, xs[i]? = some x → R i acc m → (g (enc x) (wipe env vs) m).sat fun e1 m1 => (t e1 m1).sat fun b m2 => ∃ c, b = .bl c ∧ (c = false → R (i + 1) acc m2) ∧ (c = true → (e e1 m2).sat fun q m3 => m3[μ1.length]? = some (.lst acc) ∧ R (i + 1) (acc ++ [q]) (m3.set μ1.length (.lst (acc ++ [q])))))
    (hk : ∀ acc m, R xs.length acc m → P (.ref μ1.length) m) : (lc it g t e vs env μ).sat P := by
  rw [lc_ev, hi]
  simp only [Res.bind_ok]
  have go : ∀ (n i : Nat) (acc : List PV) (m : Mem), n + i = xs.length → R i acc m → ((lcN lk g t e vs μ1.length env ((xs.drop i).map enc) m).bind fun _ μ2 => .ok (.ref μ1.length) μ2).sat P := by
    intro n
    induction n with
    | zero =>
      intro i acc m hi h
      have : i = xs.length := by omega
      subst this
      rw [List.drop_length, List.map_nil, lcN, if_pos (hl _ acc m h), Res.bind_ok, rsat_ok]
      exact hk acc m h
    | succ n ih =>
      intro i acc m hi h
      have hlt : i < xs.length := by omega
      have s1 := st i xs[i] acc m (List.getElem?_eq_getElem hlt) h
      rw [List.drop_eq_getElem_cons hlt, List.map_cons, lcN, if_pos (hl i acc m h)]
      obtain ⟨e1, m1, z1, s2⟩ := rsat_ex s1
      obtain ⟨b, m2, z2, c, rfl, s3, s4⟩ := rsat_ex s2
      rw [z1]
      simp only [Res.bind_ok]
      rw [z2]
      simp only [Res.bind_ok]
      cases c with
      | false => exact ih (i + 1) acc m2 (by omega) (s3 rfl)
      | true =>
        obtain ⟨q, m3, z3, s5, s6⟩ := rsat_ex (s4 rfl)
        simp only [onB_true]
        rw [z3]
        simp only [Res.bind_ok]
        have ha := hacc i acc m h
        rw [push1_ok _ s5 (by omega)]
        exact ih (i + 1) _ _ (by omega) s6
  have := go xs.length 0 [] (μ1 ++ [.lst []]) (by omega) h0
  rwa [List.drop_zero] at this
theorem take_succ' {α : Type} {xs : List α} {i : Nat} {x : α} (h : xs[i]? = some x) : xs.take (i + 1) = xs.take i ++ [x] := by
  rw [List.take_add_one, h]; rfl
theorem lt_of_get {α : Type} {xs : List α} {i : Nat} {x : α} (h : xs[i]? = some x) : i < xs.length := (List.getElem?_eq_some_iff.mp h).1
end PL
end
section
set_option autoImplicit false
/-! Data: what is read, compared, shown. -/
namespace PL
open PySem
mutual
def PV.pd : PV → PyData
  | .non => .none
  | .bl b => .bool b
  | .int i => .int i
  | .str x => .str x
  | .tup l => .tuple (PV.pds l)
  | .ref _ => .none
  | .cst _ => .none
def PV.pds : List PV → List PyData
  | [] => []
  | p :: ps => PV.pd p :: PV.pds ps
end
@[simp] theorem pds_nil : PV.pds [] = [] := by simp only [PV.pds]
@[simp] theorem pds_cons (p : PV) (l : List PV) : PV.pds (p :: l) = p.pd :: PV.pds l := by simp only [PV.pds]
@[simp] theorem pd_tup (l : List PV) : PV.pd (.tup l) = .tuple (PV.pds l) := by simp only [PV.pd]
@[simp] theorem pd_int (i : Int) : PV.pd (.int i) = .int i := by simp only [PV.pd]
@[simp] theorem pd_str (i : Str) : PV.pd (.str i) = .str i := by simp only [PV.pd]
@[simp] theorem pd_bl (i : Bool) : PV.pd (.bl i) = .bool i := by simp only [PV.pd]
@[simp] theorem pd_non : PV.pd .non = .none := by simp only [PV.pd]
theorem pds_map (l : List PV) : PV.pds l = l.map PV.pd := by
  induction l with
  | nil => simp
  | cons p ps ih => simp [ih]
mutual
theorem conv_pd (r : Nat → Option PyData) : ∀ p : PV, p.data = true → PV.conv r p = some p.pd
  | .tup l, h => by simp only [PV.data] at h; simp only [PV.conv, convs_pd r l h, Option.map_some, PV.pd]
  | .ref _, h => by simp [PV.data] at h
  | .cst _, h => by simp [PV.data] at h
  | .non, _ => by simp only [PV.conv, PV.pd]
  | .bl _, _ => by simp only [PV.conv, PV.pd]
  | .int _, _ => by simp only [PV.conv, PV.pd]
  | .str _, _ => by simp only [PV.conv, PV.pd]
theorem convs_pd (r : Nat → Option PyData) : ∀ l : List PV, PV.datas l = true → PV.convs r l = some (PV.pds l)
  | [], _ => by simp only [PV.convs, PV.pds]
  | p :: ps, h => by
    simp only [PV.datas, Bool.and_eq_true] at h
    simp only [PV.convs, conv_pd r p h.1, convs_pd r ps h.2, Option.bind_some, Option.map_some, PV.pds]
end
theorem toD_data {μ : Mem} {p : PV} (h : p.data = true) : toD μ p = some p.pd := by
  unfold toD toDn
  exact conv_pd _ p h
theorem toD_ref (μ : Mem) (n : Nat) : toD μ (.ref n) = (match μ[n]? with
    | some (.lst l) => (PV.convs (fun j => toDn μ 4 (.ref j)) l).map .list
    | some (.ro l) => (PV.convs (fun j => toDn μ 4 (.ref j)) l).map .list
    | _ => none) := by
  unfold toD
  rw [toDn]
  simp only [PV.conv]
  try rfl
theorem toD_lst {μ : Mem} {n : Nat} {l : List PV} (h : μ[n]? = some (.lst l)) (hd : PV.datas l = true) : toD μ (.ref n) = some (.list (PV.pds l)) := by
  rw [toD_ref, h]
  simp only
  rw [convs_pd _ l hd]
  rfl
/-! how great data is: numbers and texts that can be shown, how many items, how deep -/
end PL
namespace PySem.PyData
mutual
def sm : PyData → Bool
  | .none => true
  | .bool _ => true
  | .int i => decide (i.natAbs.log2 < 1920)
  | .str x => strOk x && decide ((reprText x).length ≤ 1990)
  | .list l => sms l
  | .tuple l => sms l
  | .dict _ => false
def sms : List PyData → Bool
  | [] => true
  | x :: xs => sm x && sms xs
end
mutual
def wt : PyData → Nat
  | .list l => wts l + 1
  | .tuple l => wts l + 1
  | .none => 1 | .bool _ => 1 | .int _ => 1 | .str _ => 1 | .dict _ => 1
def wts : List PyData → Nat
  | [] => 0
  | x :: xs => wt x + wts xs
end
end PySem.PyData
namespace PL
open PySem
@[simp] theorem sm_none : PyData.none.sm = true := by simp only [PyData.sm]
@[simp] theorem sm_bool (b : Bool) : (PyData.bool b).sm = true := by simp only [PyData.sm]
@[simp] theorem sm_int (i : Int) : (PyData.int i).sm = decide (i.natAbs.log2 < 1920) := by simp only [PyData.sm]
@[simp] theorem sm_str (x : Str) : (PyData.str x).sm = (PyData.strOk x && decide ((reprText x).length ≤ 1990)) := by simp only [PyData.sm]
@[simp] theorem sm_list (l : List PyData) : (PyData.list l).sm = PyData.sms l := by simp only [PyData.sm]
@[simp] theorem sm_tuple (l : List PyData) : (PyData.tuple l).sm = PyData.sms l := by simp only [PyData.sm]
@[simp] theorem sms_nil : PyData.sms [] = true := by simp only [PyData.sms]
@[simp] theorem sms_cons (x : PyData) (l : List PyData) : PyData.sms (x :: l) = (x.sm && PyData.sms l) := by simp only [PyData.sms]
@[simp] theorem wt_none : PyData.none.wt = 1 := by simp only [PyData.wt]
@[simp] theorem wt_bool (b : Bool) : (PyData.bool b).wt = 1 := by simp only [PyData.wt]
@[simp] theorem wt_int (i : Int) : (PyData.int i).wt = 1 := by simp only [PyData.wt]
@[simp] theorem wt_str (x : Str) : (PyData.str x).wt = 1 := by simp only [PyData.wt]
@[simp] theorem wt_list (l : List PyData) : (PyData.list l).wt = PyData.wts l + 1 := by simp only [PyData.wt]
@[simp] theorem wt_tuple (l : List PyData) : (PyData.tuple l).wt = PyData.wts l + 1 := by simp only [PyData.wt]
@[simp] theorem wts_nil : PyData.wts [] = 0 := by simp only [PyData.wts]
@[simp] theorem wts_cons (x : PyData) (l : List PyData) : PyData.wts (x :: l) = x.wt + PyData.wts l := by simp only [PyData.wts]
@[simp] theorem dp_none : PyData.none.depth = 0 := by simp only [PyData.depth]
@[simp] theorem dp_bool (b : Bool) : (PyData.bool b).depth = 0 := by simp only [PyData.depth]
@[simp] theorem dp_int (i : Int) : (PyData.int i).depth = 0 := by simp only [PyData.depth]
@[simp] theorem dp_str (x : Str) : (PyData.str x).depth = 0 := by simp only [PyData.depth]
@[simp] theorem dp_list (l : List PyData) : (PyData.list l).depth = PyData.depthAll l + 1 := by simp only [PyData.depth]
@[simp] theorem dp_tuple (l : List PyData) : (PyData.tuple l).depth = PyData.depthAll l + 1 := by simp only [PyData.depth]
@[simp] theorem dps_nil : PyData.depthAll [] = 0 := by simp only [PyData.depthAll]
@[simp] theorem dps_cons (x : PyData) (l : List PyData) : PyData.depthAll (x :: l) = max x.depth (PyData.depthAll l) := by simp only [PyData.depthAll]
theorem sms_iff (l : List PyData) : PyData.sms l = true ↔ ∀ x ∈ l, x.sm = true := by
  induction l with
  | nil => simp
  | cons x xs ih => simp [ih]
@[simp] theorem sms_app (l k : List PyData) : PyData.sms (l ++ k) = (PyData.sms l && PyData.sms k) := by
  induction l with
  | nil => simp
  | cons x xs ih => simp [ih, Bool.and_assoc]
@[simp] theorem wts_app (l k : List PyData) : PyData.wts (l ++ k) = PyData.wts l + PyData.wts k := by
  induction l with
  | nil => simp
  | cons x xs ih => simp [ih]; omega
theorem wts_le {l : List PyData} {k : Nat} (h : ∀ x ∈ l, x.wt ≤ k) : PyData.wts l ≤ k * l.length := by
  induction l with
  | nil => simp
  | cons x xs ih =>
    have := h x List.mem_cons_self
    have := ih fun y hy => h y (List.mem_cons_of_mem _ hy)
    simp only [wts_cons, List.length_cons, Nat.mul_add]
    omega
theorem dps_le {l : List PyData} {k : Nat} (h : ∀ x ∈ l, x.depth ≤ k) : PyData.depthAll l ≤ k := by
  induction l with
  | nil => simp
  | cons x xs ih =>
    have := h x List.mem_cons_self
    have := ih fun y hy => h y (List.mem_cons_of_mem _ hy)
    simp only [dps_cons]
    omega
mutual
theorem lay_sm : ∀ d : PyData, d.sm = true → d.canLay0 = true
  | .none, _ => by simp only [PyData.canLay0]
  | .bool _, _ => by simp only [PyData.canLay0]
  | .int _, _ => by simp only [PyData.canLay0]
  | .str x, h => by simp only [PyData.sm, Bool.and_eq_true] at h; simp only [PyData.canLay0, h.1]
  | .list l, h => by simp only [PyData.sm] at h; simp only [PyData.canLay0, lays_sm l h]
  | .tuple l, h => by simp only [PyData.sm] at h; simp only [PyData.canLay0, lays_sm l h]
  | .dict _, h => by simp [PyData.sm] at h
theorem lays_sm : ∀ l : List PyData, PyData.sms l = true → PyData.canLayAll0 l = true
  | [], _ => by simp only [PyData.canLayAll0]
  | x :: xs, h => by
    simp only [PyData.sms, Bool.and_eq_true] at h
    simp only [PyData.canLayAll0, lay_sm x h.1, lays_sm xs h.2, Bool.and_self]
end
mutual
theorem shw_sm : ∀ d : PyData, d.sm = true → d.showable = true
  | .none, _ => by simp only [PyData.showable]
  | .bool _, _ => by simp only [PyData.showable]
  | .int _, h => by simp only [PyData.sm] at h; simp only [PyData.showable, h]
  | .str x, h => by simp only [PyData.showable]
  | .list l, h => by simp only [PyData.sm] at h; simp only [PyData.showable, shws_sm l h]
  | .tuple l, h => by simp only [PyData.sm] at h; simp only [PyData.showable, shws_sm l h]
  | .dict _, h => by simp [PyData.sm] at h
theorem shws_sm : ∀ l : List PyData, PyData.sms l = true → PyData.showableAll l = true
  | [], _ => by simp only [PyData.showableAll]
  | x :: xs, h => by
    simp only [PyData.sms, Bool.and_eq_true] at h
    simp only [PyData.showableAll, shw_sm x h.1, shws_sm xs h.2, Bool.and_self]
end
theorem shaped_sm {d : PyData} (h : d.sm = true) (hd : d.depth ≤ 60) : SeqAt.shaped d = true := by
  unfold SeqAt.shaped
  rw [lay_sm d h]
  simp; omega
theorem join_len (ts : List Str) : (Str.join ", " ts).length ≤ (ts.map fun t => t.length + 2).sum := by
  cases ts with
  | nil => decide
  | cons t r =>
    have h := join_length_add (t :: r) (by simp)
    have : ∀ l : List Str, piled l = (l.map fun t => t.length + 2).sum := by
      intro l
      induction l with
      | nil => rfl
      | cons a b ih => rw [piled_cons, ih]; simp
    rw [this] at h
    omega
mutual
theorem shown_len : ∀ d : PyData, d.sm = true → d.shown.length + 2 ≤ 2000 * d.wt
  | .none, _ => by rw [PyData.shown_none, wt_none]; decide
  | .bool b, _ => by rw [PyData.shown_bool, wt_bool]; cases b <;> decide
  | .int i, h => by
    rw [PyData.shown_int, wt_int]
    rw [sm_int, decide_eq_true_eq] at h
    have := int_text_length_le (k := 1920) (by decide) h
    have e : (Str.ofString (toString i)).length = (toString i).length := by
      rw [Str.ofString_eq_toList]; simp only [Str.length, List.size_toArray, List.length_map, String.length_toList]
    rw [e]
    omega
  | .str x, h => by
    rw [PyData.shown_str, wt_str]
    rw [sm_str, Bool.and_eq_true, decide_eq_true_eq] at h
    omega
  | .list l, h => by
    rw [PyData.shown_list, wt_list]
    rw [sm_list] at h
    have h1 := join_len (PyData.shownAll l)
    have h2 := showns_len l h
    simp only [strLen_append]
    have e1 : (Str.ofString "[").length = 1 := by decide
    have e2 : (Str.ofString "]").length = 1 := by decide
    rw [e1, e2]
    omega
  | .tuple l, h => by
    rw [PyData.shown_tuple, wt_tuple]
    rw [sm_tuple] at h
    have h1 := join_len (PyData.shownAll l)
    have h2 := showns_len l h
    simp only [strLen_append]
    have e1 : (Str.ofString "(").length = 1 := by decide
    have e2 : (Str.ofString (if l.length == 1 then ",)" else ")" : String)).length ≤ 2 := by split <;> decide
    rw [e1]
    omega
  | .dict _, h => by simp [PyData.sm] at h
theorem showns_len : ∀ l : List PyData, PyData.sms l = true → ((PyData.shownAll l).map fun t => t.length + 2).sum ≤ 2000 * PyData.wts l
  | [], _ => by rw [PyData.shownAll_nil]; simp
  | x :: xs, h => by
    simp only [sms_cons, Bool.and_eq_true] at h
    rw [PyData.shownAll_cons, wts_cons]
    have h1 := shown_len x h.1
    have h2 := showns_len xs h.2
    simp only [List.map_cons, List.sum_cons]
    omega
end
theorem repr_ok {μ : Mem} {p : PV} {d : PyData} (h : toD μ p = some d) (hs : d.sm = true) (hw : d.wt ≤ 8000) (hd : d.depth ≤ 60) : fRepr [p] μ = .ok (.str d.shown) μ := by
  simp only [fRepr, h]
  have := shown_len d hs
  rw [if_pos ⟨shw_sm d hs, by show _ ≤ 16777216; omega, by omega⟩]
/-- == with the empty list -/
theorem eqR_nil {μ : Mem} {a b : Nat} {l : List PV} (ha : μ[a]? = some (.lst l)) (hb : μ[b]? = some (.lst [])) (hl : PV.datas l = true) (hs : PyData.sms (PV.pds l) = true) (hd : PyData.depthAll (PV.pds l) ≤ 59) : eqR μ (.ref a) (.ref b) = some l.isEmpty := by
  unfold eqR
  simp only [scalP]
  rw [toD_lst ha hl, toD_lst hb (by simp)]
  simp only
  rw [if_pos ⟨shaped_sm (by simpa using hs) (by simp; omega), shaped_sm (by simp) (by simp)⟩]
  cases l <;> simp [PyData.eqv, PyData.eqvAll]
theorem fNe_nil {μ : Mem} {a b : Nat} {l : List PV} (ha : μ[a]? = some (.lst l)) (hb : μ[b]? = some (.lst [])) (hl : PV.datas l = true) (hs : PyData.sms (PV.pds l) = true) (hd : PyData.depthAll (PV.pds l) ≤ 59) : fNe [.ref a, .ref b] μ = .ok (.bl (!l.isEmpty)) μ := by
  simp only [fNe, eqR_nil ha hb hl hs hd]
theorem fEq_nil {μ : Mem} {a b : Nat} {l : List PV} (ha : μ[a]? = some (.lst l)) (hb : μ[b]? = some (.lst [])) (hl : PV.datas l = true) (hs : PyData.sms (PV.pds l) = true) (hd : PyData.depthAll (PV.pds l) ≤ 59) : fEq [.ref a, .ref b] μ = .ok (.bl l.isEmpty) μ := by
  simp only [fEq, eqR_nil ha hb hl hs hd]
@[simp] theorem pds_app (l k : List PV) : PV.pds (l ++ k) = PV.pds l ++ PV.pds k := by simp [pds_map]
@[simp] theorem datas_app (l k : List PV) : PV.datas (l ++ k) = (PV.datas l && PV.datas k) := by
  induction l with
  | nil => simp
  | cons x xs ih => simp [ih, Bool.and_assoc]
end PL
end
section
set_option autoImplicit false
/-! Memories that grow; results that are new lists. -/
namespace PL
open PySem
@[simp] theorem get_new_2 (μ l : Mem) : (μ ++ l)[μ.length + 1 + 1]? = l[2]? := get_new μ l 2
@[simp] theorem set_new_2 (μ l : Mem) (o : PO) : (μ ++ l).set (μ.length + 1 + 1) o = μ ++ l.set 2 o := set_new μ l 2 o
@[simp] theorem get_new_3 (μ l : Mem) : (μ ++ l)[μ.length + 1 + 1 + 1]? = l[3]? := get_new μ l 3
@[simp] theorem set_new_3 (μ l : Mem) (o : PO) : (μ ++ l).set (μ.length + 1 + 1 + 1) o = μ ++ l.set 3 o := set_new μ l 3 o
@[simp] theorem get_new_4 (μ l : Mem) : (μ ++ l)[μ.length + 1 + 1 + 1 + 1]? = l[4]? := get_new μ l 4
@[simp] theorem set_new_4 (μ l : Mem) (o : PO) : (μ ++ l).set (μ.length + 1 + 1 + 1 + 1) o = μ ++ l.set 4 o := set_new μ l 4 o
@[simp] theorem get_new_5 (μ l : Mem) : (μ ++ l)[μ.length + 1 + 1 + 1 + 1 + 1]? = l[5]? := get_new μ l 5
@[simp] theorem set_new_5 (μ l : Mem) (o : PO) : (μ ++ l).set (μ.length + 1 + 1 + 1 + 1 + 1) o = μ ++ l.set 5 o := set_new μ l 5 o
@[simp] theorem get_new_6 (μ l : Mem) : (μ ++ l)[μ.length + 1 + 1 + 1 + 1 + 1 + 1]? = l[6]? := get_new μ l 6
@[simp] theorem set_new_6 (μ l : Mem) (o : PO) : (μ ++ l).set (μ.length + 1 + 1 + 1 + 1 + 1 + 1) o = μ ++ l.set 6 o := set_new μ l 6 o
@[simp] theorem get_new_7 (μ l : Mem) : (μ ++ l)[μ.length + 1 + 1 + 1 + 1 + 1 + 1 + 1]? = l[7]? := get_new μ l 7
@[simp] theorem set_new_7 (μ l : Mem) (o : PO) : (μ ++ l).set (μ.length + 1 + 1 + 1 + 1 + 1 + 1 + 1) o = μ ++ l.set 7 o := set_new μ l 7 o
@[simp] theorem get_new_8 (μ l : Mem) : (μ ++ l)[μ.length + 1 + 1 + 1 + 1 + 1 + 1 + 1 + 1]? = l[8]? := get_new μ l 8
@[simp] theorem set_new_8 (μ l : Mem) (o : PO) : (μ ++ l).set (μ.length + 1 + 1 + 1 + 1 + 1 + 1 + 1 + 1) o = μ ++ l.set 8 o := set_new μ l 8 o
@[simp] theorem fTup5 (a0 a1 a2 a3 a4 : PV) (μ : Mem) : fTup [a0, a1, a2, a3, a4] μ = .ok (.tup [a0, a1, a2, a3, a4]) μ := id rfl
@[simp] theorem fLst5 (a0 a1 a2 a3 a4 : PV) (μ : Mem) : fLst [a0, a1, a2, a3, a4] μ = .ok (.ref μ.length) (μ ++ [.lst [a0, a1, a2, a3, a4]]) := id rfl
@[simp] theorem fTup6 (a0 a1 a2 a3 a4 a5 : PV) (μ : Mem) : fTup [a0, a1, a2, a3, a4, a5] μ = .ok (.tup [a0, a1, a2, a3, a4, a5]) μ := id rfl
@[simp] theorem fLst6 (a0 a1 a2 a3 a4 a5 : PV) (μ : Mem) : fLst [a0, a1, a2, a3, a4, a5] μ = .ok (.ref μ.length) (μ ++ [.lst [a0, a1, a2, a3, a4, a5]]) := id rfl
@[simp] theorem fTup7 (a0 a1 a2 a3 a4 a5 a6 : PV) (μ : Mem) : fTup [a0, a1, a2, a3, a4, a5, a6] μ = .ok (.tup [a0, a1, a2, a3, a4, a5, a6]) μ := id rfl
@[simp] theorem fLst7 (a0 a1 a2 a3 a4 a5 a6 : PV) (μ : Mem) : fLst [a0, a1, a2, a3, a4, a5, a6] μ = .ok (.ref μ.length) (μ ++ [.lst [a0, a1, a2, a3, a4, a5, a6]]) := id rfl
@[simp] theorem fTup8 (a0 a1 a2 a3 a4 a5 a6 a7 : PV) (μ : Mem) : fTup [a0, a1, a2, a3, a4, a5, a6, a7] μ = .ok (.tup [a0, a1, a2, a3, a4, a5, a6, a7]) μ := id rfl
@[simp] theorem fLst8 (a0 a1 a2 a3 a4 a5 a6 a7 : PV) (μ : Mem) : fLst [a0, a1, a2, a3, a4, a5, a6, a7] μ = .ok (.ref μ.length) (μ ++ [.lst [a0, a1, a2, a3, a4, a5, a6, a7]]) := id rfl
@[simp] theorem fTup9 (a0 a1 a2 a3 a4 a5 a6 a7 a8 : PV) (μ : Mem) : fTup [a0, a1, a2, a3, a4, a5, a6, a7, a8] μ = .ok (.tup [a0, a1, a2, a3, a4, a5, a6, a7, a8]) μ := id rfl
@[simp] theorem fLst9 (a0 a1 a2 a3 a4 a5 a6 a7 a8 : PV) (μ : Mem) : fLst [a0, a1, a2, a3, a4, a5, a6, a7, a8] μ = .ok (.ref μ.length) (μ ++ [.lst [a0, a1, a2, a3, a4, a5, a6, a7, a8]]) := id rfl
@[simp] theorem fTup10 (a0 a1 a2 a3 a4 a5 a6 a7 a8 a9 : PV) (μ : Mem) : fTup [a0, a1, a2, a3, a4, a5, a6, a7, a8, a9] μ = .ok (.tup [a0, a1, a2, a3, a4, a5, a6, a7, a8, a9]) μ := id rfl
@[simp] theorem fLst10 (a0 a1 a2 a3 a4 a5 a6 a7 a8 a9 : PV) (μ : Mem) : fLst [a0, a1, a2, a3, a4, a5, a6, a7, a8, a9] μ = .ok (.ref μ.length) (μ ++ [.lst [a0, a1, a2, a3, a4, a5, a6, a7, a8, a9]]) := id rfl
@[simp] theorem fTup11 (a0 a1 a2 a3 a4 a5 a6 a7 a8 a9 a10 : PV) (μ : Mem) : fTup [a0, a1, a2, a3, a4, a5, a6, a7, a8, a9, a10] μ = .ok (.tup [a0, a1, a2, a3, a4, a5, a6, a7, a8, a9, a10]) μ := id rfl
@[simp] theorem fLst11 (a0 a1 a2 a3 a4 a5 a6 a7 a8 a9 a10 : PV) (μ : Mem) : fLst [a0, a1, a2, a3, a4, a5, a6, a7, a8, a9, a10] μ = .ok (.ref μ.length) (μ ++ [.lst [a0, a1, a2, a3, a4, a5, a6, a7, a8, a9, a10]]) := id rfl
@[simp] theorem fTup12 (a0 a1 a2 a3 a4 a5 a6 a7 a8 a9 a10 a11 : PV) (μ : Mem) : fTup [a0, a1, a2, a3, a4, a5, a6, a7, a8, a9, a10, a11] μ = .ok (.tup [a0, a1, a2, a3, a4, a5, a6, a7, a8, a9, a10, a11]) μ := id rfl
@[simp] theorem fLst12 (a0 a1 a2 a3 a4 a5 a6 a7 a8 a9 a10 a11 : PV) (μ : Mem) : fLst [a0, a1, a2, a3, a4, a5, a6, a7, a8, a9, a10, a11] μ = .ok (.ref μ.length) (μ ++ [.lst [a0, a1, a2, a3, a4, a5, a6, a7, a8, a9, a10, a11]]) := id rfl
@[simp] theorem fTup13 (a0 a1 a2 a3 a4 a5 a6 a7 a8 a9 a10 a11 a12 : PV) (μ : Mem) : fTup [a0, a1, a2, a3, a4, a5, a6, a7, a8, a9, a10, a11, a12] μ = .ok (.tup [a0, a1, a2, a3, a4, a5, a6, a7, a8, a9, a10, a11, a12]) μ := id rfl
@[simp] theorem fLst13 (a0 a1 a2 a3 a4 a5 a6 a7 a8 a9 a10 a11 a12 : PV) (μ : Mem) : fLst [a0, a1, a2, a3, a4, a5, a6, a7, a8, a9, a10, a11, a12] μ = .ok (.ref μ.length) (μ ++ [.lst [a0, a1, a2, a3, a4, a5, a6, a7, a8, a9, a10, a11, a12]]) := id rfl
@[simp] theorem fTup14 (a0 a1 a2 a3 a4 a5 a6 a7 a8 a9 a10 a11 a12 a13 : PV) (μ : Mem) : fTup [a0, a1, a2, a3, a4, a5, a6, a7, a8, a9, a10, a11, a12, a13] μ = .ok (.tup [a0, a1, a2, a3, a4, a5, a6, a7, a8, a9, a10, a11, a12, a13]) μ := id rfl
@[simp] theorem fLst14 (a0 a1 a2 a3 a4 a5 a6 a7 a8 a9 a10 a11 a12 a13 : PV) (μ : Mem) : fLst [a0, a1, a2, a3, a4, a5, a6, a7, a8, a9, a10, a11, a12, a13] μ = .ok (.ref μ.length) (μ ++ [.lst [a0, a1, a2, a3, a4, a5, a6, a7, a8, a9, a10, a11, a12, a13]]) := id rfl
@[simp] theorem fTup15 (a0 a1 a2 a3 a4 a5 a6 a7 a8 a9 a10 a11 a12 a13 a14 : PV) (μ : Mem) : fTup [a0, a1, a2, a3, a4, a5, a6, a7, a8, a9, a10, a11, a12, a13, a14] μ = .ok (.tup [a0, a1, a2, a3, a4, a5, a6, a7, a8, a9, a10, a11, a12, a13, a14]) μ := id rfl
@[simp] theorem fLst15 (a0 a1 a2 a3 a4 a5 a6 a7 a8 a9 a10 a11 a12 a13 a14 : PV) (μ : Mem) : fLst [a0, a1, a2, a3, a4, a5, a6, a7, a8, a9, a10, a11, a12, a13, a14] μ = .ok (.ref μ.length) (μ ++ [.lst [a0, a1, a2, a3, a4, a5, a6, a7, a8, a9, a10, a11, a12, a13, a14]]) := id rfl
@[simp] theorem fTup16 (a0 a1 a2 a3 a4 a5 a6 a7 a8 a9 a10 a11 a12 a13 a14 a15 : PV) (μ : Mem) : fTup [a0, a1, a2, a3, a4, a5, a6, a7, a8, a9, a10, a11, a12, a13, a14, a15] μ = .ok (.tup [a0, a1, a2, a3, a4, a5, a6, a7, a8, a9, a10, a11, a12, a13, a14, a15]) μ := id rfl
@[simp] theorem fLst16 (a0 a1 a2 a3 a4 a5 a6 a7 a8 a9 a10 a11 a12 a13 a14 a15 : PV) (μ : Mem) : fLst [a0, a1, a2, a3, a4, a5, a6, a7, a8, a9, a10, a11, a12, a13, a14, a15] μ = .ok (.ref μ.length) (μ ++ [.lst [a0, a1, a2, a3, a4, a5, a6, a7, a8, a9, a10, a11, a12, a13, a14, a15]]) := id rfl
def Ext (μ m : Mem) : Prop := ∃ l, m = μ ++ l
@[simp] theorem ext_app (μ l : Mem) : Ext μ (μ ++ l) := ⟨l, rfl⟩
@[simp] theorem ext_refl (μ : Mem) : Ext μ μ := ⟨[], by simp⟩
theorem Ext.refl (μ : Mem) : Ext μ μ := ⟨[], by simp⟩
theorem Ext.app (μ l : Mem) : Ext μ (μ ++ l) := ⟨l, rfl⟩
theorem Ext.trans {a b d : Mem} (h : Ext a b) (k : Ext b d) : Ext a d := by
  obtain ⟨l, rfl⟩ := h
  obtain ⟨j, rfl⟩ := k
  exact ⟨l ++ j, by simp⟩
theorem Ext.get {μ m : Mem} (h : Ext μ m) {k : Nat} {o : PO} (e : μ[k]? = some o) : m[k]? = some o := by
  obtain ⟨l, rfl⟩ := h
  exact get_some e
theorem Ext.len {μ m : Mem} (h : Ext μ m) : μ.length ≤ m.length := by
  obtain ⟨l, rfl⟩ := h
  simp
theorem Ext.set {μ m : Mem} (h : Ext μ m) {k : Nat} (hk : μ.length ≤ k) (o : PO) : Ext μ (m.set k o) := by
  obtain ⟨l, rfl⟩ := h
  refine ⟨l.set (k - μ.length) o, ?_⟩
  rw [List.set_append_right _ _ hk]
/-- a new list -/
def NewL (μ : Mem) (l : List PV) (p : PV) (m : Mem) : Prop := ∃ k, p = .ref k ∧ μ.length ≤ k ∧ m[k]? = some (.lst l) ∧ Ext μ m
theorem newL_mk {μ m : Mem} {l : List PV} {k : Nat} (h1 : μ.length ≤ k) (h2 : m[k]? = some (.lst l)) (h3 : Ext μ m) : NewL μ l (.ref k) m := ⟨k, rfl, h1, h2, h3⟩
theorem newL_iff (μ r : Mem) (l : List PV) (k : Nat) : NewL μ l (.ref (μ.length + k)) (μ ++ r) ↔ r[k]? = some (.lst l) := by
  constructor
  · rintro ⟨j, e, h1, h2, h3⟩
    cases e
    simpa using h2
  · intro h
    exact newL_mk (by omega) (by rw [get_new]; exact h) (Ext.app _ _)
@[simp] theorem newL_0 (μ r : Mem) (l : List PV) : NewL μ l (.ref (μ.length)) (μ ++ r) ↔ r[0]? = some (.lst l) := newL_iff μ r l 0
@[simp] theorem newL_1 (μ r : Mem) (l : List PV) : NewL μ l (.ref (μ.length + 1)) (μ ++ r) ↔ r[1]? = some (.lst l) := newL_iff μ r l 1
@[simp] theorem newL_2 (μ r : Mem) (l : List PV) : NewL μ l (.ref (μ.length + 1 + 1)) (μ ++ r) ↔ r[2]? = some (.lst l) := newL_iff μ r l 2
@[simp] theorem newL_3 (μ r : Mem) (l : List PV) : NewL μ l (.ref (μ.length + 1 + 1 + 1)) (μ ++ r) ↔ r[3]? = some (.lst l) := newL_iff μ r l 3
@[simp] theorem newL_4 (μ r : Mem) (l : List PV) : NewL μ l (.ref (μ.length + 1 + 1 + 1 + 1)) (μ ++ r) ↔ r[4]? = some (.lst l) := newL_iff μ r l 4
@[simp] theorem newL_5 (μ r : Mem) (l : List PV) : NewL μ l (.ref (μ.length + 1 + 1 + 1 + 1 + 1)) (μ ++ r) ↔ r[5]? = some (.lst l) := newL_iff μ r l 5
@[simp] theorem newL_6 (μ r : Mem) (l : List PV) : NewL μ l (.ref (μ.length + 1 + 1 + 1 + 1 + 1 + 1)) (μ ++ r) ↔ r[6]? = some (.lst l) := newL_iff μ r l 6
@[simp] theorem newL_7 (μ r : Mem) (l : List PV) : NewL μ l (.ref (μ.length + 1 + 1 + 1 + 1 + 1 + 1 + 1)) (μ ++ r) ↔ r[7]? = some (.lst l) := newL_iff μ r l 7
@[simp] theorem newL_8 (μ r : Mem) (l : List PV) : NewL μ l (.ref (μ.length + 1 + 1 + 1 + 1 + 1 + 1 + 1 + 1)) (μ ++ r) ↔ r[8]? = some (.lst l) := newL_iff μ r l 8
theorem fn_sat_new {n : Nat} {b : Sm} {args : List PV} {μ : Mem} {l : List PV} (h : (run n b args μ).sat (NewL μ l)) : (fn n b args μ).sat (NewL μ l) := by
  obtain ⟨q, m, e, k, rfl, hk, h1, h2⟩ := rsat_ex h
  rw [fn_ev, e, gc_keep (by simp [PV.under]; omega)]
  exact (rsat_ok _ _ _).mpr ⟨k, rfl, hk, h1, h2⟩
/-- a property that survives the dropping of new cells -/
theorem gc_sat {μ : Mem} {r : Res PV} {P : PV → Mem → Prop} (h : r.sat P) (hs : ∀ p m, P p m → μ.length ≤ m.length → p.under μ.length = true → P p (m.take μ.length)) : (gc μ r).sat P := by
  obtain ⟨p, m, rfl, hp⟩ := rsat_ex h
  unfold gc
  simp only
  split
  · next g => rw [rsat_ok]; exact hs p m hp g.1 g.2.1
  · rw [rsat_ok]; exact hp
theorem fn_sat {n : Nat} {b : Sm} {args : List PV} {μ : Mem} {P : PV → Mem → Prop} (h : (run n b args μ).sat P) (hs : ∀ p m, P p m → μ.length ≤ m.length → p.under μ.length = true → P p (m.take μ.length)) : (fn n b args μ).sat P := by
  rw [fn_ev]; exact gc_sat h hs
theorem ok_of_sat {r : Res PV} {p : PV} {μ : Mem} (h : r.sat fun q m => q = p ∧ m = μ) : r = .ok p μ := by
  obtain ⟨q, m, e, rfl, rfl⟩ := rsat_ex h
  exact e
@[simp] theorem cut_toI (l : List PV) {j : Int} (h : 0 ≤ j) : cut l none (some j) = l.take j.toNat := by
  have e : j = (j.toNat : Int) := by omega
  conv => lhs; rw [e]
  exact cut_to l _
@[simp] theorem cut_fromI (l : List PV) {j : Int} (h : 0 ≤ j) : cut l (some j) none = l.drop j.toNat := by
  have e : j = (j.toNat : Int) := by omega
  conv => lhs; rw [e]
  exact cut_from l _
/-- data of mapped lists -/
theorem datas_map {α : Type} (f : α → PV) (h : ∀ x, (f x).data = true) (l : List α) : PV.datas (l.map f) = true := by
  rw [datas_iff]; intro p hp; obtain ⟨x, _, rfl⟩ := List.mem_map.mp hp; exact h x
@[simp] theorem datas_int (l : List Int) : PV.datas (l.map .int) = true := datas_map _ (fun x => by simp) l
theorem sms_map {α : Type} (f : α → PV) (l : List α) (h : ∀ x ∈ l, (f x).pd.sm = true) : PyData.sms (PV.pds (l.map f)) = true := by
  rw [sms_iff]; intro d hd
  rw [pds_map, List.map_map] at hd
  obtain ⟨x, hx, rfl⟩ := List.mem_map.mp hd
  exact h x hx
theorem dps_map {α : Type} (f : α → PV) (l : List α) (k : Nat) (h : ∀ x ∈ l, (f x).pd.depth ≤ k) : PyData.depthAll (PV.pds (l.map f)) ≤ k := by
  apply dps_le; intro d hd
  rw [pds_map, List.map_map] at hd
  obtain ⟨x, hx, rfl⟩ := List.mem_map.mp hd
  exact h x hx
theorem wts_map {α : Type} (f : α → PV) (l : List α) (k : Nat) (h : ∀ x ∈ l, (f x).pd.wt ≤ k) : PyData.wts (PV.pds (l.map f)) ≤ k * l.length := by
  have := wts_le (l := PV.pds (l.map f)) (k := k) (by
    intro d hd
    rw [pds_map, List.map_map] at hd
    obtain ⟨x, hx, rfl⟩ := List.mem_map.mp hd
    exact h x hx)
  simpa [pds_map] using this
/-- numbers that are not too great to be shown -/
abbrev sml (z : Int) : Prop := z.natAbs < 10 ^ 200
theorem log_sml {z : Int} (h : sml z) : z.natAbs.log2 < 1920 := by
  by_cases h0 : z.natAbs = 0
  · rw [h0]; decide
  · exact (Nat.log2_lt h0).mpr (Nat.lt_of_lt_of_le h (by decide +kernel))
theorem fSum_ref (μ : Mem) (n : Nat) : fSum [.ref n] μ = (match (getL μ (.ref n)).bind intsOf with | some is => .ok (.int is.sum) μ | _ => .stuck) := rfl
theorem intsOf_mapI (l : List Int) : intsOf (l.map .int) = some l := by
  induction l with
  | nil => rfl
  | cons x xs ih => simp [intsOf, ih]
theorem fSum_lst {μ : Mem} {n : Nat} {l : List Int} (h : μ[n]? = some (.lst (l.map .int))) : fSum [.ref n] μ = .ok (.int l.sum) μ := by
  rw [fSum_ref]
  simp only [getL, h, Option.bind_some, intsOf_mapI]
/-- a comprehension ahead of what follows -/
theorem lc_of {α : Type} {it : It} {g : Tg} {t e : Ex} {vs : List Nat} {env : Env} {μ μ1 : Mem} {lk : List (Nat × List PV)} {k : PV → Mem → Out} {W : Wp} (enc : α → PV) (F : α → Option PV) (xs : List α) {ys : List PV} (he : xs.filterMap F = ys) (hi : it env μ = .ok ⟨xs.map enc, lk⟩ μ1) (hl : locked lk μ1) (hz : xs.length < SL)
    (st : ∀ x ∈ xs, ∀ l, ∃ e1, g (enc x) (wipe env vs) (μ1 ++ l) = .ok e1 (μ1 ++ l) ∧
      match F x with
      | some q => t e1 (μ1 ++ l) = .ok (.bl true) (μ1 ++ l) ∧ e e1 (μ1 ++ l) = .ok q (μ1 ++ l)
      | none => t e1 (μ1 ++ l) = .ok (.bl false) (μ1 ++ l))
    (hk : (k (.ref μ1.length) (μ1 ++ [.lst ys])).sat W) : (Out.of (lc it g t e vs env μ) k).sat W := by
  subst he
  rw [lc_pure enc F xs hi (fun l => locked_app hl l) hz st]
  exact hk
theorem lc_bind {α β : Type} {it : It} {g : Tg} {t e : Ex} {vs : List Nat} {env : Env} {μ μ1 : Mem} {lk : List (Nat × List PV)} {k : PV → Mem → Res β} {P : β → Mem → Prop} (enc : α → PV) (F : α → Option PV) (xs : List α) {ys : List PV} (he : xs.filterMap F = ys) (hi : it env μ = .ok ⟨xs.map enc, lk⟩ μ1) (hl : locked lk μ1) (hz : xs.length < SL)
    (st : ∀ x ∈ xs, ∀ l, ∃ e1, g (enc x) (wipe env vs) (μ1 ++ l) = .ok e1 (μ1 ++ l) ∧
      match F x with
      | some q => t e1 (μ1 ++ l) = .ok (.bl true) (μ1 ++ l) ∧ e e1 (μ1 ++ l) = .ok q (μ1 ++ l)
      | none => t e1 (μ1 ++ l) = .ok (.bl false) (μ1 ++ l))
    (hk : (k (.ref μ1.length) (μ1 ++ [.lst ys])).sat P) : ((lc it g t e vs env μ).bind k).sat P := by
  subst he
  rw [lc_pure enc F xs hi (fun l => locked_app hl l) hz st]
  exact hk
theorem filterMap_map' {α β : Type} (f : α → Option β) (enc : β → PV) (l : List α) : l.filterMap (fun x => (f x).map enc) = (l.filterMap f).map enc := by rw [List.map_filterMap]
theorem filterMap_if {α : Type} (p : α → Bool) (enc : α → PV) (l : List α) : l.filterMap (fun x => if p x then some (enc x) else none) = (l.filter p).map enc := by
  induction l with
  | nil => rfl
  | cons x xs ih => by_cases h : p x <;> simp [h, ih]
theorem filterMap_some {α : Type} (enc : α → PV) (l : List α) : l.filterMap (fun x => some (enc x)) = l.map enc := by simp
end PL
end
section
set_option autoImplicit false
/-! The law's pot: two cells that change, the rest stays. -/
namespace PL
open PySem
/-- pot at cell a + 1, its great numbers at cell a -/
def Pot (a : Nat) (m : Mem) : Prop := ∃ (bs : List Int) (f l t : Int), m[a + 1]? = some (.lst [.ref a, .int f, .int l, .int t]) ∧ m[a]? = some (.lst (bs.map .int)) ∧ bs.length ≤ 100 ∧ -(2 ^ 64) < l ∧ l < 2 ^ 64
def Fr (a : Nat) (m m' : Mem) : Prop := m.length ≤ m'.length ∧ ∀ i, i ≠ a → i ≠ a + 1 → i < m.length → m'[i]? = m[i]?
theorem Fr.refl (a : Nat) (m : Mem) : Fr a m m := ⟨Nat.le_refl _, fun _ _ _ _ => rfl⟩
theorem Fr.trans {a : Nat} {x y z : Mem} (h : Fr a x y) (k : Fr a y z) : Fr a x z := ⟨Nat.le_trans h.1 k.1, fun i h1 h2 h3 => (k.2 i h1 h2 (Nat.lt_of_lt_of_le h3 h.1)).trans (h.2 i h1 h2 h3)⟩
theorem Fr.get {a : Nat} {m m' : Mem} (h : Fr a m m') {i : Nat} {o : PO} (e : m[i]? = some o) (h1 : i ≠ a) (h2 : i ≠ a + 1) : m'[i]? = some o := by
  rw [h.2 i h1 h2 (List.getElem?_eq_some_iff.mp e).1]; exact e
theorem Fr.ext {a : Nat} {m m' : Mem} (h : Ext m m') : Fr a m m' := ⟨h.len, fun i _ _ h3 => by obtain ⟨l, rfl⟩ := h; rw [List.getElem?_append_left h3]⟩
theorem Fr.set {a : Nat} {m m' : Mem} (h : Fr a m m') {k : Nat} (o : PO) (hk : k = a ∨ k = a + 1 ∨ m.length ≤ k) : Fr a m (m'.set k o) := by
  refine ⟨by simpa using h.1, fun i h1 h2 h3 => ?_⟩
  rw [List.getElem?_set_ne (by omega)]
  exact h.2 i h1 h2 h3
theorem Pot.lt {a : Nat} {m : Mem} (h : Pot a m) : a + 1 < m.length := by
  obtain ⟨bs, f, l, t, h1, _⟩ := h
  exact (List.getElem?_eq_some_iff.mp h1).1
theorem Pot.ext {a : Nat} {m m' : Mem} (h : Pot a m) (e : Ext m m') : Pot a m' := by
  obtain ⟨bs, f, l, t, h1, h2, h3, h4, h5⟩ := h
  exact ⟨bs, f, l, t, e.get h1, e.get h2, h3, h4, h5⟩
theorem Pot.app {a : Nat} {m : Mem} (h : Pot a m) (l : Mem) : Pot a (m ++ l) := h.ext (Ext.app _ _)
theorem Pot.set {a : Nat} {m : Mem} (h : Pot a m) {k : Nat} (o : PO) (hk : a + 1 < k) : Pot a (m.set k o) := by
  obtain ⟨bs, f, l, t, h1, h2, h3, h4, h5⟩ := h
  exact ⟨bs, f, l, t, by rw [List.getElem?_set_ne (by omega)]; exact h1, by rw [List.getElem?_set_ne (by omega)]; exact h2, h3, h4, h5⟩
theorem Pot.take {a : Nat} {m : Mem} (h : Pot a m) {n : Nat} (hn : a + 1 < n) : Pot a (m.take n) := by
  obtain ⟨bs, f, l, t, h1, h2, h3, h4, h5⟩ := h
  exact ⟨bs, f, l, t, by rw [List.getElem?_take_of_lt hn]; exact h1, by rw [List.getElem?_take_of_lt (by omega)]; exact h2, h3, h4, h5⟩
theorem Fr.take {a : Nat} {m m' : Mem} (h : Fr a m m') : Fr a m (m'.take m.length) := by
  refine ⟨by have := h.1; simp; omega, fun i h1 h2 h3 => ?_⟩
  rw [List.getElem?_take_of_lt h3]
  exact h.2 i h1 h2 h3
/-- pot goes on, the rest stays -/
def Go (a : Nat) (m m' : Mem) : Prop := Pot a m' ∧ Fr a m m'
theorem Go.trans {a : Nat} {x y z : Mem} (h : Go a x y) (k : Go a y z) : Go a x z := ⟨k.1, h.2.trans k.2⟩
theorem Go.take {a : Nat} {m m' : Mem} (hp : Pot a m) (h : Go a m m') : Go a m (m'.take m.length) := ⟨h.1.take hp.lt, h.2.take⟩
theorem Go.app {a : Nat} {m m' : Mem} (h : Go a m m') (l : Mem) : Go a m (m' ++ l) := ⟨h.1.app l, h.2.trans (Fr.ext (Ext.app _ _))⟩
theorem Go.ext {a : Nat} {m m' : Mem} (hp : Pot a m) (h : Ext m m') : Go a m m' := ⟨hp.ext h, Fr.ext h⟩
theorem Go.refl {a : Nat} {m : Mem} (hp : Pot a m) : Go a m m := ⟨hp, Fr.refl _ _⟩
theorem Go.get {a : Nat} {m m' : Mem} (h : Go a m m') {i : Nat} {o : PO} (e : m[i]? = some o) (h1 : a + 1 < i) : m'[i]? = some o := h.2.get e (by omega) (by omega)
/-- a def that draws from the pot and hands back data -/
theorem fn_go {a n : Nat} {b : Sm} {args : List PV} {μ : Mem} {P : PV → Prop} (hp : Pot a μ) (h : (run n b args μ).sat fun p m => P p ∧ Go a μ m) : (fn n b args μ).sat fun p m => P p ∧ Go a μ m :=
  fn_sat h fun _ _ h1 _ _ => ⟨h1.1, h1.2.take hp⟩
@[simp] theorem fMod_int (i j : Int) (μ : Mem) : fMod [.int i, .int j] μ = if 0 < j then .ok (.int (i % j)) μ else .stuck := id rfl
@[simp] theorem fDiv_int (i j : Int) (μ : Mem) : fDiv [.int i, .int j] μ = if divOk j then .ok (.int (i / j)) μ else .stuck := id rfl
@[simp] theorem fMul_int (i j : Int) (μ : Mem) : fMul [.int i, .int j] μ = if mulOk i j then .ok (.int (i * j)) μ else .stuck := id rfl
@[simp] theorem fPow_int (i j : Int) (μ : Mem) : fPow [.int i, .int j] μ = if 0 ≤ j ∧ j ≤ 1000000 ∧ i.natAbs < 2 ^ 64 then .ok (.int (i ^ j.toNat)) μ else .stuck := id rfl
@[simp] theorem fShl_int (i j : Int) (μ : Mem) : fShl [.int i, .int j] μ = if shlOk i j then .ok (.int (i * 2 ^ j.toNat)) μ else .stuck := id rfl
@[simp] theorem fShr_int (i j : Int) (μ : Mem) : fShr [.int i, .int j] μ = if 0 ≤ j then .ok (.int (i / 2 ^ j.toNat)) μ else .stuck := id rfl
@[simp] theorem fBAnd_int (i j : Int) (μ : Mem) : fBAnd [.int i, .int j] μ = .ok (.int (Builtin.bitAnd i j)) μ := id rfl
@[simp] theorem fBOr_int (i j : Int) (μ : Mem) : fBOr [.int i, .int j] μ = .ok (.int (Builtin.bitOr i j)) μ := id rfl
@[simp] theorem fBXor_int (i j : Int) (μ : Mem) : fBXor [.int i, .int j] μ = .ok (.int (Builtin.bitXor i j)) μ := id rfl
@[simp] theorem fSet_ref (n : Nat) (i : Int) (p : PV) (μ : Mem) : fSet [.ref n, .int i, p] μ = (match μ[n]? with
    | some (.lst xs) => match ixN xs.length i with | some k => .ok .non (μ.set n (.lst (xs.set k p))) | none => .stuck
    | _ => .stuck) := id rfl
@[simp] theorem fPop_ref (n : Nat) (μ : Mem) : fPop [.ref n] μ = (match μ[n]? with
    | some (.lst xs) => match xs[xs.length - 1]? with | some q => .ok q (μ.set n (.lst xs.dropLast)) | none => .stuck
    | _ => .stuck) := id rfl
@[simp] theorem get_set_same {μ : Mem} {k : Nat} {o o' : PO} (h : μ[k]? = some o) : (μ.set k o')[k]? = some o' := by
  rw [List.getElem?_set_self (List.getElem?_eq_some_iff.mp h).1]
@[simp] theorem flatP_str (x : Str) : flatP (.str x) = true := id rfl
@[simp] theorem flatP_int (x : Int) : flatP (.int x) = true := id rfl
@[simp] theorem flatP_bl (x : Bool) : flatP (.bl x) = true := id rfl
@[simp] theorem flatP_non : flatP .non = true := id rfl
@[simp] theorem eqF_str (x y : Str) : eqF (.str x) (.str y) = decide (x = y) := by
  show (x == y) = decide (x = y)
  by_cases h : x = y <;> simp [h]
@[simp] theorem eqF_int (x y : Int) : eqF (.int x) (.int y) = decide (x = y) := by
  show (x == y) = decide (x = y)
  by_cases h : x = y <;> simp [h]
@[simp] theorem eqF_int_str (x : Int) (y : Str) : eqF (.int x) (.str y) = false := id rfl
@[simp] theorem eqF_str_int (x : Int) (y : Str) : eqF (.str y) (.int x) = false := id rfl
@[simp] theorem strPair_tup (p : PV) (l : List PV) : strPair p (.tup l) = none := by cases p <;> rfl
@[simp] theorem strPair_ref (p : PV) (l : Nat) : strPair p (.ref l) = none := by cases p <;> rfl
theorem inR_tup {p : PV} {l : List PV} {μ : Mem} (h : flatP p = true) (hl : l.all flatP = true) : inR μ p (.tup l) = some (l.any fun z => eqF z p) := by
  simp only [inR, strPair_tup, inSeq, getL]
  rw [if_pos ⟨h, hl⟩]
theorem inR_lst {p : PV} {n : Nat} {l : List PV} {μ : Mem} (e : μ[n]? = some (.lst l)) (h : flatP p = true) (hl : l.all flatP = true) : inR μ p (.ref n) = some (l.any fun z => eqF z p) := by
  simp only [inR, strPair_ref, inSeq, getL, e]
  rw [if_pos ⟨h, hl⟩]
@[simp] theorem fIn_tup {p : PV} {l : List PV} {μ : Mem} (h : flatP p = true) (hl : l.all flatP = true) : fIn [p, .tup l] μ = .ok (.bl (l.any fun z => eqF z p)) μ := by simp only [fIn, inR_tup h hl]
@[simp] theorem fNotIn_tup {p : PV} {l : List PV} {μ : Mem} (h : flatP p = true) (hl : l.all flatP = true) : fNotIn [p, .tup l] μ = .ok (.bl (!l.any fun z => eqF z p)) μ := by simp only [fNotIn, inR_tup h hl]
theorem fIn_lst {p : PV} {n : Nat} {l : List PV} {μ : Mem} (e : μ[n]? = some (.lst l)) (h : flatP p = true) (hl : l.all flatP = true) : fIn [p, .ref n] μ = .ok (.bl (l.any fun z => eqF z p)) μ := by simp only [fIn, inR_lst e h hl]
theorem fNotIn_lst {p : PV} {n : Nat} {l : List PV} {μ : Mem} (e : μ[n]? = some (.lst l)) (h : flatP p = true) (hl : l.all flatP = true) : fNotIn [p, .ref n] μ = .ok (.bl (!l.any fun z => eqF z p)) μ := by simp only [fNotIn, inR_lst e h hl]
theorem seq_sat {a b : Sm} {env : Env} {μ : Mem} {W : Wp} (P : Env → Mem → Prop) (hA : (a env μ).sat { nx := P }) (hb : ∀ e m, P e m → (b e m).sat W) : (seq a b env μ).sat W := by
  rw [seq_ev]
  refine then_sat (sat_imp hA (fun e m h => hb e m h) (fun _ _ h => h.elim) (fun _ _ h => h.elim) (fun _ _ h => h.elim))
theorem then_sat' {o : Out} {b : Sm} {W : Wp} (P : Env → Mem → Prop) (hA : o.sat { nx := P }) (hb : ∀ e m, P e m → (b e m).sat W) : (o.then b).sat W :=
  then_sat (sat_imp hA (fun e m h => hb e m h) (fun _ _ h => h.elim) (fun _ _ h => h.elim) (fun _ _ h => h.elim))
@[simp] theorem fMul_ref (a : Nat) (k : Int) (μ : Mem) : fMul [.ref a, .int k] μ = (match μ[a]? with
    | some (.lst xs) => if -(2 ^ 63) ≤ k ∧ k < 2 ^ 63 ∧ xs.length * k.toNat ≤ SL then .ok (.ref μ.length) (μ ++ [.lst (List.replicate k.toNat xs).flatten]) else .stuck
    | _ => .stuck) := id rfl
theorem locked_ext {lk : List (Nat × List PV)} {μ m : Mem} (h : locked lk μ) (e : Ext μ m) : locked lk m := by
  obtain ⟨l, rfl⟩ := e
  exact locked_app h l
/-- what is walked, the same in all that follows -/
def Walked (p : PV) (l : List PV) (lk : List (Nat × List PV)) (μ : Mem) : Prop := locked lk μ ∧ ∀ m, Ext μ m → itsOf p m = .ok ⟨l, lk⟩ m
theorem walked_tup (l : List PV) (μ : Mem) : Walked (.tup l) l [] μ := ⟨locked_nil _, fun _ _ => rfl⟩
theorem walked_lst {n : Nat} {l : List PV} {μ : Mem} (h : μ[n]? = some (.lst l)) : Walked (.ref n) l [(n, l)] μ := ⟨locked_lst _ h, fun _ e => itsOf_lst _ (e.get h)⟩
/-- a for without break -/
theorem for_nb {α : Type} {lk : List (Nat × List PV)} {g : Tg} {b k : Sm} {W : Wp} {env : Env} {μ : Mem} (enc : α → PV) (xs : List α) (R : Nat → Env → Mem → Prop) (hl : ∀ i env μ, R i env μ → locked lk μ) (h : R 0 env μ)
    (st : ∀ i x env μ, xs[i]? = some x → R i env μ → (turn g b (enc x) env μ).sat { nx := R (i + 1), ct := R (i + 1), rt := W.rt })
    (hk : ∀ e m, R xs.length e m → (k e m).sat W) : ((forN lk g b (xs.map enc) env μ).then k).sat W :=
  for_sat enc xs R hl h (fun i x env μ hx hR => sat_imp (st i x env μ hx hR) (fun _ _ h => h) (fun _ _ h => h) (fun _ _ h => h.elim) (fun _ _ h => h)) hk
/-- a for that always goes through -/
theorem for_thru {α : Type} {lk : List (Nat × List PV)} {g : Tg} {b k : Sm} {W : Wp} {env : Env} {μ : Mem} (enc : α → PV) (xs : List α) (R : Nat → Env → Mem → Prop) (hl : ∀ i env μ, R i env μ → locked lk μ) (h : R 0 env μ)
    (st : ∀ i x env μ, xs[i]? = some x → R i env μ → (turn g b (enc x) env μ).sat { nx := R (i + 1), ct := R (i + 1) })
    (hk : ∀ e m, R xs.length e m → (k e m).sat W) : ((forN lk g b (xs.map enc) env μ).then k).sat W :=
  for_nb enc xs R hl h (fun i x env μ hx hR => sat_imp (st i x env μ hx hR) (fun _ _ h => h) (fun _ _ h => h.elim) (fun _ _ h => h.elim) (fun _ _ h => h)) hk
theorem lays_int (l : List Int) : PyData.canLayAll0 (PV.pds (l.map .int)) = true := by
  induction l with
  | nil => simp [PyData.canLayAll0]
  | cons x xs ih => simp [PyData.canLayAll0, PyData.canLay0, ih]
theorem dps_int (l : List Int) : PyData.depthAll (PV.pds (l.map .int)) = 0 := by
  induction l with
  | nil => simp
  | cons x xs ih => simp [ih]
theorem fNe_ints {μ : Mem} {a b : Nat} {l : List Int} (ha : μ[a]? = some (.lst (l.map .int))) (hb : μ[b]? = some (.lst [])) : fNe [.ref a, .ref b] μ = .ok (.bl (!l.isEmpty)) μ := by
  have h1 : SeqAt.shaped (.list (PV.pds (l.map .int))) = true := by
    unfold SeqAt.shaped
    simp [PyData.canLay0, lays_int, dps_int]
  simp only [fNe, eqR, scalP]
  rw [toD_lst ha (by simp), toD_lst hb (by simp)]
  simp only
  rw [if_pos ⟨h1, shaped_sm (by simp) (by simp)⟩]
  cases l <;> simp [PyData.eqv, PyData.eqvAll]
theorem divOk_small {j : Int} (h : 0 < j) (h2 : j < 2 ^ 200) : divOk j := by
  refine ⟨h, ?_⟩
  have : j.natAbs < 2 ^ 200 := by omega
  have := (Nat.log2_lt (by omega)).mpr this
  omega
/-- data of so many items, not too deep, that can be shown -/
structure Good (k : Nat) (p : PV) : Prop where
  data : p.data = true
  sm : p.pd.sm = true
  wt : p.pd.wt ≤ k
  dp : p.pd.depth ≤ 10
theorem Good.mono {k j : Nat} {p : PV} (h : Good k p) (l : k ≤ j) : Good j p := ⟨h.data, h.sm, Nat.le_trans h.wt l, h.dp⟩
theorem repr_good {p : PV} {μ : Mem} (h : Good 8000 p) : fRepr [p] μ = .ok (.str p.pd.shown) μ := repr_ok (toD_data h.data) h.sm h.wt (Nat.le_trans h.dp (by decide))
/-- lists of data -/
structure Goods (k : Nat) (l : List PV) : Prop where
  data : PV.datas l = true
  sm : PyData.sms (PV.pds l) = true
  wt : PyData.wts (PV.pds l) ≤ k
  dp : PyData.depthAll (PV.pds l) ≤ 10
theorem Goods.nil : Goods 0 [] := ⟨by simp, by simp, by simp, by simp⟩
theorem Goods.cons {k j : Nat} {p : PV} {l : List PV} (h : Good k p) (hl : Goods j l) : Goods (k + j) (p :: l) := ⟨by simp [h.data, hl.data], by simp [h.sm, hl.sm], by have := h.wt; have := hl.wt; simp; omega, by have := h.dp; have := hl.dp; simp; omega⟩
theorem Goods.mono {k j : Nat} {p : List PV} (h : Goods k p) (l : k ≤ j) : Goods j p := ⟨h.data, h.sm, Nat.le_trans h.wt l, h.dp⟩
theorem repr_goods {n : Nat} {l : List PV} {μ : Mem} (e : μ[n]? = some (.lst l)) (h : Goods 7000 l) : fRepr [.ref n] μ = .ok (.str (PyData.list (PV.pds l)).shown) μ := repr_ok (toD_lst e h.data) (by simp [h.sm]) (by have := h.wt; simp; omega) (by have := h.dp; simp; omega)
theorem Good.tup {k : Nat} {l : List PV} (h : Goods k l) (hd : PyData.depthAll (PV.pds l) ≤ 9) : Good (k + 1) (.tup l) := ⟨by simp [h.data], by simp [h.sm], by have := h.wt; simp; omega, by simp; omega⟩
theorem Goods.map {α : Type} {k : Nat} (f : α → PV) (l : List α) (h : ∀ x ∈ l, Good k (f x)) : Goods (k * l.length) (l.map f) := ⟨by rw [datas_iff]; intro p hp; obtain ⟨x, hx, rfl⟩ := List.mem_map.mp hp; exact (h x hx).data, sms_map f l fun x hx => (h x hx).sm, wts_map f l k fun x hx => (h x hx).wt, dps_map f l 10 fun x hx => (h x hx).dp⟩
theorem Good.int {i : Int} (h : sml i) : Good 1 (.int i) := ⟨by simp, by simp [log_sml h], by simp, by simp⟩
theorem Good.bl (b : Bool) : Good 1 (.bl b) := ⟨by simp, by simp, by simp, by simp⟩
theorem Good.str {x : Str} (h : (PyData.strOk x && decide ((reprText x).length ≤ 1990)) = true) : Good 1 (.str x) := ⟨by simp, by simpa using h, by simp, by simp⟩
@[simp] theorem fIsN_non (p : PV) (μ : Mem) : fIsN [p, .non] μ = .ok (.bl (isNon p)) μ := id rfl
@[simp] theorem fNotN_non (p : PV) (μ : Mem) : fNotN [p, .non] μ = .ok (.bl (!isNon p)) μ := id rfl
@[simp] theorem isNon_non : isNon .non = true := id rfl
@[simp] theorem isNon_int (i : Int) : isNon (.int i) = false := id rfl
@[simp] theorem isNon_bl (i : Bool) : isNon (.bl i) = false := id rfl
@[simp] theorem isNon_str (i : Str) : isNon (.str i) = false := id rfl
@[simp] theorem isNon_tup (i : List PV) : isNon (.tup i) = false := id rfl
@[simp] theorem isNon_ref (i : Nat) : isNon (.ref i) = false := id rfl
@[simp] theorem ixN_last (n : Nat) : ixN (n + 1) (-1) = some n := by
  unfold ixN
  rw [if_neg (by omega), if_pos (by omega)]
  congr 1
  omega
@[simp] theorem set_last {α : Type} (l : List α) (x p : α) : (l ++ [x]).set l.length p = l ++ [p] := by
  rw [List.set_append_right _ _ (Nat.le_refl _), Nat.sub_self]; rfl
theorem log_lt {z : Int} {n : Nat} (h : z.natAbs < 2 ^ n) (h0 : 0 < n) : z.natAbs.log2 < n := by
  by_cases e : z.natAbs = 0
  · rw [e]; exact h0
  · exact (Nat.log2_lt e).mpr h
/-- numbers that may be multiplied -/
theorem mul_big {i j : Int} (hi : i.natAbs < 10 ^ 150) (hj : j.natAbs < 10 ^ 150) : mulOk i j := by
  have e : (10 ^ 150 : Nat) < 2 ^ 500 := by decide +kernel
  have h1 := log_lt (n := 500) (Nat.lt_trans hi e) (by omega)
  have h2 := log_lt (n := 500) (Nat.lt_trans hj e) (by omega)
  exact .inr (.inr (by omega))
/-- one cell may be another one, the rest of the old memory stays -/
structure Upd (a : Nat) (μ m : Mem) (l : List PV) : Prop where
  at' : m[a]? = some (.lst l)
  len : μ.length ≤ m.length
  keep : ∀ i, i ≠ a → i < μ.length → m[i]? = μ[i]?
theorem Upd.take {a : Nat} {μ m : Mem} {l : List PV} (h : Upd a μ m l) (ha : a < μ.length) : Upd a μ (m.take μ.length) l := by
  refine ⟨?_, by have := h.len; simp; omega, fun i h1 h2 => ?_⟩
  · rw [List.getElem?_take_of_lt ha]; exact h.at'
  · rw [List.getElem?_take_of_lt h2]; exact h.keep i h1 h2
theorem Upd.refl {a : Nat} {μ : Mem} {l : List PV} (h : μ[a]? = some (.lst l)) : Upd a μ μ l := ⟨h, Nat.le_refl _, fun _ _ _ => rfl⟩
theorem Upd.app {a : Nat} {μ m : Mem} {l : List PV} (h : Upd a μ m l) (k : Mem) : Upd a μ (m ++ k) l :=
  ⟨get_some h.at', by have := h.len; simp; omega, fun i h1 h2 => by rw [List.getElem?_append_left (by have := h.len; omega)]; exact h.keep i h1 h2⟩
theorem Upd.set {a : Nat} {μ m : Mem} {l k : List PV} (h : Upd a μ m l) : Upd a μ (m.set a (.lst k)) k :=
  ⟨get_set_same h.at', by simpa using h.len, fun i h1 h2 => by rw [List.getElem?_set_ne (by omega)]; exact h.keep i h1 h2⟩
theorem Upd.trans {a : Nat} {x y z : Mem} {l k : List PV} (h : Upd a x y l) (g : Upd a y z k) : Upd a x z k :=
  ⟨g.at', Nat.le_trans h.len g.len, fun i h1 h2 => (g.keep i h1 (Nat.lt_of_lt_of_le h2 h.len)).trans (h.keep i h1 h2)⟩
theorem ext_iff {μ m : Mem} : Ext μ m ↔ μ.length ≤ m.length ∧ ∀ i, i < μ.length → m[i]? = μ[i]? := by
  constructor
  · rintro ⟨l, rfl⟩
    exact ⟨by simp, fun i h => List.getElem?_append_left h⟩
  · rintro ⟨h1, h2⟩
    refine ⟨m.drop μ.length, ?_⟩
    have e : m.take μ.length = μ := by
      apply List.ext_getElem?
      intro i
      by_cases h : i < μ.length
      · rw [List.getElem?_take_of_lt h, h2 i h]
      · rw [List.getElem?_eq_none (by simp; omega), List.getElem?_eq_none (by omega)]
    conv => lhs; rw [← List.take_append_drop μ.length m, e]
theorem Upd.ext {a : Nat} {μ x y : Mem} {l : List PV} (h : Upd a x y l) (e : Ext μ x) (ha : μ.length ≤ a) : Ext μ y := by
  rw [ext_iff] at *
  exact ⟨Nat.le_trans e.1 h.len, fun i hi => (h.keep i (by omega) (by omega)).trans (e.2 i hi)⟩
end PL
end
section
set_option autoImplicit false
/-! Lists of lists: repr. -/
namespace PL
open PySem
theorem toDn_lst {μ : Mem} {n k : Nat} {l : List PV} (h : μ[n]? = some (.lst l)) (hd : PV.datas l = true) : toDn μ (k + 1) (.ref n) = some (.list (PV.pds l)) := by
  unfold toDn PV.conv
  rw [h]
  simp only
  rw [convs_pd _ l hd]
  rfl
/-- cells that hold lists of data -/
def Cells (μ : Mem) : List Nat → List (List PV) → Prop
  | [], [] => True
  | k :: ks, l :: ls => μ[k]? = some (.lst l) ∧ Cells μ ks ls
  | _, _ => False
theorem convs_cells {μ : Mem} {m : Nat} : ∀ {ks : List Nat} {ls : List (List PV)}, Cells μ ks ls → (∀ l ∈ ls, PV.datas l = true) → PV.convs (fun j => toDn μ (m + 1) (.ref j)) (ks.map .ref) = some (ls.map fun l => .list (PV.pds l))
  | [], [], _, _ => rfl
  | k :: ks, l :: ls, h, hd => by
    have ih := convs_cells (m := m) h.2 fun z hz => hd z (by simp [hz])
    have e : PV.conv (fun j => toDn μ (m + 1) (.ref j)) (.ref k) = some (.list (PV.pds l)) := toDn_lst h.1 (hd l (by simp))
    show (PV.conv (fun j => toDn μ (m + 1) (.ref j)) (.ref k)).bind (fun d => (PV.convs (fun j => toDn μ (m + 1) (.ref j)) (ks.map .ref)).map fun ds => d :: ds) = _
    rw [e, ih]
    rfl
  | [], _ :: _, h, _ => h.elim
  | _ :: _, [], h, _ => h.elim
theorem toD_cells {μ : Mem} {n : Nat} {ks : List Nat} {ls : List (List PV)} (h : μ[n]? = some (.lst (ks.map .ref))) (hc : Cells μ ks ls) (hd : ∀ l ∈ ls, PV.datas l = true) : toD μ (.ref n) = some (.list (ls.map fun l => .list (PV.pds l))) := by
  rw [toD_ref, h]
  simp only
  rw [convs_cells (m := 3) hc hd]
  rfl
theorem repr_two {μ : Mem} {n a b : Nat} {la lb : List PV} (h : μ[n]? = some (.lst [.ref a, .ref b])) (ha : μ[a]? = some (.lst la)) (hb : μ[b]? = some (.lst lb)) (ga : Goods 3000 la) (gb : Goods 3000 lb) : fRepr [.ref n] μ = .ok (.str (PyData.list [.list (PV.pds la), .list (PV.pds lb)]).shown) μ := by
  refine repr_ok (toD_cells (ks := [a, b]) (ls := [la, lb]) h ⟨ha, hb, trivial⟩ (by simp [ga.data, gb.data])) (by simp [ga.sm, gb.sm]) (by have := ga.wt; have := gb.wt; simp; omega) (by have := ga.dp; have := gb.dp; simp; omega)
end PL
end
section
set_option autoImplicit false
/-! Bits of numbers that are not below nought. -/
namespace PL
open PySem
theorem bAnd_nat (x y : Nat) : Builtin.bitAnd (x : Int) (y : Int) = ((x &&& y : Nat) : Int) := by
  unfold Builtin.bitAnd
  have h1 : decide ((0 : Int) ≤ x) = true := by simp
  have h2 : decide ((0 : Int) ≤ y) = true := by simp
  rw [h1, h2]; rfl
theorem bOr_nat (x y : Nat) : Builtin.bitOr (x : Int) (y : Int) = ((x ||| y : Nat) : Int) := by
  have := L2.bitOr_nn (x := (x : Int)) (y := (y : Int)) (by omega) (by omega)
  simpa using this
theorem bXor_nat (x y : Nat) : Builtin.bitXor (x : Int) (y : Int) = ((x ^^^ y : Nat) : Int) := by
  have := Bits.bitXor_pp (x := (x : Int)) (y := (y : Int)) (by omega) (by omega)
  simpa using this
theorem fAnd_nat (x y : Nat) (μ : Mem) : fBAnd [.int x, .int y] μ = .ok (.int ((x &&& y : Nat) : Int)) μ := by simp only [fBAnd, bAnd_nat]
theorem fOr_nat (x y : Nat) (μ : Mem) : fBOr [.int x, .int y] μ = .ok (.int ((x ||| y : Nat) : Int)) μ := by simp only [fBOr, bOr_nat]
theorem fXor_nat (x y : Nat) (μ : Mem) : fBXor [.int x, .int y] μ = .ok (.int ((x ^^^ y : Nat) : Int)) μ := by simp only [fBXor, bXor_nat]
theorem shl_nat {x n k : Nat} (h : x < 2 ^ k) (hn : n + k ≤ 134217728) : shlOk x n := by
  unfold shlOk
  have := L2.shl_ok (i := (x : Int)) (j := n) (n := k) (by simpa using h) (by omega)
  exact this
theorem fShl_nat {x n k : Nat} (h : x < 2 ^ k) (hn : n + k ≤ 134217728) (μ : Mem) : fShl [.int x, .int n] μ = .ok (.int ((x <<< n : Nat) : Int)) μ := by
  have hs := shl_nat h hn
  rw [fShl_int, if_pos hs]
  congr 2
  rw [Nat.shiftLeft_eq]
  push_cast
  simp
theorem fShr_nat (x n : Nat) (μ : Mem) : fShr [.int x, .int n] μ = .ok (.int ((x >>> n : Nat) : Int)) μ := by
  have h : fShr [.int (x : Int), .int (n : Int)] μ = if (0 : Int) ≤ n then .ok (.int ((x : Int) / 2 ^ ((n : Int)).toNat)) μ else .stuck := rfl
  rw [h, if_pos (by omega)]
  congr 2
  rw [Nat.shiftRight_eq_div_pow]
  simp
end PL
namespace PL
theorem fExtend_ref {n k : Nat} {l r : List PV} {μ : Mem} (h1 : μ[n]? = some (.lst l)) (h2 : μ[k]? = some (.lst r)) (hne : n ≠ k) (hz : l.length + r.length ≤ SL) : fExtend [.ref n, .ref k] μ = .ok .non (μ.set n (.lst (l ++ r))) := by
  unfold fExtend
  simp [h1, h2, getL, hne, hz]
end PL
end
section
set_option autoImplicit false
namespace PL
open PySem
@[simp] theorem fIsB_ev (a b : Bool) (μ : Mem) : fIsB [.bl a, .bl b] μ = .ok (.bl (decide (a = b))) μ := id rfl
@[simp] theorem fNotB_ev (a b : Bool) (μ : Mem) : fNotB [.bl a, .bl b] μ = .ok (.bl (!decide (a = b))) μ := id rfl
end PL
end
section
set_option autoImplicit false
/-! Dicts by rewriting; what is drawn from, and what stays. -/
namespace PL
open PySem
@[simp] theorem keyOf_int (i : Int) : keyOf (.int i) = some (.inl i) := id rfl
@[simp] theorem keyOf_str (i : Str) : keyOf (.str i) = some (.inr i) := id rfl
@[simp] theorem valD_nil (k : DK) : valD [] k = none := id rfl
@[simp] theorem valD_cons (x : DK × PV) (r : KVs) (k : DK) : valD (x :: r) k = if x.1 = k then some x.2 else valD r k := by
  by_cases h : x.1 = k <;> simp [valD, h]
theorem valD_put (kvs : KVs) (k : DK) (p : PV) (j : DK) : valD (putD kvs k p) j = if k = j then some p else valD kvs j := by
  unfold putD
  split
  · rename_i h
    induction kvs with
    | nil => simp at h
    | cons x r ih =>
      by_cases e : x.1 = k
      · by_cases e2 : k = j
        · simp [e, e2]
        · simp only [List.map_cons, e, if_true, valD_cons, e2, if_false]
          clear ih h
          induction r with
          | nil => rfl
          | cons y r ih => by_cases e3 : y.1 = k
                           · simp [e3, e2, ih]
                           · simp [e3, ih]
      · simp only [List.any_cons, e, decide_false, Bool.false_or] at h
        simp only [List.map_cons, e, if_false, valD_cons, ih h]
        by_cases e2 : x.1 = j
        · have : k ≠ j := fun z => e (e2.trans z.symm)
          simp [e2, this]
        · simp [e2]
  · rename_i h
    induction kvs with
    | nil => simp
    | cons x r ih =>
      rw [List.any_cons, Bool.or_eq_true, not_or, decide_eq_true_eq] at h
      rw [List.cons_append, valD_cons, valD_cons, ih h.2]
      by_cases e2 : x.1 = j
      · have : k ≠ j := fun z => h.1 (e2.trans z.symm)
        simp [e2, this]
      · simp [e2]
@[simp] theorem dctAt_ref (μ : Mem) (n : Nat) : dctAt μ (.ref n) = (match μ[n]? with | some (.dct kvs) => some kvs | _ => none) := id rfl
theorem fDGet_ok {μ : Mem} {n : Nat} {kvs : KVs} {q : PV} {k : DK} {p : PV} (h : μ[n]? = some (.dct kvs)) (hk : keyOf q = some k) (hp : valD kvs k = some p) : fDGet [.ref n, q] μ = .ok p μ := by
  simp [fDGet, h, hk, hp]
theorem fDPut_ok {μ : Mem} {n : Nat} {kvs : KVs} {q : PV} {k : DK} {p : PV} (h : μ[n]? = some (.dct kvs)) (hk : keyOf q = some k) (hl : kvs.length < SL) : fDPut [.ref n, q, p] μ = .ok .non (μ.set n (.dct (putD kvs k p))) := by
  simp [fDPut, h, hk, hl]
@[simp] theorem dput_ev (o i e : Ex) (env : Env) (μ : Mem) : dput o i e env μ = .of (e env μ) fun p μ1 => .of (o env μ1) fun x μ2 => .of (i env μ2) fun y μ3 => .of (fDPut [x, y, p] μ3) fun _ μ4 => .nx env μ4 := id rfl
@[simp] theorem dn_ev (env : Env) (μ : Mem) : dn env μ = .ok [] μ := id rfl
@[simp] theorem dc_ev (k x : Ex) (r : Ap) (env : Env) (μ : Mem) : dc k x r env μ = (k env μ).bind fun p μ1 => (x env μ1).bind fun q μ2 => (r env μ2).bind fun ps μ3 => .ok ((p, q) :: ps) μ3 := id rfl
@[simp] theorem dsp_ev (r : Ap) (env : Env) (μ : Mem) : dsp r env μ = (r env (μ ++ [.dct []])).bind fun ps μ1 => dfin μ.length ps μ1 := id rfl
@[simp] theorem dnew_ev (env : Env) (μ : Mem) : dnew env μ = .ok (.ref μ.length) (μ ++ [.dct []]) := id rfl
@[simp] theorem keysOf_nil : keysOf [] = some [] := id rfl
@[simp] theorem keysOf_str (x : Str) (p : PV) (r : List (PV × PV)) : keysOf ((.str x, p) :: r) = (keysOf r).map fun ks => (.inr x, p) :: ks := by
  simp only [keysOf, keyOf]
  cases keysOf r <;> rfl
/-- what is drawn from: cells that draws change -/
structure Fam where
  cs : List Nat
  top : Nat
  inv : Mem → Prop
  le : ∀ i ∈ cs, i ≤ top
  loc : ∀ m m', inv m → (∀ i ∈ cs, m'[i]? = m[i]?) → inv m'
  lt : ∀ m, inv m → top < m.length
namespace Fam
variable {F : Fam}
/-- drawn from, all else as it was -/
def Go (F : Fam) (m m' : Mem) : Prop := F.inv m' ∧ m.length ≤ m'.length ∧ ∀ i, i ∉ F.cs → i < m.length → m'[i]? = m[i]?
theorem Go.i {m m' : Mem} (h : F.Go m m') : F.inv m' := h.1
theorem Go.len {m m' : Mem} (h : F.Go m m') : m.length ≤ m'.length := h.2.1
theorem Go.lt {m m' : Mem} (h : F.Go m m') : F.top < m'.length := F.lt _ h.1
theorem refl {m : Mem} (h : F.inv m) : F.Go m m := ⟨h, Nat.le_refl _, fun _ _ _ => rfl⟩
theorem Go.trans {x y z : Mem} (h : F.Go x y) (k : F.Go y z) : F.Go x z := ⟨k.1, Nat.le_trans h.2.1 k.2.1, fun i h1 h2 => (k.2.2 i h1 (Nat.lt_of_lt_of_le h2 h.2.1)).trans (h.2.2 i h1 h2)⟩
theorem ext {m m' : Mem} (h : F.inv m) (e : Ext m m') : F.Go m m' := by
  obtain ⟨l, rfl⟩ := e
  refine ⟨F.loc m _ h fun i hi => ?_, by simp, fun i _ hi => List.getElem?_append_left hi⟩
  have := F.le i hi
  have := F.lt m h
  exact List.getElem?_append_left (by omega)
theorem app {m : Mem} (h : F.inv m) (l : Mem) : F.inv (m ++ l) := (ext h (Ext.app m l)).1
theorem go_app {m : Mem} (h : F.inv m) (l : Mem) : F.Go m (m ++ l) := ext h (Ext.app m l)
theorem Go.ext {m m' m'' : Mem} (h : F.Go m m') (e : Ext m' m'') : F.Go m m'' := h.trans (Fam.ext h.1 e)
theorem Go.app {m m' : Mem} (h : F.Go m m') (l : Mem) : F.Go m (m' ++ l) := h.ext (Ext.app _ _)
theorem Go.get {m m' : Mem} (h : F.Go m m') {i : Nat} {o : PO} (e : m[i]? = some o) (hi : F.top < i) : m'[i]? = some o := by
  rw [h.2.2 i (fun hm => by have := F.le i hm; omega) (List.getElem?_eq_some_iff.mp e).1]; exact e
theorem Go.get' {m m' : Mem} (h : F.Go m m') {i : Nat} {o : PO} (e : m[i]? = some o) (hi : i ∉ F.cs) : m'[i]? = some o := by
  rw [h.2.2 i hi (List.getElem?_eq_some_iff.mp e).1]; exact e
/-- a new cell is written -/
theorem Go.set {m m' : Mem} (h : F.Go m m') (hm : F.top < m.length) {k : Nat} (hk : m.length ≤ k) (o : PO) : F.Go m (m'.set k o) := by
  refine ⟨F.loc m' _ h.1 fun i hi => ?_, by simpa using h.2.1, fun i h1 h2 => ?_⟩
  · have := F.le i hi
    exact List.getElem?_set_ne (by omega)
  · rw [List.getElem?_set_ne (by omega)]
    exact h.2.2 i h1 h2
/-- a cell that draws change is written -/
theorem Go.put {m m' : Mem} (h : F.Go m m') {k : Nat} (hk : k ∈ F.cs) {o : PO} (hi : F.inv (m'.set k o)) : F.Go m (m'.set k o) := by
  refine ⟨hi, by simpa using h.2.1, fun i h1 h2 => ?_⟩
  rw [List.getElem?_set_ne (fun e : k = i => h1 (e ▸ hk))]
  exact h.2.2 i h1 h2
theorem Go.take {m m' : Mem} (hp : F.inv m) (h : F.Go m m') : F.Go m (m'.take m.length) := by
  have hl := F.lt m hp
  refine ⟨F.loc m' _ h.1 fun i hi => ?_, by have := h.2.1; simp; omega, fun i h1 h2 => ?_⟩
  · have := F.le i hi
    exact List.getElem?_take_of_lt (by omega)
  · rw [List.getElem?_take_of_lt h2]
    exact h.2.2 i h1 h2
theorem fn_go {n : Nat} {b : Sm} {args : List PV} {μ : Mem} {P : PV → Prop} (hp : F.inv μ) (h : (run n b args μ).sat fun p m => P p ∧ F.Go μ m) : (fn n b args μ).sat fun p m => P p ∧ F.Go μ m := by
  obtain ⟨p, m, e, h1, h2⟩ := rsat_ex h
  rw [fn_ev, e]
  unfold gc
  simp only
  split
  · exact ⟨_, _, rfl, h1, h2.take hp⟩
  · exact ⟨_, _, rfl, h1, h2⟩
end Fam
/-- a dict that is drawn from, with a list of great numbers behind it -/
def jarF (j : Nat) : Fam where
  cs := [j, j + 1]
  top := j + 1
  inv m := ∃ (bs : List Int) (s t : Int), m[j]? = some (.dct [(.inr ("wide" : Str), .ref (j + 1)), (.inr ("stirred" : Str), .int s), (.inr ("times" : Str), .int t)]) ∧ m[j + 1]? = some (.lst (bs.map .int)) ∧ bs.length ≤ 100
  le i hi := by simp at hi; omega
  loc m m' h e := by
    obtain ⟨bs, s, t, h1, h2, h3⟩ := h
    exact ⟨bs, s, t, by rw [e j (by simp)]; exact h1, by rw [e (j + 1) (by simp)]; exact h2, h3⟩
  lt m h := by
    obtain ⟨bs, s, t, h1, h2, h3⟩ := h
    exact (List.getElem?_eq_some_iff.mp h2).1
end PL
end
section
/-! The pure bodies (printed by gen.py). -/
namespace Law
open PySem PL
abbrev K_ALWAYS_ON : PV := .tup [.int 0, .tup [], .int 0]
abbrev K_MAX_BURSTS : PV := .int 100
abbrev K_MAX_NUMBER : PV := .int 1000000000000000000000000000000000000000000000000000000000000
/- is_integer: 0 value -/
noncomputable def b_is_integer : Sm :=
  (ret (PL.and (app1 (fIsi .int) (v 0)) (app1 fNot (app1 (fIsi .bool) (v 0)))))
noncomputable def m_is_integer : Fn := fn 1 b_is_integer
/- is_number: 0 value -/
noncomputable def b_is_number : Sm :=
  (ret (PL.and (app m_is_integer (ac (v 0) an)) (chain fLe fLe (app1 fNeg (c K_MAX_NUMBER)) (v 0) (c K_MAX_NUMBER))))
noncomputable def m_is_number : Fn := fn 1 b_is_number
/- is_burst: 0 value, 1 tick, 2 on, 3 off, 4 times, 5 item -/
noncomputable def b_is_burst : Sm :=
  (seq (PL.cond (PL.or (app1 fNot (app1 (fIsi .tuple) (v 0))) (app2 fNe (app fLen (ac (v 0) an)) (c (.int 4))))
   (ret (c (.bl false)))
   skip)
  (seq (PL.cond (app2 fNe (lc (iVal (v 0)) (tn 5) (app1 fNot (app m_is_number (ac (v 5) an))) (c (.int 1)) [5]) (app fLst an))
   (ret (c (.bl false)))
   skip)
  (seq (asg (tt 4 (tc (tn 1) (tc (tn 2) (tc (tn 3) (tc (tn 4) t0))))) (v 0))
  (seq (PL.cond (PL.or (app2 fLt (v 2) (c (.int 1))) (app2 fLt (v 4) (c (.int 1))))
   (ret (c (.bl false)))
   skip)
  (ret (PL.ite (app2 fEq (v 4) (c (.int 1))) (app2 fEq (v 3) (c (.int 0))) (app2 fGt (v 3) (c (.int 0)))))))))
noncomputable def m_is_burst : Fn := fn 6 b_is_burst
/- end_of: 0 burst, 1 tick, 2 on, 3 off, 4 times -/
noncomputable def b_end_of : Sm :=
  (seq (asg (tt 4 (tc (tn 1) (tc (tn 2) (tc (tn 3) (tc (tn 4) t0))))) (v 0))
  (ret (app2 fAdd (app2 fAdd (v 1) (app2 fMul (v 4) (v 2))) (app2 fMul (app2 fSub (v 4) (c (.int 1))) (v 3)))))
noncomputable def m_end_of : Fn := fn 5 b_end_of
/- takes_on: 0 burst, 1 further -/
noncomputable def b_takes_on : Sm :=
  (seq (PL.cond (app2 fNe (app2 fIx (v 0) (c (.int 1))) (app2 fIx (v 1) (c (.int 1))))
   (ret (c (.bl false)))
   skip)
  (ret (PL.or (app2 fEq (app2 fIx (v 0) (c (.int 3))) (c (.int 1))) (app2 fEq (app2 fIx (v 0) (c (.int 2))) (app2 fSub (app2 fIx (v 1) (c (.int 0))) (app m_end_of (ac (v 0) an)))))))
noncomputable def m_takes_on : Fn := fn 2 b_takes_on
/- order_error: 0 until, 1 bursts, 2 ahead, 3 place, 4 burst -/
noncomputable def b_order_error : Sm :=
  (seq (setv 2 (v 0))
  (seq (forS (iEnum (v 1)) (tt 2 (tc (tn 3) (tc (tn 4) t0)))
   (seq (PL.cond (PL.and (app2 fNotN (v 2) (c .non)) (app2 fLe (app2 fIx (v 4) (c (.int 0))) (v 2)))
    (ret (app fTup (ac (c (.str ("order" : Str))) (ac (v 3) an))))
    skip)
   (setv 2 (app m_end_of (ac (v 4) an)))))
  (ret (c .non))))
noncomputable def m_order_error : Fn := fn 5 b_order_error
/- ends_of: 0 value -/
noncomputable def b_ends_of : Sm :=
  (ret (PL.ite (app2 fNe (app2 fIx (v 0) (c (.int 1))) (app fTup an)) (app m_end_of (ac (app2 fIx (app2 fIx (v 0) (c (.int 1))) (app1 fNeg (c (.int 1)))) an)) (app2 fIx (v 0) (c (.int 0)))))
noncomputable def m_ends_of : Fn := fn 1 b_ends_of
/- signal_error: 0 value, 1 error, 2 ahead, 3 until, 4 bursts, 5 since, 6 place, 7 burst, 8 further, 9 item -/
noncomputable def b_signal_error : Sm :=
  (seq (PL.cond (PL.or (app1 fNot (app1 (fIsi .tuple) (v 0))) (app2 fNe (app fLen (ac (v 0) an)) (c (.int 3))))
   (ret (c (.str ("form" : Str))))
   skip)
  (seq (asg (tt 3 (tc (tn 3) (tc (tn 4) (tc (tn 5) t0)))) (v 0))
  (seq (PL.cond (app2 fNe (lc (iVal (app fTup (ac (v 3) (ac (v 5) an)))) (tn 9) (PL.and (app2 fNotN (v 9) (c .non)) (app1 fNot (app m_is_number (ac (v 9) an)))) (c (.int 1)) [9]) (app fLst an))
   (ret (c (.str ("form" : Str))))
   skip)
  (seq (PL.cond (PL.or (app1 fNot (app1 (fIsi .tuple) (v 4))) (app2 fGt (app fLen (ac (v 4) an)) (c K_MAX_BURSTS)))
   (ret (c (.str ("form" : Str))))
   skip)
  (seq (forS (iEnum (v 4)) (tt 2 (tc (tn 6) (tc (tn 7) t0)))
   (PL.cond (app1 fNot (app m_is_burst (ac (v 7) an)))
    (ret (app fTup (ac (c (.str ("burst" : Str))) (ac (v 6) an))))
    skip))
  (seq (setv 1 (app m_order_error (ac (v 3) (ac (v 4) an))))
  (seq (PL.cond (app2 fNotN (v 1) (c .non))
   (ret (v 1))
   skip)
  (seq (setv 2 (app m_ends_of (ac (v 0) an)))
  (seq (PL.cond (PL.and (app2 fNotN (v 5) (c .non)) (PL.and (app2 fNotN (v 2) (c .non)) (PL.and (app2 fLe (v 5) (v 2)) (app2 fNe (v 0) (c K_ALWAYS_ON)))))
   (ret (app fTup (ac (c (.str ("since" : Str))) an)))
   skip)
  (seq (forS (iEnum (sl (v 4) (app1 fPart (c (.int 1))) (c .non))) (tt 2 (tc (tn 6) (tc (tn 8) t0)))
   (PL.cond (app m_takes_on (ac (app2 fIx (v 4) (v 6)) (ac (v 8) an)))
    (ret (app fTup (ac (c (.str ("joined" : Str))) (ac (v 6) an))))
    skip))
  (ret (c .non))))))))))))
noncomputable def m_signal_error : Fn := fn 10 b_signal_error
/- _law_deck: 0 script, 1 deck, 2 cell, 3 whole -/
noncomputable def b__law_deck : Sm :=
  (seq (setv 1 (dsp (dc (c (.str ("deep" : Str))) (app fLst an) (dc (c (.str ("state" : Str))) (app2 fAdd (app2 fAdd (c (.int 362436069)) (c (.int 7013))) (app fLen (ac (sl (v 0) (c .non) (app1 fPart (c (.int 63)))) an))) dn))))
  (seq (forS (iVal (sl (v 0) (c .non) (app1 fPart (c (.int 63))))) (tn 2)
   (seq (PL.cond (app2 fGe (app fAbs (ac (v 2) an)) (app2 fPow (c (.int 10)) (c (.int 18))))
    (dput (v 1) (c (.str ("deep" : Str))) (app2 fAdd (app fLst (ac (app fAbs (ac (v 2) an)) an)) (app2 fDGet (v 1) (c (.str ("deep" : Str))))))
    skip)
   (seq (setv 3 (app2 fAdd (app2 fMul (c (.int 2)) (app fAbs (ac (v 2) an))) (app fInt (ac (app2 fLt (v 2) (c (.int 0))) an))))
   (dput (v 1) (c (.str ("state" : Str))) (app2 fMod (app fInt (ac (app2 fAdd (app2 fMul (app2 fAdd (app2 fAdd (app2 fDGet (v 1) (c (.str ("state" : Str)))) (v 3)) (c (.int 1))) (c (.int 1181783497276652981))) (c (.int 521288629))) an)) (c (.int 2305843009213693951)))))))
  (ret (v 1))))
noncomputable def m__law_deck : Fn := fn 4 b__law_deck
/- _law_draw: 0 deck, 1 many, 2 one, 3 two, 4 whole -/
noncomputable def b__law_draw : Sm :=
  (seq (PL.cond (app2 fLt (v 1) (c (.int 2)))
   (ret (c (.int 0)))
   skip)
  (seq (PL.cond (app2 fNe (app2 fDGet (v 0) (c (.str ("deep" : Str)))) (app fLst an))
   (seq (setv 4 (mth .list fPop (app2 fDGet (v 0) (c (.str ("deep" : Str)))) an))
   (seq (PL.cond (app2 fGe (v 4) (v 1))
    (PL.exp (mth .list fAppend (app2 fDGet (v 0) (c (.str ("deep" : Str)))) (ac (app2 fDiv (v 4) (v 1)) an)))
    skip)
   (ret (app2 fMod (app fInt (ac (v 4) an)) (v 1)))))
   skip)
  (seq (setv 2 (app2 fMod (app fInt (ac (app2 fAdd (app2 fMul (app2 fDGet (v 0) (c (.str ("state" : Str)))) (c (.int 1181783497276652981))) (c (.int 88172645463325))) an)) (c (.int 2305843009213693951))))
  (seq (dput (v 0) (c (.str ("state" : Str))) (v 2))
  (seq (setv 3 (app2 fMod (app fInt (ac (app2 fAdd (app2 fAdd (app2 fMul (v 2) (v 2)) (app2 fMul (c (.int 374761393)) (v 2))) (c (.int 11))) an)) (c (.int 2305843009213693921))))
  (ret (app2 fMod (app fInt (ac (app2 fDiv (v 3) (c (.int 1048576))) an)) (v 1))))))))
noncomputable def m__law_draw : Fn := fn 5 b__law_draw
/- _law_pick: 0 deck, 1 some -/
noncomputable def b__law_pick : Sm :=
  (ret (app2 fIx (v 1) (app m__law_draw (ac (v 0) (ac (app fLen (ac (v 1) an)) an)))))
noncomputable def m__law_pick : Fn := fn 2 b__law_pick
/- _law_grouped: 0 until, 1 runs, 2 since, 3 bursts, 4 at, 5 first, 6 ticks, 7 times, 8 off, 9 here, 10 far -/
noncomputable def b__law_grouped : Sm :=
  (seq (par 3 4 (app fLst an) (c (.int 0)))
  (seq (whileS (app2 fLt (v 4) (app fLen (ac (v 1) an)))
   (seq (asg (tt 4 (tc (tn 5) (tc (tn 6) (tc (tn 7) (tc (tn 8) t0))))) (app fTup (ac (app2 fIx (v 1) (v 4)) (ac (app2 fSub (app2 fIx (app2 fIx (v 1) (v 4)) (c (.int 1))) (app2 fIx (app2 fIx (v 1) (v 4)) (c (.int 0)))) (ac (c (.int 1)) (ac (c (.int 0)) an))))))
   (seq (whileS (app2 fLt (app2 fAdd (v 4) (v 7)) (app fLen (ac (v 1) an)))
    (seq (par 9 10 (app2 fIx (v 1) (app2 fSub (app2 fAdd (v 4) (v 7)) (c (.int 1)))) (app2 fIx (v 1) (app2 fAdd (v 4) (v 7))))
    (seq (PL.cond (PL.or (app2 fNe (app2 fSub (app2 fIx (v 10) (c (.int 1))) (app2 fIx (v 10) (c (.int 0)))) (v 6)) (PL.and (app2 fGt (v 7) (c (.int 1))) (app2 fNe (app2 fSub (app2 fIx (v 10) (c (.int 0))) (app2 fIx (v 9) (c (.int 1)))) (v 8))))
     brk
     skip)
    (par 8 7 (app2 fSub (app2 fIx (v 10) (c (.int 0))) (app2 fIx (v 9) (c (.int 1)))) (app2 fAdd (v 7) (c (.int 1)))))))
   (seq (PL.exp (mth .list fAppend (v 3) (ac (app fTup (ac (app2 fIx (v 5) (c (.int 0))) (ac (v 6) (ac (v 8) (ac (v 7) an))))) an)))
   (setv 4 (app2 fAdd (v 4) (v 7)))))))
  (ret (app fTup (ac (v 0) (ac (app fTuple (ac (v 3) an)) (ac (v 2) an)))))))
noncomputable def m__law_grouped : Fn := fn 11 b__law_grouped
/- _law_row_of_runs: 0 deck, 1 begin, 2 many, 3 most, 4 turn, 5 found, 6 ticks, 7 off -/
noncomputable def b__law_row_of_runs : Sm :=
  (seq (par3 5 6 7 (app fLst an) (app2 fAdd (c (.int 1)) (app m__law_draw (ac (v 0) (ac (v 3) an)))) (app2 fAdd (c (.int 1)) (app m__law_draw (ac (v 0) (ac (v 3) an)))))
  (seq (forS (iRng1 (v 2)) (tn 4)
   (seq (PL.cond (app2 fEq (app m__law_draw (ac (v 0) (ac (c (.int 3)) an))) (c (.int 0)))
    (setv 6 (app2 fAdd (c (.int 1)) (app m__law_draw (ac (v 0) (ac (v 3) an)))))
    skip)
   (seq (PL.cond (app2 fEq (app m__law_draw (ac (v 0) (ac (c (.int 3)) an))) (c (.int 0)))
    (setv 7 (app2 fAdd (c (.int 1)) (app m__law_draw (ac (v 0) (ac (v 3) an)))))
    skip)
   (seq (PL.exp (mth .list fAppend (v 5) (ac (app fTup (ac (v 1) (ac (app2 fAdd (v 1) (v 6)) an))) an)))
   (setv 1 (app2 fAdd (app2 fAdd (v 1) (v 6)) (v 7)))))))
  (ret (v 5))))
noncomputable def m__law_row_of_runs : Fn := fn 8 b__law_row_of_runs
/- _law_signal: 0 deck, 1 many, 2 most, 3 until, 4 runs, 5 far, 6 since, 7 way, 8 begin -/
noncomputable def b__law_signal : Sm :=
  (seq (par 7 8 (app m__law_draw (ac (v 0) (ac (c (.int 12)) an))) (app2 fSub (app m__law_draw (ac (v 0) (ac (c (.int 15)) an))) (c (.int 9))))
  (seq (PL.cond (app2 fEq (v 7) (c (.int 0)))
   (ret (app m__law_pick (ac (v 0) (ac (app fLst (ac (app fTup (ac (c .non) (ac (app fTup an) (ac (c .non) an)))) (ac (app fTup (ac (c (.int 0)) (ac (app fTup an) (ac (c (.int 0)) an)))) (ac (app fTup (ac (v 8) (ac (app fTup an) (ac (c .non) an)))) (ac (app fTup (ac (c .non) (ac (app fTup an) (ac (v 8) an)))) an))))) an))))
   skip)
  (seq (setv 3 (PL.ite (app2 fLt (v 7) (c (.int 5))) (app2 fSub (app2 fSub (v 8) (c (.int 1))) (app m__law_draw (ac (v 0) (ac (v 2) an)))) (c .non)))
  (seq (setv 4 (app m__law_row_of_runs (ac (v 0) (ac (v 8) (ac (app m__law_draw (ac (v 0) (ac (app2 fAdd (v 1) (c (.int 1))) an))) (ac (v 2) an))))))
  (seq (setv 5 (PL.ite (app2 fNe (v 4) (app fLst an)) (app2 fIx (app2 fIx (v 4) (app1 fNeg (c (.int 1)))) (c (.int 1))) (v 8)))
  (seq (setv 6 (PL.ite (app2 fEq (app m__law_draw (ac (v 0) (ac (c (.int 3)) an))) (c (.int 0))) (app2 fAdd (app2 fAdd (v 5) (c (.int 1))) (app m__law_draw (ac (v 0) (ac (v 2) an)))) (c .non)))
  (ret (app m__law_grouped (ac (v 3) (ac (v 4) (ac (v 6) an)))))))))))
noncomputable def m__law_signal : Fn := fn 9 b__law_signal
/- _law_great: 0 deck, 1 signal, 2 by, 3 far, 4 found, 5 until, 6 bursts, 7 since, 8 first, 9 ticks, 10 off, 11 times -/
noncomputable def b__law_great : Sm :=
  (seq (asg (tt 3 (tc (tn 5) (tc (tn 6) (tc (tn 7) t0)))) (v 1))
  (seq (PL.cond (app2 fEq (v 1) (app fTup (ac (c (.int 0)) (ac (app fTup an) (ac (c (.int 0)) an)))))
   (ret (v 1))
   skip)
  (seq (setv 4 (lc (iVal (v 6)) (tt 4 (tc (tn 8) (tc (tn 9) (tc (tn 10) (tc (tn 11) t0))))) yes (app fTup (ac (app2 fAdd (app2 fMul (v 8) (v 2)) (v 3)) (ac (app2 fMul (v 9) (v 2)) (ac (app2 fMul (v 10) (v 2)) (ac (v 11) an))))) [8, 9, 10, 11]))
  (seq (setv 5 (PL.ite (app2 fNotN (v 5) (c .non)) (app2 fAdd (app2 fMul (v 5) (v 2)) (v 3)) (c .non)))
  (ret (app fTup (ac (v 5) (ac (app fTuple (ac (v 4) an)) (ac (PL.ite (app2 fNotN (v 7) (c .non)) (app2 fAdd (app2 fMul (v 7) (v 2)) (v 3)) (c .non)) an)))))))))
noncomputable def m__law_great : Fn := fn 12 b__law_great
/- _law_is_number: 0 thing -/
noncomputable def b__law_is_number : Sm :=
  (ret (PL.and (app1 (fIsi .int) (v 0)) (PL.and (app1 fNot (app1 (fIsi .bool) (v 0))) (app2 fLe (app fAbs (ac (v 0) an)) (app2 fPow (c (.int 10)) (c (.int 60)))))))
noncomputable def m__law_is_number : Fn := fn 1 b__law_is_number
/- _law_is_burst: 0 thing, 1 first, 2 ticks, 3 off, 4 times, 5 item -/
noncomputable def b__law_is_burst : Sm :=
  (seq (PL.cond (PL.or (app1 fNot (app1 (fIsi .tuple) (v 0))) (PL.or (app2 fNe (app fLen (ac (v 0) an)) (c (.int 4))) (app2 fNe (lc (iVal (v 0)) (tn 5) (app1 fNot (app m__law_is_number (ac (v 5) an))) (c (.int 1)) [5]) (app fLst an))))
   (ret (c (.bl false)))
   skip)
  (seq (asg (tt 4 (tc (tn 1) (tc (tn 2) (tc (tn 3) (tc (tn 4) t0))))) (v 0))
  (ret (PL.and (app2 fGt (v 2) (c (.int 0))) (PL.and (app2 fGt (v 4) (c (.int 0))) (PL.ite (app2 fGt (v 4) (c (.int 1))) (app2 fGt (v 3) (c (.int 0))) (app2 fEq (v 3) (c (.int 0)))))))))
noncomputable def m__law_is_burst : Fn := fn 6 b__law_is_burst
/- _law_is_formed: 0 thing, 1 end -/
noncomputable def b__law_is_formed : Sm :=
  (seq (PL.cond (PL.or (app1 fNot (app1 (fIsi .tuple) (v 0))) (PL.or (app2 fNe (app fLen (ac (v 0) an)) (c (.int 3))) (PL.or (app1 fNot (app1 (fIsi .tuple) (app2 fIx (v 0) (c (.int 1))))) (app2 fGt (app fLen (ac (app2 fIx (v 0) (c (.int 1))) an)) (c (.int 100))))))
   (ret (c (.bl false)))
   skip)
  (ret (app2 fEq (lc (iVal (app fTup (ac (app2 fIx (v 0) (c (.int 0))) (ac (app2 fIx (v 0) (c (.int 2))) an)))) (tn 1) (PL.and (app2 fNotN (v 1) (c .non)) (app1 fNot (app m__law_is_number (ac (v 1) an)))) (c (.int 1)) [1]) (app fLst an))))
noncomputable def m__law_is_formed : Fn := fn 2 b__law_is_formed
/- _law_due: 0 thing, 1 ahead, 2 place, 3 until, 4 bursts, 5 since, 6 burst, 7 gap_now, 8 first, 9 ticks, 10 off, 11 times -/
noncomputable def b__law_due : Sm :=
  (seq (PL.cond (app1 fNot (app m__law_is_formed (ac (v 0) an)))
   (ret (c (.str ("form" : Str))))
   skip)
  (seq (asg (tt 3 (tc (tn 3) (tc (tn 4) (tc (tn 5) t0)))) (v 0))
  (seq (forS (iEnum (v 4)) (tt 2 (tc (tn 2) (tc (tn 6) t0)))
   (PL.cond (app1 fNot (app m__law_is_burst (ac (v 6) an)))
    (ret (app fTup (ac (c (.str ("burst" : Str))) (ac (v 2) an))))
    skip))
  (seq (setv 1 (v 3))
  (seq (forS (iEnum (v 4)) (tt 2 (tc (tn 2) (tc (tt 4 (tc (tn 8) (tc (tn 9) (tc (tn 10) (tc (tn 11) t0))))) t0)))
   (seq (PL.cond (PL.and (app2 fNotN (v 1) (c .non)) (app2 fLe (v 8) (v 1)))
    (ret (app fTup (ac (c (.str ("order" : Str))) (ac (v 2) an))))
    skip)
   (setv 1 (app2 fAdd (app2 fAdd (v 8) (app2 fMul (v 11) (v 9))) (app2 fMul (app2 fSub (v 11) (c (.int 1))) (v 10))))))
  (seq (PL.cond (PL.and (app2 fNotN (v 5) (c .non)) (PL.and (app2 fNotN (v 1) (c .non)) (PL.and (app2 fLe (v 5) (v 1)) (app2 fNe (v 0) (app fTup (ac (c (.int 0)) (ac (app fTup an) (ac (c (.int 0)) an))))))))
   (ret (app fTup (ac (c (.str ("since" : Str))) an)))
   skip)
  (seq (forS (iRng1 (app2 fSub (app fLen (ac (v 4) an)) (c (.int 1)))) (tn 2)
   (seq (asg (tt 4 (tc (tn 8) (tc (tn 9) (tc (tn 10) (tc (tn 11) t0))))) (app2 fIx (v 4) (v 2)))
   (seq (setv 7 (app2 fSub (app2 fSub (app2 fSub (app2 fIx (app2 fIx (v 4) (app2 fAdd (v 2) (c (.int 1)))) (c (.int 0))) (v 8)) (app2 fMul (v 11) (v 9))) (app2 fMul (app2 fSub (v 11) (c (.int 1))) (v 10))))
   (PL.cond (PL.and (app2 fEq (v 9) (app2 fIx (app2 fIx (v 4) (app2 fAdd (v 2) (c (.int 1)))) (c (.int 1)))) (PL.or (app2 fEq (v 11) (c (.int 1))) (app2 fEq (v 10) (v 7))))
    (ret (app fTup (ac (c (.str ("joined" : Str))) (ac (v 2) an))))
    skip))))
  (ret (c .non)))))))))
noncomputable def m__law_due : Fn := fn 12 b__law_due
/- _law_odd_item: 0 deck, 1 item, 2 items -/
noncomputable def b__law_odd_item : Sm :=
  (seq (setv 2 (app fLst (ac (c .non) (ac (c (.bl true)) (ac (c (.bl false)) (ac (app fStr (ac (v 1) an)) (ac (app fTup (ac (v 1) an)) (ac (app fLst (ac (v 1) an)) (ac (app1 fNeg (c (.int 1))) (ac (c (.int 0)) (ac (c (.int 1)) (ac (app2 fPow (c (.int 10)) (c (.int 60))) (ac (app2 fAdd (app2 fPow (c (.int 10)) (c (.int 60))) (c (.int 1))) (ac (app2 fSub (app1 fNeg (app2 fPow (c (.int 10)) (c (.int 60)))) (c (.int 1))) (ac (app1 fNeg (app2 fPow (c (.int 10)) (c (.int 60)))) an)))))))))))))))
  (seq (PL.cond (app1 (fIsi .int) (v 1))
   (setv 2 (app2 fAdd (v 2) (app fLst (ac (app2 fAdd (v 1) (c (.int 1))) (ac (app2 fSub (v 1) (c (.int 1))) (ac (app2 fSub (c (.int 0)) (v 1)) (ac (app2 fAdd (v 1) (c (.int 2))) (ac (app2 fSub (v 1) (c (.int 2))) (ac (v 1) an)))))))))
   skip)
  (ret (app m__law_pick (ac (v 0) (ac (v 2) an))))))
noncomputable def m__law_odd_item : Fn := fn 3 b__law_odd_item
/- _law_bent: 0 deck, 1 signal, 2 way, 3 at, 4 burst, 5 until, 6 bursts, 7 since, 8 menu, 9 behind, 10 pair, 11 spot, 12 first, 13 ticks, 14 off, 15 times -/
noncomputable def b__law_bent : Sm :=
  (seq (asg (tt 3 (tc (tn 5) (tc (tn 6) (tc (tn 7) t0)))) (v 1))
  (seq (setv 2 (app m__law_draw (ac (v 0) (ac (c (.int 10)) an))))
  (seq (PL.cond (app2 fEq (v 2) (c (.int 0)))
   (seq (setv 8 (app fLst (ac (app fList (ac (v 1) an)) (ac (sl (v 1) (c .non) (app1 fPart (c (.int 2)))) (ac (app2 fAdd (v 1) (app fTup (ac (c .non) an))) (ac (c .non) (ac (c (.str ("on" : Str))) (ac (app fTup an) (ac dnew (ac (app fTup (ac (v 5) (ac (app fList (ac (v 6) an)) (ac (v 7) an)))) (ac (v 6) an)))))))))))
   (ret (app m__law_pick (ac (v 0) (ac (app2 fAdd (v 8) (app fLst (ac (app fTup (ac (v 5) (ac (c .non) (ac (v 7) an)))) (ac (app fTup (ac (v 5) (ac (app2 fMulT (v 6) (c (.int 60))) (ac (v 7) an)))) (ac (app fTup (ac (v 5) (ac (app fTup (ac (v 6) an)) (ac (v 7) an)))) an))))) an)))))
   skip)
  (seq (PL.cond (PL.or (app2 fLt (v 2) (c (.int 3))) (app2 fEq (v 6) (app fTup an)))
   (seq (PL.cond (app2 fEq (app m__law_draw (ac (v 0) (ac (c (.int 2)) an))) (c (.int 0)))
    (ret (app fTup (ac (app m__law_odd_item (ac (v 0) (ac (v 5) an))) (ac (v 6) (ac (v 7) an)))))
    skip)
   (ret (app fTup (ac (v 5) (ac (v 6) (ac (app m__law_odd_item (ac (v 0) (ac (v 7) an))) an))))))
   skip)
  (seq (setv 3 (app m__law_draw (ac (v 0) (ac (app fLen (ac (v 6) an)) an))))
  (seq (PL.cond (app2 fEq (v 2) (c (.int 3)))
   (seq (setv 8 (app fLst (ac (app fList (ac (app2 fIx (v 6) (v 3)) an)) (ac (sl (app2 fIx (v 6) (v 3)) (c .non) (app1 fPart (c (.int 3)))) (ac (app2 fAdd (app2 fIx (v 6) (v 3)) (app fTup (ac (c (.int 0)) an))) (ac (c .non) (ac (c (.int 7)) (ac (app fTup an) (ac (app2 fIx (app2 fIx (v 6) (v 3)) (c (.int 0))) an)))))))))
   (ret (app fTup (ac (v 5) (ac (app2 fAdd (app2 fAdd (sl (v 6) (c .non) (app1 fPart (v 3))) (app fTup (ac (app m__law_pick (ac (v 0) (ac (v 8) an))) an))) (sl (v 6) (app1 fPart (app2 fAdd (v 3) (c (.int 1)))) (c .non))) (ac (v 7) an))))))
   skip)
  (seq (PL.cond (app2 fEq (v 2) (c (.int 4)))
   (ret (app fTup (ac (v 5) (ac (app2 fAdd (sl (v 6) (c .non) (app1 fPart (v 3))) (sl (v 6) (app1 fPart (app2 fAdd (v 3) (c (.int 1)))) (c .non))) (ac (v 7) an)))))
   skip)
  (seq (PL.cond (app2 fEq (v 2) (c (.int 5)))
   (ret (app fTup (ac (v 5) (ac (app2 fAdd (app2 fAdd (sl (v 6) (c .non) (app1 fPart (v 3))) (app2 fMul (sl (v 6) (app1 fPart (v 3)) (app1 fPart (app2 fAdd (v 3) (c (.int 1))))) (c (.int 2)))) (sl (v 6) (app1 fPart (app2 fAdd (v 3) (c (.int 1)))) (c .non))) (ac (v 7) an)))))
   skip)
  (seq (PL.cond (app2 fGt (v 2) (c (.int 7)))
   (seq (asg (tt 4 (tc (tn 12) (tc (tn 13) (tc (tn 14) (tc (tn 15) t0))))) (app2 fIx (v 6) (v 3)))
   (seq (setv 9 (app2 fAdd (app2 fAdd (v 12) (app2 fMul (v 15) (v 13))) (app2 fMul (app2 fSub (v 15) (c (.int 1))) (v 14))))
   (seq (setv 10 (app fTup (ac (app fTup (ac (v 12) (ac (v 13) (ac (c (.int 0)) (ac (c (.int 1)) an))))) (ac (app fTup (ac (app2 fAdd (app2 fAdd (v 12) (v 13)) (v 14)) (ac (v 13) (ac (PL.ite (app2 fGt (v 15) (c (.int 2))) (v 14) (c (.int 0))) (ac (app2 fSub (v 15) (c (.int 1))) an))))) an))))
   (seq (PL.cond (app2 fEq (v 15) (c (.int 1)))
    (setv 10 (app fTup (ac (app2 fIx (v 6) (v 3)) (ac (app fTup (ac (app2 fAdd (app2 fAdd (v 9) (c (.int 1))) (app m__law_draw (ac (v 0) (ac (c (.int 2)) an)))) (ac (v 13) (ac (c (.int 0)) (ac (c (.int 1)) an))))) an))))
    skip)
   (ret (app fTup (ac (v 5) (ac (app2 fAdd (app2 fAdd (sl (v 6) (c .non) (app1 fPart (v 3))) (v 10)) (sl (v 6) (app1 fPart (app2 fAdd (v 3) (c (.int 1)))) (c .non))) (ac (v 7) an)))))))))
   skip)
  (seq (par 11 4 (app m__law_draw (ac (v 0) (ac (c (.int 4)) an))) (app2 fIx (v 6) (v 3)))
  (seq (setv 4 (app2 fAdd (app2 fAdd (sl (v 4) (c .non) (app1 fPart (v 11))) (app fTup (ac (app m__law_odd_item (ac (v 0) (ac (app2 fIx (v 4) (v 11)) an))) an))) (sl (v 4) (app1 fPart (app2 fAdd (v 11) (c (.int 1)))) (c .non))))
  (ret (app fTup (ac (v 5) (ac (app2 fAdd (app2 fAdd (sl (v 6) (c .non) (app1 fPart (v 3))) (app fTup (ac (v 4) an))) (sl (v 6) (app1 fPart (app2 fAdd (v 3) (c (.int 1)))) (c .non))) (ac (v 7) an))))))))))))))))
noncomputable def m__law_bent : Fn := fn 16 b__law_bent
/- _law_bent_more: 0 deck, 1 signal, 2 rows, 3 turn, 4 until, 5 bursts, 6 since, 7 way, 8 at -/
noncomputable def b__law_bent_more : Sm :=
  (seq (asg (tt 3 (tc (tn 4) (tc (tn 5) (tc (tn 6) t0)))) (v 1))
  (seq (setv 2 (app fList (ac (v 5) an)))
  (seq (forS (iRng1 (app2 fAdd (c (.int 2)) (app m__law_draw (ac (v 0) (ac (c (.int 2)) an))))) (tn 3)
   (seq (par 7 8 (app m__law_draw (ac (v 0) (ac (c (.int 6)) an))) (app m__law_draw (ac (v 0) (ac (app fLen (ac (v 2) an)) an))))
   (PL.cond (app2 fEq (v 7) (c (.int 0)))
    (setv 4 (app m__law_pick (ac (v 0) (ac (app fLst (ac (c .non) (ac (c (.str ("x" : Str))) (ac (c (.int 0)) (ac (app1 fNeg (c (.int 9))) (ac (c (.int 30)) (ac (c (.bl true)) (ac (app2 fPow (c (.int 10)) (c (.int 61))) an)))))))) an))))
    (PL.cond (app2 fEq (v 7) (c (.int 1)))
     (setv 6 (app m__law_pick (ac (v 0) (ac (app fLst (ac (c .non) (ac (c (.str ("x" : Str))) (ac (c (.int 0)) (ac (c (.int 4)) (ac (c (.int 30)) (ac (c (.bl false)) (ac (app2 fPow (c (.int 10)) (c (.int 61))) an)))))))) an))))
     (PL.cond (PL.and (app2 fEq (v 7) (c (.int 2))) (app2 fNe (v 2) (app fLst an)))
      (asg (tsub fSet (v 2) (v 8)) (app m__law_pick (ac (v 0) (ac (app fLst (ac (c .non) (ac (app fTup (ac (c (.int 9)) (ac (c (.int 0)) (ac (c (.int 0)) (ac (c (.int 1)) an))))) (ac (app fTup (ac (c (.int 9)) (ac (c (.int 1)) (ac (c (.int 0)) an)))) (ac (app fLst (ac (c (.int 9)) (ac (c (.int 1)) (ac (c (.int 0)) (ac (c (.int 1)) an))))) (ac (app fTup (ac (c (.int 9)) (ac (c (.int 1)) (ac (c (.int 1)) (ac (c (.int 1)) an))))) (ac (app fTup (ac (c (.int 9)) (ac (c (.int 1)) (ac (c (.int 0)) (ac (c (.bl true)) an))))) an))))))) an))))
      (PL.cond (app2 fEq (v 7) (c (.int 3)))
       (setv 2 (app2 fAdd (sl (v 2) (app1 fPart (c (.int 1))) (c .non)) (sl (v 2) (c .non) (app1 fPart (c (.int 1))))))
       (PL.cond (PL.or (app2 fEq (v 7) (c (.int 4))) (app2 fEq (v 2) (app fLst an)))
        (PL.exp (mth .list fAppend (v 2) (ac (app fTup (ac (app2 fSub (app m__law_draw (ac (v 0) (ac (c (.int 20)) an))) (c (.int 9))) (ac (app2 fAdd (c (.int 1)) (app m__law_draw (ac (v 0) (ac (c (.int 2)) an)))) (ac (c (.int 0)) (ac (c (.int 1)) an))))) an)))
        (PL.exp (mth .list fAppend (v 2) (ac (app2 fIx (v 2) (v 8)) an))))))))))
  (ret (app fTup (ac (v 4) (ac (app fTuple (ac (v 2) an)) (ac (v 6) an))))))))
noncomputable def m__law_bent_more : Fn := fn 9 b__law_bent_more
/- _law_many: 0 deck, 1 many, 2 runs, 3 k -/
noncomputable def b__law_many : Sm :=
  (seq (setv 1 (app2 fAdd (c (.int 99)) (app m__law_draw (ac (v 0) (ac (c (.int 3)) an)))))
  (seq (setv 2 (lc (iRng1 (v 1)) (tn 3) yes (app fTup (ac (app2 fMul (c (.int 10)) (v 3)) (ac (app2 fAdd (app2 fAdd (app2 fMul (c (.int 10)) (v 3)) (c (.int 1))) (app2 fMod (app fInt (ac (v 3) an)) (c (.int 2)))) an))) [3]))
  (ret (app m__law_grouped (ac (c .non) (ac (v 2) (ac (c .non) an)))))))
noncomputable def m__law_many : Fn := fn 4 b__law_many
/- law: 0 script, 1 deck, 2 turn, 3 great, 4 bursts, 5 behind, 6 burst, 7 signal, 8 again, 9 last, 10 near, 11 thing, 12 by, 13 known, 14 told -/
noncomputable def b_law : Sm :=
  (seq (setv 1 (app m__law_deck (ac (v 0) an)))
  (seq (forS (iRng1 (c (.int 4))) (tn 2)
   (seq (setv 7 (app m__law_signal (ac (v 1) (ac (c (.int 6)) (ac (c (.int 4)) an)))))
   (seq (PL.cond (app2 fEq (app m__law_draw (ac (v 1) (ac (c (.int 3)) an))) (c (.int 0)))
    (seq (setv 12 (app m__law_pick (ac (v 1) (ac (app fLst (ac (app2 fPow (c (.int 10)) (c (.int 57))) (ac (app2 fPow (c (.int 10)) (c (.int 30))) (ac (c (.int 7)) an)))) an))))
    (setv 7 (app m__law_great (ac (v 1) (ac (v 7) (ac (v 12) (ac (app m__law_draw (ac (v 1) (ac (c (.int 9)) an))) an)))))))
    skip)
   (seq (PL.cond (app2 fNe (app fRepr (ac (app m_signal_error (ac (v 7) an)) an)) (app fRepr (ac (app m__law_due (ac (v 7) an)) an)))
    (ret (c (.bl false)))
    skip)
   (forS (iRng1 (c (.int 6))) (tn 8)
    (seq (setv 11 (PL.ite (app2 fGt (v 8) (c (.int 3))) (app m__law_bent_more (ac (v 1) (ac (v 7) an))) (app m__law_bent (ac (v 1) (ac (v 7) an)))))
    (seq (setv 11 (PL.ite (PL.and (app2 fEq (app m__law_draw (ac (v 1) (ac (c (.int 6)) an))) (c (.int 0))) (app2 fIsN (app m__law_due (ac (v 11) an)) (c .non))) (app m__law_bent (ac (v 1) (ac (v 11) an))) (v 11)))
    (seq (setv 13 (app fRepr (ac (v 11) an)))
    (seq (setv 14 (PL.ite (app2 fGt (v 8) (c (.int 0))) (app m_signal_error (ac (v 11) an)) (callK m_signal_error [0] an (ac (v 11) an))))
    (PL.cond (PL.or (app2 fNe (app fRepr (ac (v 14) an)) (app fRepr (ac (app m__law_due (ac (v 11) an)) an))) (app2 fNe (app fRepr (ac (v 11) an)) (v 13)))
     (ret (c (.bl false)))
     skip))))))))))
  (seq (setv 3 (app m__law_many (ac (v 1) an)))
  (seq (setv 4 (app2 fIx (v 3) (c (.int 1))))
  (seq (par 9 10 (app2 fIx (v 4) (app1 fNeg (c (.int 1)))) (app2 fIx (v 4) (app1 fNeg (c (.int 2)))))
  (seq (setv 5 (app2 fAdd (app2 fIx (v 10) (c (.int 0))) (app2 fIx (v 10) (c (.int 1)))))
  (seq (forS (iVal (app fTup (ac (v 9) (ac (app fTup (ac (v 5) (ac (app2 fIx (v 9) (c (.int 1))) (ac (c (.int 0)) (ac (c (.int 1)) an))))) (ac (app fTup (ac (app2 fAdd (v 5) (c (.int 2))) (ac (app2 fIx (v 10) (c (.int 1))) (ac (c (.int 0)) (ac (c (.int 1)) an))))) (ac (app fTup (ac (app2 fIx (v 9) (c (.int 0))) (ac (app2 fIx (v 9) (c (.int 1))) (ac (c (.int 0)) (ac (c (.int 0)) an))))) (ac (v 10) an))))))) (tn 6)
   (seq (setv 11 (app fTup (ac (c .non) (ac (app2 fAdd (sl (v 4) (c .non) (app1 fPart (app1 fNeg (c (.int 1))))) (app fTup (ac (v 6) an))) (ac (app m__law_pick (ac (v 1) (ac (app fLst (ac (c .non) (ac (app2 fIx (v 9) (c (.int 0))) (ac (app2 fAdd (app2 fIx (v 9) (c (.int 0))) (c (.int 9))) an)))) an))) an)))))
   (PL.cond (app2 fNe (app fRepr (ac (app m_signal_error (ac (v 11) an)) an)) (app fRepr (ac (app m__law_due (ac (v 11) an)) an)))
    (ret (c (.bl false)))
    skip)))
  (ret (PL.and (app2 fEq (app fRepr (ac (app m_signal_error (ac (v 3) an)) an)) (app fRepr (ac (app m__law_due (ac (v 3) an)) an))) (app2 fIsN (app m_signal_error (ac (app fTup (ac (c (.int 0)) (ac (app fTup an) (ac (c (.int 0)) an)))) an)) (c .non)))))))))))
noncomputable def m_law : Fn := fn 15 b_law
end Law
end
section
set_option Elab.async false
set_option linter.all false
set_option maxRecDepth 100000
set_option maxHeartbeats 4000000
/-! The walk (printed by gen.py). -/
namespace Law
open PySem PySem.Spec PyProof.Rows L2 PL
def top (i : Nat) : Stmt := PySem.Challenge.pw_latewires_k01_what_is_a_signal.main.body.getD i (.Pass ⟨0, 0, 0, 0⟩)
abbrev s_is_integer : Stmt := top 4
abbrev N_is_integer : List Str := ["value"]
theorem sc_is_integer : FnScope N_is_integer ["value"] (defScope s_is_integer) := ⟨rfl, rfl, rfl, by decide +kernel, rfl, by decide +kernel, by decide +kernel⟩
theorem bd_is_integer : Bd "is_integer" s_is_integer ["value"] := fun _ _ _ _ _ _ _ us hl => match us, hl with | [_], _ => rfl
abbrev s_is_number : Stmt := top 5
abbrev N_is_number : List Str := ["value"]
theorem sc_is_number : FnScope N_is_number ["value"] (defScope s_is_number) := ⟨rfl, rfl, rfl, by decide +kernel, rfl, by decide +kernel, by decide +kernel⟩
theorem bd_is_number : Bd "is_number" s_is_number ["value"] := fun _ _ _ _ _ _ _ us hl => match us, hl with | [_], _ => rfl
abbrev s_is_burst : Stmt := top 6
abbrev N_is_burst : List Str := ["value", "tick", "on", "off", "times", "item"]
theorem sc_is_burst : FnScope N_is_burst ["value"] (defScope s_is_burst) := ⟨rfl, rfl, rfl, by decide +kernel, rfl, by decide +kernel, by decide +kernel⟩
theorem bd_is_burst : Bd "is_burst" s_is_burst ["value"] := fun _ _ _ _ _ _ _ us hl => match us, hl with | [_], _ => rfl
abbrev s_end_of : Stmt := top 7
abbrev N_end_of : List Str := ["burst", "tick", "on", "off", "times"]
theorem sc_end_of : FnScope N_end_of ["burst"] (defScope s_end_of) := ⟨rfl, rfl, rfl, by decide +kernel, rfl, by decide +kernel, by decide +kernel⟩
theorem bd_end_of : Bd "end_of" s_end_of ["burst"] := fun _ _ _ _ _ _ _ us hl => match us, hl with | [_], _ => rfl
abbrev s_takes_on : Stmt := top 8
abbrev N_takes_on : List Str := ["burst", "further"]
theorem sc_takes_on : FnScope N_takes_on ["burst", "further"] (defScope s_takes_on) := ⟨rfl, rfl, rfl, by decide +kernel, rfl, by decide +kernel, by decide +kernel⟩
theorem bd_takes_on : Bd "takes_on" s_takes_on ["burst", "further"] := fun _ _ _ _ _ _ _ us hl => match us, hl with | [_, _], _ => rfl
abbrev s_order_error : Stmt := top 9
abbrev N_order_error : List Str := ["until", "bursts", "ahead", "place", "burst"]
theorem sc_order_error : FnScope N_order_error ["until", "bursts"] (defScope s_order_error) := ⟨rfl, rfl, rfl, by decide +kernel, rfl, by decide +kernel, by decide +kernel⟩
theorem bd_order_error : Bd "order_error" s_order_error ["until", "bursts"] := fun _ _ _ _ _ _ _ us hl => match us, hl with | [_, _], _ => rfl
abbrev s_ends_of : Stmt := top 10
abbrev N_ends_of : List Str := ["value"]
theorem sc_ends_of : FnScope N_ends_of ["value"] (defScope s_ends_of) := ⟨rfl, rfl, rfl, by decide +kernel, rfl, by decide +kernel, by decide +kernel⟩
theorem bd_ends_of : Bd "ends_of" s_ends_of ["value"] := fun _ _ _ _ _ _ _ us hl => match us, hl with | [_], _ => rfl
abbrev s_signal_error : Stmt := top 11
abbrev N_signal_error : List Str := ["value", "error", "ahead", "until", "bursts", "since", "place", "burst", "further", "item"]
theorem sc_signal_error : FnScope N_signal_error ["value"] (defScope s_signal_error) := ⟨rfl, rfl, rfl, by decide +kernel, rfl, by decide +kernel, by decide +kernel⟩
theorem bd_signal_error : Bd "signal_error" s_signal_error ["value"] := fun _ _ _ _ _ _ _ us hl => match us, hl with | [_], _ => rfl
abbrev s__law_deck : Stmt := top 13
abbrev N__law_deck : List Str := ["script", "deck", "cell", "whole"]
theorem sc__law_deck : FnScope N__law_deck ["script"] (defScope s__law_deck) := ⟨rfl, rfl, rfl, by decide +kernel, rfl, by decide +kernel, by decide +kernel⟩
theorem bd__law_deck : Bd "_law_deck" s__law_deck ["script"] := fun _ _ _ _ _ _ _ us hl => match us, hl with | [_], _ => rfl
abbrev s__law_draw : Stmt := top 14
abbrev N__law_draw : List Str := ["deck", "many", "one", "two", "whole"]
theorem sc__law_draw : FnScope N__law_draw ["deck", "many"] (defScope s__law_draw) := ⟨rfl, rfl, rfl, by decide +kernel, rfl, by decide +kernel, by decide +kernel⟩
theorem bd__law_draw : Bd "_law_draw" s__law_draw ["deck", "many"] := fun _ _ _ _ _ _ _ us hl => match us, hl with | [_, _], _ => rfl
abbrev s__law_pick : Stmt := top 15
abbrev N__law_pick : List Str := ["deck", "some"]
theorem sc__law_pick : FnScope N__law_pick ["deck", "some"] (defScope s__law_pick) := ⟨rfl, rfl, rfl, by decide +kernel, rfl, by decide +kernel, by decide +kernel⟩
theorem bd__law_pick : Bd "_law_pick" s__law_pick ["deck", "some"] := fun _ _ _ _ _ _ _ us hl => match us, hl with | [_, _], _ => rfl
abbrev s__law_grouped : Stmt := top 16
abbrev N__law_grouped : List Str := ["until", "runs", "since", "bursts", "at", "first", "ticks", "times", "off", "here", "far"]
theorem sc__law_grouped : FnScope N__law_grouped ["until", "runs", "since"] (defScope s__law_grouped) := ⟨rfl, rfl, rfl, by decide +kernel, rfl, by decide +kernel, by decide +kernel⟩
theorem bd__law_grouped : Bd "_law_grouped" s__law_grouped ["until", "runs", "since"] := fun _ _ _ _ _ _ _ us hl => match us, hl with | [_, _, _], _ => rfl
abbrev s__law_row_of_runs : Stmt := top 17
abbrev N__law_row_of_runs : List Str := ["deck", "begin", "many", "most", "turn", "found", "ticks", "off"]
theorem sc__law_row_of_runs : FnScope N__law_row_of_runs ["deck", "begin", "many", "most"] (defScope s__law_row_of_runs) := ⟨rfl, rfl, rfl, by decide +kernel, rfl, by decide +kernel, by decide +kernel⟩
theorem bd__law_row_of_runs : Bd "_law_row_of_runs" s__law_row_of_runs ["deck", "begin", "many", "most"] := fun _ _ _ _ _ _ _ us hl => match us, hl with | [_, _, _, _], _ => rfl
abbrev s__law_signal : Stmt := top 18
abbrev N__law_signal : List Str := ["deck", "many", "most", "until", "runs", "far", "since", "way", "begin"]
theorem sc__law_signal : FnScope N__law_signal ["deck", "many", "most"] (defScope s__law_signal) := ⟨rfl, rfl, rfl, by decide +kernel, rfl, by decide +kernel, by decide +kernel⟩
theorem bd__law_signal : Bd "_law_signal" s__law_signal ["deck", "many", "most"] := fun _ _ _ _ _ _ _ us hl => match us, hl with | [_, _, _], _ => rfl
abbrev s__law_great : Stmt := top 19
abbrev N__law_great : List Str := ["deck", "signal", "by", "far", "found", "until", "bursts", "since", "first", "ticks", "off", "times"]
theorem sc__law_great : FnScope N__law_great ["deck", "signal", "by", "far"] (defScope s__law_great) := ⟨rfl, rfl, rfl, by decide +kernel, rfl, by decide +kernel, by decide +kernel⟩
theorem bd__law_great : Bd "_law_great" s__law_great ["deck", "signal", "by", "far"] := fun _ _ _ _ _ _ _ us hl => match us, hl with | [_, _, _, _], _ => rfl
abbrev s__law_is_number : Stmt := top 20
abbrev N__law_is_number : List Str := ["thing"]
theorem sc__law_is_number : FnScope N__law_is_number ["thing"] (defScope s__law_is_number) := ⟨rfl, rfl, rfl, by decide +kernel, rfl, by decide +kernel, by decide +kernel⟩
theorem bd__law_is_number : Bd "_law_is_number" s__law_is_number ["thing"] := fun _ _ _ _ _ _ _ us hl => match us, hl with | [_], _ => rfl
abbrev s__law_is_burst : Stmt := top 21
abbrev N__law_is_burst : List Str := ["thing", "first", "ticks", "off", "times", "item"]
theorem sc__law_is_burst : FnScope N__law_is_burst ["thing"] (defScope s__law_is_burst) := ⟨rfl, rfl, rfl, by decide +kernel, rfl, by decide +kernel, by decide +kernel⟩
theorem bd__law_is_burst : Bd "_law_is_burst" s__law_is_burst ["thing"] := fun _ _ _ _ _ _ _ us hl => match us, hl with | [_], _ => rfl
abbrev s__law_is_formed : Stmt := top 22
abbrev N__law_is_formed : List Str := ["thing", "end"]
theorem sc__law_is_formed : FnScope N__law_is_formed ["thing"] (defScope s__law_is_formed) := ⟨rfl, rfl, rfl, by decide +kernel, rfl, by decide +kernel, by decide +kernel⟩
theorem bd__law_is_formed : Bd "_law_is_formed" s__law_is_formed ["thing"] := fun _ _ _ _ _ _ _ us hl => match us, hl with | [_], _ => rfl
abbrev s__law_due : Stmt := top 23
abbrev N__law_due : List Str := ["thing", "ahead", "place", "until", "bursts", "since", "burst", "gap_now", "first", "ticks", "off", "times"]
theorem sc__law_due : FnScope N__law_due ["thing"] (defScope s__law_due) := ⟨rfl, rfl, rfl, by decide +kernel, rfl, by decide +kernel, by decide +kernel⟩
theorem bd__law_due : Bd "_law_due" s__law_due ["thing"] := fun _ _ _ _ _ _ _ us hl => match us, hl with | [_], _ => rfl
abbrev s__law_odd_item : Stmt := top 24
abbrev N__law_odd_item : List Str := ["deck", "item", "items"]
theorem sc__law_odd_item : FnScope N__law_odd_item ["deck", "item"] (defScope s__law_odd_item) := ⟨rfl, rfl, rfl, by decide +kernel, rfl, by decide +kernel, by decide +kernel⟩
theorem bd__law_odd_item : Bd "_law_odd_item" s__law_odd_item ["deck", "item"] := fun _ _ _ _ _ _ _ us hl => match us, hl with | [_, _], _ => rfl
abbrev s__law_bent : Stmt := top 25
abbrev N__law_bent : List Str := ["deck", "signal", "way", "at", "burst", "until", "bursts", "since", "menu", "behind", "pair", "spot", "first", "ticks", "off", "times"]
theorem sc__law_bent : FnScope N__law_bent ["deck", "signal"] (defScope s__law_bent) := ⟨rfl, rfl, rfl, by decide +kernel, rfl, by decide +kernel, by decide +kernel⟩
theorem bd__law_bent : Bd "_law_bent" s__law_bent ["deck", "signal"] := fun _ _ _ _ _ _ _ us hl => match us, hl with | [_, _], _ => rfl
abbrev s__law_bent_more : Stmt := top 26
abbrev N__law_bent_more : List Str := ["deck", "signal", "rows", "turn", "until", "bursts", "since", "way", "at"]
theorem sc__law_bent_more : FnScope N__law_bent_more ["deck", "signal"] (defScope s__law_bent_more) := ⟨rfl, rfl, rfl, by decide +kernel, rfl, by decide +kernel, by decide +kernel⟩
theorem bd__law_bent_more : Bd "_law_bent_more" s__law_bent_more ["deck", "signal"] := fun _ _ _ _ _ _ _ us hl => match us, hl with | [_, _], _ => rfl
abbrev s__law_many : Stmt := top 27
abbrev N__law_many : List Str := ["deck", "many", "runs", "k"]
theorem sc__law_many : FnScope N__law_many ["deck"] (defScope s__law_many) := ⟨rfl, rfl, rfl, by decide +kernel, rfl, by decide +kernel, by decide +kernel⟩
theorem bd__law_many : Bd "_law_many" s__law_many ["deck"] := fun _ _ _ _ _ _ _ us hl => match us, hl with | [_], _ => rfl
abbrev s_law : Stmt := top 28
abbrev N_law : List Str := ["script", "deck", "turn", "great", "bursts", "behind", "burst", "signal", "again", "last", "near", "thing", "by", "known", "told"]
theorem sc_law : FnScope N_law ["script"] (defScope s_law) := ⟨rfl, rfl, rfl, by decide +kernel, rfl, by decide +kernel, by decide +kernel⟩
theorem bd_law : Bd "law" s_law ["script"] := fun _ _ _ _ _ _ _ us hl => match us, hl with | [_], _ => rfl
theorem bk_signal_error_0_value : BdK "signal_error" s_signal_error ["value"] ["value"] 0 [0] := fun _ _ _ _ _ _ _ us ws h1 h2 => match us, ws, h1, h2 with | [], [_], _, _ => rfl
/-- what is known of the top -/
structure Top (mg : Str → Option Value) (K : PySem.W.Frag) : Prop where
  b_abs : mg "abs" = none
  b_bool : mg "bool" = none
  b_enumerate : mg "enumerate" = none
  b_int : mg "int" = none
  b_isinstance : mg "isinstance" = none
  b_len : mg "len" = none
  b_list : mg "list" = none
  b_range : mg "range" = none
  b_repr : mg "repr" = none
  b_str : mg "str" = none
  b_tuple : mg "tuple" = none
  k_ALWAYS_ON : ∃ a, mg "ALWAYS_ON" = some (.ref a) ∧ ∀ H ρ, Rep K H ρ K_ALWAYS_ON (.ref a)
  k_MAX_BURSTS : ∃ t, mg "MAX_BURSTS" = some (.int 100 t)
  k_MAX_NUMBER : ∃ t, mg "MAX_NUMBER" = some (.int 1000000000000000000000000000000000000000000000000000000000000 t)
/-- .. and of the defs -/
structure Cx0 (P : Program) (w : World) (K : PySem.W.Frag) (mg : Str → Option Value) (base : Heap) extends Top mg K where
  f_is_integer : FnM P w K mg base CX0 1 "is_integer" s_is_integer ["value"] m_is_integer
  f_is_number : FnM P w K mg base CX0 2 "is_number" s_is_number ["value"] m_is_number
  f_is_burst : FnM P w K mg base CX0 3 "is_burst" s_is_burst ["value"] m_is_burst
  f_end_of : FnM P w K mg base CX0 1 "end_of" s_end_of ["burst"] m_end_of
  f_takes_on : FnM P w K mg base CX0 2 "takes_on" s_takes_on ["burst", "further"] m_takes_on
  f_order_error : FnM P w K mg base CX0 2 "order_error" s_order_error ["until", "bursts"] m_order_error
  f_ends_of : FnM P w K mg base CX0 2 "ends_of" s_ends_of ["value"] m_ends_of
  f_signal_error : FnM P w K mg base CX0 4 "signal_error" s_signal_error ["value"] m_signal_error
  f__law_deck : FnM P w K mg base CX0 1 "_law_deck" s__law_deck ["script"] m__law_deck
  f__law_draw : FnM P w K mg base CX0 1 "_law_draw" s__law_draw ["deck", "many"] m__law_draw
  f__law_pick : FnM P w K mg base CX0 2 "_law_pick" s__law_pick ["deck", "some"] m__law_pick
  f__law_grouped : FnM P w K mg base CX0 1 "_law_grouped" s__law_grouped ["until", "runs", "since"] m__law_grouped
  f__law_row_of_runs : FnM P w K mg base CX0 2 "_law_row_of_runs" s__law_row_of_runs ["deck", "begin", "many", "most"] m__law_row_of_runs
  f__law_signal : FnM P w K mg base CX0 3 "_law_signal" s__law_signal ["deck", "many", "most"] m__law_signal
  f__law_great : FnM P w K mg base CX0 1 "_law_great" s__law_great ["deck", "signal", "by", "far"] m__law_great
  f__law_is_number : FnM P w K mg base CX0 1 "_law_is_number" s__law_is_number ["thing"] m__law_is_number
  f__law_is_burst : FnM P w K mg base CX0 2 "_law_is_burst" s__law_is_burst ["thing"] m__law_is_burst
  f__law_is_formed : FnM P w K mg base CX0 2 "_law_is_formed" s__law_is_formed ["thing"] m__law_is_formed
  f__law_due : FnM P w K mg base CX0 3 "_law_due" s__law_due ["thing"] m__law_due
  f__law_odd_item : FnM P w K mg base CX0 3 "_law_odd_item" s__law_odd_item ["deck", "item"] m__law_odd_item
  f__law_bent : FnM P w K mg base CX0 4 "_law_bent" s__law_bent ["deck", "signal"] m__law_bent
  f__law_bent_more : FnM P w K mg base CX0 3 "_law_bent_more" s__law_bent_more ["deck", "signal"] m__law_bent_more
  f__law_many : FnM P w K mg base CX0 2 "_law_many" s__law_many ["deck"] m__law_many
  f_law : FnM P w K mg base CX0 5 "law" s_law ["script"] m_law
theorem k_ALWAYS_ON {X : Cx} {E : XK} {pos : Pos} (T : Top X.mg X.K) (hg : Gl X "ALWAYS_ON" := by rfl) : PP X E (.Name "ALWAYS_ON" pos) (c K_ALWAYS_ON) := let ⟨a, h, r⟩ := T.k_ALWAYS_ON; pp_glob (w := .ref a) h rfl r hg
theorem k_MAX_BURSTS {X : Cx} {E : XK} {pos : Pos} (T : Top X.mg X.K) (hg : Gl X "MAX_BURSTS" := by rfl) : PP X E (.Name "MAX_BURSTS" pos) (c K_MAX_BURSTS) := let ⟨_, h⟩ := T.k_MAX_BURSTS; pp_glob (w := .int 100) h ⟨_, rfl⟩ (fun _ _ => rint) hg
theorem k_MAX_NUMBER {X : Cx} {E : XK} {pos : Pos} (T : Top X.mg X.K) (hg : Gl X "MAX_NUMBER" := by rfl) : PP X E (.Name "MAX_NUMBER" pos) (c K_MAX_NUMBER) := let ⟨_, h⟩ := T.k_MAX_NUMBER; pp_glob (w := .int 1000000000000000000000000000000000000000000000000000000000000) h ⟨_, rfl⟩ (fun _ _ => rint) hg
section
variable {P : Program} {w : World} {K : PySem.W.Frag} {mg : Str → Option Value} {base : Heap}
theorem ok_is_integer {f : Addr} {fd : FuncData} {ql : Str} (T : Top mg K)  (Fu : L2.Fun K "is_integer" ql s_is_integer f fd) (hm : mg "is_integer" = some (.ref f)) :
    FnM P w K mg base CX0 1 "is_integer" s_is_integer ["value"] m_is_integer :=
  fn_pure Fu hm sc_is_integer rfl fun cdv A outer s H E hr hg =>
  (ppb_one (pps_ret (pp_and (pp_isi (t := .int) (pp_v 0) T.b_isinstance T.b_int boot_isinstance boot_int) (pp_one (pp_not (pp_isi (t := .bool) (pp_v 0) T.b_isinstance T.b_bool boot_isinstance boot_bool))))))
theorem ok_is_number {f : Addr} {fd : FuncData} {ql : Str} (T : Top mg K) (f_is_integer : FnM P w K mg base CX0 1 "is_integer" s_is_integer ["value"] m_is_integer) (Fu : L2.Fun K "is_number" ql s_is_number f fd) (hm : mg "is_number" = some (.ref f)) :
    FnM P w K mg base CX0 2 "is_number" s_is_number ["value"] m_is_number :=
  fn_pure Fu hm sc_is_number rfl fun cdv A outer s H E hr hg =>
  (ppb_one (pps_ret (pp_and (pp_call f_is_integer bd_is_integer hr (by decide) hg pass0 (ppa_cons (pp_v 0) ppa_nil)) (pp_one (pp_chain cmpP_le cmpP_le (pp_un unP_neg (k_MAX_NUMBER T)) (pp_v 0) (k_MAX_NUMBER T))))))
theorem ok_is_burst {f : Addr} {fd : FuncData} {ql : Str} (T : Top mg K) (f_is_number : FnM P w K mg base CX0 2 "is_number" s_is_number ["value"] m_is_number) (Fu : L2.Fun K "is_burst" ql s_is_burst f fd) (hm : mg "is_burst" = some (.ref f)) :
    FnM P w K mg base CX0 3 "is_burst" s_is_burst ["value"] m_is_burst :=
  fn_pure Fu hm sc_is_burst rfl fun cdv A outer s H E hr hg =>
  (ppb_cons (pps_if (PPW.t (ppw_or (ppt_not (PP.t (pp_isi (t := .tuple) (pp_v 0) T.b_isinstance T.b_tuple boot_isinstance boot_tuple))) (ppw_or1 (ppt_cmp (cmpP_ne (hu64 hr)) (pp_callB crP_len T.b_len boot_len (ppa_cons (pp_v 0) ppa_nil)) pp_int))))
   (ppb_one (pps_ret pp_bl))
   ppb_nil)
  (ppb_cons (pps_if (ppt_cmp (cmpP_ne (hu64 hr)) (pp_lc (own := [("item", 5)]) rfl sc_is_burst.nd (ppi_val (pp_v 0)) (blkOk_by (N := N_is_burst) (sc := defScope s_is_burst) (by decide +kernel)) (fun _ _ _ _ _ => (ppg_n 5 sc_is_burst.nd)) (fun _ _ _ _ _ => (ppts_one (ppt_not (PP.t (pp_call f_is_number bd_is_number hr (by decide) hg pass0 (ppa_cons (pp_v 5) ppa_nil)))))) (fun _ _ _ _ _ => pp_int)) (pp_lst ppa_nil))
   (ppb_one (pps_ret pp_bl))
   ppb_nil)
  (ppb_cons (pps_asg (pp_v 0) (ppg_tup (n := 4) rfl (ppgs_cons (ppg_n 1 sc_is_burst.nd) (ppgs_cons (ppg_n 2 sc_is_burst.nd) (ppgs_cons (ppg_n 3 sc_is_burst.nd) (ppgs_cons (ppg_n 4 sc_is_burst.nd) ppgs_nil))))))
  (ppb_cons (pps_if (PPW.t (ppw_or (ppt_cmp cmpP_lt (pp_v 2) pp_int) (ppw_or1 (ppt_cmp cmpP_lt (pp_v 4) pp_int))))
   (ppb_one (pps_ret pp_bl))
   ppb_nil)
  (ppb_one (pps_ret (pp_ite (ppt_cmp (cmpP_eq (hu64 hr)) (pp_v 4) pp_int) (pp_cmp (cmpP_eq (hu64 hr)) (pp_v 3) pp_int) (pp_cmp cmpP_gt (pp_v 3) pp_int))))))))
theorem ok_end_of {f : Addr} {fd : FuncData} {ql : Str} (T : Top mg K)  (Fu : L2.Fun K "end_of" ql s_end_of f fd) (hm : mg "end_of" = some (.ref f)) :
    FnM P w K mg base CX0 1 "end_of" s_end_of ["burst"] m_end_of :=
  fn_pure Fu hm sc_end_of rfl fun cdv A outer s H E hr hg =>
  (ppb_cons (pps_asg (pp_v 0) (ppg_tup (n := 4) rfl (ppgs_cons (ppg_n 1 sc_end_of.nd) (ppgs_cons (ppg_n 2 sc_end_of.nd) (ppgs_cons (ppg_n 3 sc_end_of.nd) (ppgs_cons (ppg_n 4 sc_end_of.nd) ppgs_nil))))))
  (ppb_one (pps_ret (pp_op opP_add (pp_op opP_add (pp_v 1) (pp_op opP_mul (pp_v 4) (pp_v 2))) (pp_op opP_mul (pp_op opP_sub (pp_v 4) pp_int) (pp_v 3))))))
theorem ok_takes_on {f : Addr} {fd : FuncData} {ql : Str} (T : Top mg K) (f_end_of : FnM P w K mg base CX0 1 "end_of" s_end_of ["burst"] m_end_of) (Fu : L2.Fun K "takes_on" ql s_takes_on f fd) (hm : mg "takes_on" = some (.ref f)) :
    FnM P w K mg base CX0 2 "takes_on" s_takes_on ["burst", "further"] m_takes_on :=
  fn_pure Fu hm sc_takes_on rfl fun cdv A outer s H E hr hg =>
  (ppb_cons (pps_if (ppt_cmp (cmpP_ne (hu64 hr)) (pp_ix (pp_v 0) pp_int) (pp_ix (pp_v 1) pp_int))
   (ppb_one (pps_ret pp_bl))
   ppb_nil)
  (ppb_one (pps_ret (pp_or (pp_cmp (cmpP_eq (hu64 hr)) (pp_ix (pp_v 0) pp_int) pp_int) (pp_one (pp_cmp (cmpP_eq (hu64 hr)) (pp_ix (pp_v 0) pp_int) (pp_op opP_sub (pp_ix (pp_v 1) pp_int) (pp_call f_end_of bd_end_of hr (by decide) hg pass0 (ppa_cons (pp_v 0) ppa_nil)))))))))
theorem ok_order_error {f : Addr} {fd : FuncData} {ql : Str} (T : Top mg K) (f_end_of : FnM P w K mg base CX0 1 "end_of" s_end_of ["burst"] m_end_of) (Fu : L2.Fun K "order_error" ql s_order_error f fd) (hm : mg "order_error" = some (.ref f)) :
    FnM P w K mg base CX0 2 "order_error" s_order_error ["until", "bursts"] m_order_error :=
  fn_pure Fu hm sc_order_error rfl fun cdv A outer s H E hr hg =>
  (ppb_cons (pps_set 2 sc_order_error.nd (pp_v 0))
  (ppb_cons (pps_for PassesOwn.never rfl (ppi_enum T.b_enumerate (pp_v 1)) (ppg_tup (n := 2) rfl (ppgs_cons (ppg_n 3 sc_order_error.nd) (ppgs_cons (ppg_n 4 sc_order_error.nd) ppgs_nil)))
   (ppb_cons (pps_if (PPW.t (ppw_and (ppt_cmp cmpP_notN (pp_v 2) pp_non) (ppw_and1 (ppt_cmp cmpP_le (pp_ix (pp_v 4) pp_int) (pp_v 2)))))
    (ppb_one (pps_ret (pp_tup (ppa_cons pp_str (ppa_cons (pp_v 3) ppa_nil)))))
    ppb_nil)
   (ppb_one (pps_set 2 sc_order_error.nd (pp_call f_end_of bd_end_of hr (by decide) hg pass0 (ppa_cons (pp_v 4) ppa_nil))))))
  (ppb_one (pps_ret pp_non))))
theorem ok_ends_of {f : Addr} {fd : FuncData} {ql : Str} (T : Top mg K) (f_end_of : FnM P w K mg base CX0 1 "end_of" s_end_of ["burst"] m_end_of) (Fu : L2.Fun K "ends_of" ql s_ends_of f fd) (hm : mg "ends_of" = some (.ref f)) :
    FnM P w K mg base CX0 2 "ends_of" s_ends_of ["value"] m_ends_of :=
  fn_pure Fu hm sc_ends_of rfl fun cdv A outer s H E hr hg =>
  (ppb_one (pps_ret (pp_ite (ppt_cmp (cmpP_ne (hu64 hr)) (pp_ix (pp_v 0) pp_int) (pp_tup ppa_nil)) (pp_call f_end_of bd_end_of hr (by decide) hg pass0 (ppa_cons (pp_ix (pp_ix (pp_v 0) pp_int) (pp_un unP_neg pp_int)) ppa_nil)) (pp_ix (pp_v 0) pp_int))))
theorem ok_signal_error {f : Addr} {fd : FuncData} {ql : Str} (T : Top mg K) (f_is_number : FnM P w K mg base CX0 2 "is_number" s_is_number ["value"] m_is_number) (f_is_burst : FnM P w K mg base CX0 3 "is_burst" s_is_burst ["value"] m_is_burst) (f_order_error : FnM P w K mg base CX0 2 "order_error" s_order_error ["until", "bursts"] m_order_error) (f_ends_of : FnM P w K mg base CX0 2 "ends_of" s_ends_of ["value"] m_ends_of) (f_takes_on : FnM P w K mg base CX0 2 "takes_on" s_takes_on ["burst", "further"] m_takes_on) (Fu : L2.Fun K "signal_error" ql s_signal_error f fd) (hm : mg "signal_error" = some (.ref f)) :
    FnM P w K mg base CX0 4 "signal_error" s_signal_error ["value"] m_signal_error :=
  fn_pure Fu hm sc_signal_error rfl fun cdv A outer s H E hr hg =>
  (ppb_cons (pps_if (PPW.t (ppw_or (ppt_not (PP.t (pp_isi (t := .tuple) (pp_v 0) T.b_isinstance T.b_tuple boot_isinstance boot_tuple))) (ppw_or1 (ppt_cmp (cmpP_ne (hu64 hr)) (pp_callB crP_len T.b_len boot_len (ppa_cons (pp_v 0) ppa_nil)) pp_int))))
   (ppb_one (pps_ret pp_str))
   ppb_nil)
  (ppb_cons (pps_asg (pp_v 0) (ppg_tup (n := 3) rfl (ppgs_cons (ppg_n 3 sc_signal_error.nd) (ppgs_cons (ppg_n 4 sc_signal_error.nd) (ppgs_cons (ppg_n 5 sc_signal_error.nd) ppgs_nil)))))
  (ppb_cons (pps_if (ppt_cmp (cmpP_ne (hu64 hr)) (pp_lc (own := [("item", 9)]) rfl sc_signal_error.nd (ppi_val (pp_tup (ppa_cons (pp_v 3) (ppa_cons (pp_v 5) ppa_nil)))) (blkOk_by (N := N_signal_error) (sc := defScope s_signal_error) (by decide +kernel)) (fun _ _ _ _ _ => (ppg_n 9 sc_signal_error.nd)) (fun _ _ _ _ _ => (ppts_one (PPW.t (ppw_and (ppt_cmp cmpP_notN (pp_v 9) pp_non) (ppw_and1 (ppt_not (PP.t (pp_call f_is_number bd_is_number hr (by decide) hg pass0 (ppa_cons (pp_v 9) ppa_nil))))))))) (fun _ _ _ _ _ => pp_int)) (pp_lst ppa_nil))
   (ppb_one (pps_ret pp_str))
   ppb_nil)
  (ppb_cons (pps_if (PPW.t (ppw_or (ppt_not (PP.t (pp_isi (t := .tuple) (pp_v 4) T.b_isinstance T.b_tuple boot_isinstance boot_tuple))) (ppw_or1 (ppt_cmp cmpP_gt (pp_callB crP_len T.b_len boot_len (ppa_cons (pp_v 4) ppa_nil)) (k_MAX_BURSTS T)))))
   (ppb_one (pps_ret pp_str))
   ppb_nil)
  (ppb_cons (pps_for PassesOwn.never rfl (ppi_enum T.b_enumerate (pp_v 4)) (ppg_tup (n := 2) rfl (ppgs_cons (ppg_n 6 sc_signal_error.nd) (ppgs_cons (ppg_n 7 sc_signal_error.nd) ppgs_nil)))
   (ppb_one (pps_if (ppt_not (PP.t (pp_call f_is_burst bd_is_burst hr (by decide) hg pass0 (ppa_cons (pp_v 7) ppa_nil))))
    (ppb_one (pps_ret (pp_tup (ppa_cons pp_str (ppa_cons (pp_v 6) ppa_nil)))))
    ppb_nil)))
  (ppb_cons (pps_set 1 sc_signal_error.nd (pp_call f_order_error bd_order_error hr (by decide) hg pass0 (ppa_cons (pp_v 3) (ppa_cons (pp_v 4) ppa_nil))))
  (ppb_cons (pps_if (ppt_cmp cmpP_notN (pp_v 1) pp_non)
   (ppb_one (pps_ret (pp_v 1)))
   ppb_nil)
  (ppb_cons (pps_set 2 sc_signal_error.nd (pp_call f_ends_of bd_ends_of hr (by decide) hg pass0 (ppa_cons (pp_v 0) ppa_nil)))
  (ppb_cons (pps_if (PPW.t (ppw_and (ppt_cmp cmpP_notN (pp_v 5) pp_non) (ppw_and (ppt_cmp cmpP_notN (pp_v 2) pp_non) (ppw_and (ppt_cmp cmpP_le (pp_v 5) (pp_v 2)) (ppw_and1 (ppt_cmp (cmpP_ne (hu64 hr)) (pp_v 0) (k_ALWAYS_ON T)))))))
   (ppb_one (pps_ret (pp_tup (ppa_cons pp_str ppa_nil))))
   ppb_nil)
  (ppb_cons (pps_for PassesOwn.never rfl (ppi_enum T.b_enumerate (pp_sl (pp_v 4) (ppo_some pp_int) ppo_none)) (ppg_tup (n := 2) rfl (ppgs_cons (ppg_n 6 sc_signal_error.nd) (ppgs_cons (ppg_n 8 sc_signal_error.nd) ppgs_nil)))
   (ppb_one (pps_if (PP.t (pp_call f_takes_on bd_takes_on hr (by decide) hg pass0 (ppa_cons (pp_ix (pp_v 4) (pp_v 6)) (ppa_cons (pp_v 8) ppa_nil))))
    (ppb_one (pps_ret (pp_tup (ppa_cons pp_str (ppa_cons (pp_v 6) ppa_nil)))))
    ppb_nil)))
  (ppb_one (pps_ret pp_non))))))))))))
theorem ok__law_deck {f : Addr} {fd : FuncData} {ql : Str} (T : Top mg K)  (Fu : L2.Fun K "_law_deck" ql s__law_deck f fd) (hm : mg "_law_deck" = some (.ref f)) :
    FnM P w K mg base CX0 1 "_law_deck" s__law_deck ["script"] m__law_deck :=
  fn_pure Fu hm sc__law_deck rfl fun cdv A outer s H E hr hg =>
  (ppb_cons (pps_set 1 sc__law_deck.nd (pp_disp (ppp_cons pp_str (pp_lst ppa_nil) (ppp_cons pp_str (pp_op opP_add (pp_op opP_add pp_int pp_int) (pp_callB crP_len T.b_len boot_len (ppa_cons (pp_sl (pp_v 0) ppo_none (ppo_some pp_int)) ppa_nil))) ppp_nil))))
  (ppb_cons (pps_for PassesOwn.never rfl (ppi_val (pp_sl (pp_v 0) ppo_none (ppo_some pp_int))) (ppg_n 2 sc__law_deck.nd)
   (ppb_cons (pps_if (ppt_cmp cmpP_ge (pp_callB crP_abs T.b_abs boot_abs (ppa_cons (pp_v 2) ppa_nil)) (pp_op opP_pow pp_int pp_int))
    (ppb_one (pps_dput (hu1 (hu64 hr)) (pp_v 1) pp_str (pp_op opP_add (pp_lst (ppa_cons (pp_callB crP_abs T.b_abs boot_abs (ppa_cons (pp_v 2) ppa_nil)) ppa_nil)) (pp_dget (hu1 (hu64 hr)) (pp_v 1) pp_str))))
    ppb_nil)
   (ppb_cons (pps_set 3 sc__law_deck.nd (pp_op opP_add (pp_op opP_mul pp_int (pp_callB crP_abs T.b_abs boot_abs (ppa_cons (pp_v 2) ppa_nil))) (pp_callTy crP_int T.b_int boot_int (ppa_cons (pp_cmp cmpP_lt (pp_v 2) pp_int) ppa_nil))))
   (ppb_one (pps_dput (hu1 (hu64 hr)) (pp_v 1) pp_str (pp_op opP_mod (pp_callTy crP_int T.b_int boot_int (ppa_cons (pp_op opP_add (pp_op opP_mul (pp_op opP_add (pp_op opP_add (pp_dget (hu1 (hu64 hr)) (pp_v 1) pp_str) (pp_v 3)) pp_int) pp_int) pp_int) ppa_nil)) pp_int))))))
  (ppb_one (pps_ret (pp_v 1)))))
theorem ok__law_draw {f : Addr} {fd : FuncData} {ql : Str} (T : Top mg K)  (Fu : L2.Fun K "_law_draw" ql s__law_draw f fd) (hm : mg "_law_draw" = some (.ref f)) :
    FnM P w K mg base CX0 1 "_law_draw" s__law_draw ["deck", "many"] m__law_draw :=
  fn_pure Fu hm sc__law_draw rfl fun cdv A outer s H E hr hg =>
  (ppb_cons (pps_if (ppt_cmp cmpP_lt (pp_v 1) pp_int)
   (ppb_one (pps_ret pp_int))
   ppb_nil)
  (ppb_cons (pps_if (ppt_cmp (cmpP_ne (hu64 hr)) (pp_dget (hu1 (hu64 hr)) (pp_v 0) pp_str) (pp_lst ppa_nil))
   (ppb_cons (pps_set 4 sc__law_draw.nd (pp_pop (pp_dget (hu1 (hu64 hr)) (pp_v 0) pp_str)))
   (ppb_cons (pps_if (ppt_cmp cmpP_ge (pp_v 4) (pp_v 1))
    (ppb_one (pps_exp (pp_append (pp_dget (hu1 (hu64 hr)) (pp_v 0) pp_str) (ppa_cons (pp_op opP_div (pp_v 4) (pp_v 1)) ppa_nil))))
    ppb_nil)
   (ppb_one (pps_ret (pp_op opP_mod (pp_callTy crP_int T.b_int boot_int (ppa_cons (pp_v 4) ppa_nil)) (pp_v 1))))))
   ppb_nil)
  (ppb_cons (pps_set 2 sc__law_draw.nd (pp_op opP_mod (pp_callTy crP_int T.b_int boot_int (ppa_cons (pp_op opP_add (pp_op opP_mul (pp_dget (hu1 (hu64 hr)) (pp_v 0) pp_str) pp_int) pp_int) ppa_nil)) pp_int))
  (ppb_cons (pps_dput (hu1 (hu64 hr)) (pp_v 0) pp_str (pp_v 2))
  (ppb_cons (pps_set 3 sc__law_draw.nd (pp_op opP_mod (pp_callTy crP_int T.b_int boot_int (ppa_cons (pp_op opP_add (pp_op opP_add (pp_op opP_mul (pp_v 2) (pp_v 2)) (pp_op opP_mul pp_int (pp_v 2))) pp_int) ppa_nil)) pp_int))
  (ppb_one (pps_ret (pp_op opP_mod (pp_callTy crP_int T.b_int boot_int (ppa_cons (pp_op opP_div (pp_v 3) pp_int) ppa_nil)) (pp_v 1)))))))))
theorem ok__law_pick {f : Addr} {fd : FuncData} {ql : Str} (T : Top mg K) (f__law_draw : FnM P w K mg base CX0 1 "_law_draw" s__law_draw ["deck", "many"] m__law_draw) (Fu : L2.Fun K "_law_pick" ql s__law_pick f fd) (hm : mg "_law_pick" = some (.ref f)) :
    FnM P w K mg base CX0 2 "_law_pick" s__law_pick ["deck", "some"] m__law_pick :=
  fn_pure Fu hm sc__law_pick rfl fun cdv A outer s H E hr hg =>
  (ppb_one (pps_ret (pp_ix (pp_v 1) (pp_call f__law_draw bd__law_draw hr (by decide) hg pass0 (ppa_cons (pp_v 0) (ppa_cons (pp_callB crP_len T.b_len boot_len (ppa_cons (pp_v 1) ppa_nil)) ppa_nil))))))
theorem ok__law_grouped {f : Addr} {fd : FuncData} {ql : Str} (T : Top mg K)  (Fu : L2.Fun K "_law_grouped" ql s__law_grouped f fd) (hm : mg "_law_grouped" = some (.ref f)) :
    FnM P w K mg base CX0 1 "_law_grouped" s__law_grouped ["until", "runs", "since"] m__law_grouped :=
  fn_pure Fu hm sc__law_grouped rfl fun cdv A outer s H E hr hg =>
  (ppb_cons (pps_par 3 4 rfl sc__law_grouped.nd (by decide) (pp_lst ppa_nil) pp_int)
  (ppb_cons (pps_while PassesOwn.never (ppt_cmp cmpP_lt (pp_v 4) (pp_callB crP_len T.b_len boot_len (ppa_cons (pp_v 1) ppa_nil)))
   (ppb_cons (pps_asg (pp_tup (ppa_cons (pp_ix (pp_v 1) (pp_v 4)) (ppa_cons (pp_op opP_sub (pp_ix (pp_ix (pp_v 1) (pp_v 4)) pp_int) (pp_ix (pp_ix (pp_v 1) (pp_v 4)) pp_int)) (ppa_cons pp_int (ppa_cons pp_int ppa_nil))))) (ppg_tup (n := 4) rfl (ppgs_cons (ppg_n 5 sc__law_grouped.nd) (ppgs_cons (ppg_n 6 sc__law_grouped.nd) (ppgs_cons (ppg_n 7 sc__law_grouped.nd) (ppgs_cons (ppg_n 8 sc__law_grouped.nd) ppgs_nil))))))
   (ppb_cons (pps_while PassesOwn.never (ppt_cmp cmpP_lt (pp_op opP_add (pp_v 4) (pp_v 7)) (pp_callB crP_len T.b_len boot_len (ppa_cons (pp_v 1) ppa_nil)))
    (ppb_cons (pps_par 9 10 rfl sc__law_grouped.nd (by decide) (pp_ix (pp_v 1) (pp_op opP_sub (pp_op opP_add (pp_v 4) (pp_v 7)) pp_int)) (pp_ix (pp_v 1) (pp_op opP_add (pp_v 4) (pp_v 7))))
    (ppb_cons (pps_if (PPW.t (ppw_or (ppt_cmp (cmpP_ne (hu64 hr)) (pp_op opP_sub (pp_ix (pp_v 10) pp_int) (pp_ix (pp_v 10) pp_int)) (pp_v 6)) (ppw_or1 (PPW.t (ppw_and (ppt_cmp cmpP_gt (pp_v 7) pp_int) (ppw_and1 (ppt_cmp (cmpP_ne (hu64 hr)) (pp_op opP_sub (pp_ix (pp_v 10) pp_int) (pp_ix (pp_v 9) pp_int)) (pp_v 8))))))))
     (ppb_one pps_brk)
     ppb_nil)
    (ppb_one (pps_par 8 7 rfl sc__law_grouped.nd (by decide) (pp_op opP_sub (pp_ix (pp_v 10) pp_int) (pp_ix (pp_v 9) pp_int)) (pp_op opP_add (pp_v 7) pp_int))))))
   (ppb_cons (pps_exp (pp_append (pp_v 3) (ppa_cons (pp_tup (ppa_cons (pp_ix (pp_v 5) pp_int) (ppa_cons (pp_v 6) (ppa_cons (pp_v 8) (ppa_cons (pp_v 7) ppa_nil))))) ppa_nil)))
   (ppb_one (pps_set 4 sc__law_grouped.nd (pp_op opP_add (pp_v 4) (pp_v 7))))))))
  (ppb_one (pps_ret (pp_tup (ppa_cons (pp_v 0) (ppa_cons (pp_callTy crP_tuple T.b_tuple boot_tuple (ppa_cons (pp_v 3) ppa_nil)) (ppa_cons (pp_v 2) ppa_nil))))))))
theorem ok__law_row_of_runs {f : Addr} {fd : FuncData} {ql : Str} (T : Top mg K) (f__law_draw : FnM P w K mg base CX0 1 "_law_draw" s__law_draw ["deck", "many"] m__law_draw) (Fu : L2.Fun K "_law_row_of_runs" ql s__law_row_of_runs f fd) (hm : mg "_law_row_of_runs" = some (.ref f)) :
    FnM P w K mg base CX0 2 "_law_row_of_runs" s__law_row_of_runs ["deck", "begin", "many", "most"] m__law_row_of_runs :=
  fn_pure Fu hm sc__law_row_of_runs rfl fun cdv A outer s H E hr hg =>
  (ppb_cons (pps_par3 5 6 7 rfl sc__law_row_of_runs.nd (by decide) (by decide) (by decide) (pp_lst ppa_nil) (pp_op opP_add pp_int (pp_call f__law_draw bd__law_draw hr (by decide) hg pass0 (ppa_cons (pp_v 0) (ppa_cons (pp_v 3) ppa_nil)))) (pp_op opP_add pp_int (pp_call f__law_draw bd__law_draw hr (by decide) hg pass0 (ppa_cons (pp_v 0) (ppa_cons (pp_v 3) ppa_nil)))))
  (ppb_cons (pps_for PassesOwn.never rfl (ppi_rng1 T.b_range (pp_v 2)) (ppg_n 4 sc__law_row_of_runs.nd)
   (ppb_cons (pps_if (ppt_cmp (cmpP_eq (hu64 hr)) (pp_call f__law_draw bd__law_draw hr (by decide) hg pass0 (ppa_cons (pp_v 0) (ppa_cons pp_int ppa_nil))) pp_int)
    (ppb_one (pps_set 6 sc__law_row_of_runs.nd (pp_op opP_add pp_int (pp_call f__law_draw bd__law_draw hr (by decide) hg pass0 (ppa_cons (pp_v 0) (ppa_cons (pp_v 3) ppa_nil))))))
    ppb_nil)
   (ppb_cons (pps_if (ppt_cmp (cmpP_eq (hu64 hr)) (pp_call f__law_draw bd__law_draw hr (by decide) hg pass0 (ppa_cons (pp_v 0) (ppa_cons pp_int ppa_nil))) pp_int)
    (ppb_one (pps_set 7 sc__law_row_of_runs.nd (pp_op opP_add pp_int (pp_call f__law_draw bd__law_draw hr (by decide) hg pass0 (ppa_cons (pp_v 0) (ppa_cons (pp_v 3) ppa_nil))))))
    ppb_nil)
   (ppb_cons (pps_exp (pp_append (pp_v 5) (ppa_cons (pp_tup (ppa_cons (pp_v 1) (ppa_cons (pp_op opP_add (pp_v 1) (pp_v 6)) ppa_nil))) ppa_nil)))
   (ppb_one (pps_set 1 sc__law_row_of_runs.nd (pp_op opP_add (pp_op opP_add (pp_v 1) (pp_v 6)) (pp_v 7))))))))
  (ppb_one (pps_ret (pp_v 5)))))
theorem ok__law_signal {f : Addr} {fd : FuncData} {ql : Str} (T : Top mg K) (f__law_draw : FnM P w K mg base CX0 1 "_law_draw" s__law_draw ["deck", "many"] m__law_draw) (f__law_pick : FnM P w K mg base CX0 2 "_law_pick" s__law_pick ["deck", "some"] m__law_pick) (f__law_row_of_runs : FnM P w K mg base CX0 2 "_law_row_of_runs" s__law_row_of_runs ["deck", "begin", "many", "most"] m__law_row_of_runs) (f__law_grouped : FnM P w K mg base CX0 1 "_law_grouped" s__law_grouped ["until", "runs", "since"] m__law_grouped) (Fu : L2.Fun K "_law_signal" ql s__law_signal f fd) (hm : mg "_law_signal" = some (.ref f)) :
    FnM P w K mg base CX0 3 "_law_signal" s__law_signal ["deck", "many", "most"] m__law_signal :=
  fn_pure Fu hm sc__law_signal rfl fun cdv A outer s H E hr hg =>
  (ppb_cons (pps_par 7 8 rfl sc__law_signal.nd (by decide) (pp_call f__law_draw bd__law_draw hr (by decide) hg pass0 (ppa_cons (pp_v 0) (ppa_cons pp_int ppa_nil))) (pp_op opP_sub (pp_call f__law_draw bd__law_draw hr (by decide) hg pass0 (ppa_cons (pp_v 0) (ppa_cons pp_int ppa_nil))) pp_int))
  (ppb_cons (pps_if (ppt_cmp (cmpP_eq (hu64 hr)) (pp_v 7) pp_int)
   (ppb_one (pps_ret (pp_call f__law_pick bd__law_pick hr (by decide) hg pass0 (ppa_cons (pp_v 0) (ppa_cons (pp_lst (ppa_cons (pp_tup (ppa_cons pp_non (ppa_cons (pp_tup ppa_nil) (ppa_cons pp_non ppa_nil)))) (ppa_cons (pp_tup (ppa_cons pp_int (ppa_cons (pp_tup ppa_nil) (ppa_cons pp_int ppa_nil)))) (ppa_cons (pp_tup (ppa_cons (pp_v 8) (ppa_cons (pp_tup ppa_nil) (ppa_cons pp_non ppa_nil)))) (ppa_cons (pp_tup (ppa_cons pp_non (ppa_cons (pp_tup ppa_nil) (ppa_cons (pp_v 8) ppa_nil)))) ppa_nil))))) ppa_nil)))))
   ppb_nil)
  (ppb_cons (pps_set 3 sc__law_signal.nd (pp_ite (ppt_cmp cmpP_lt (pp_v 7) pp_int) (pp_op opP_sub (pp_op opP_sub (pp_v 8) pp_int) (pp_call f__law_draw bd__law_draw hr (by decide) hg pass0 (ppa_cons (pp_v 0) (ppa_cons (pp_v 2) ppa_nil)))) pp_non))
  (ppb_cons (pps_set 4 sc__law_signal.nd (pp_call f__law_row_of_runs bd__law_row_of_runs hr (by decide) hg pass0 (ppa_cons (pp_v 0) (ppa_cons (pp_v 8) (ppa_cons (pp_call f__law_draw bd__law_draw hr (by decide) hg pass0 (ppa_cons (pp_v 0) (ppa_cons (pp_op opP_add (pp_v 1) pp_int) ppa_nil))) (ppa_cons (pp_v 2) ppa_nil))))))
  (ppb_cons (pps_set 5 sc__law_signal.nd (pp_ite (ppt_cmp (cmpP_ne (hu64 hr)) (pp_v 4) (pp_lst ppa_nil)) (pp_ix (pp_ix (pp_v 4) (pp_un unP_neg pp_int)) pp_int) (pp_v 8)))
  (ppb_cons (pps_set 6 sc__law_signal.nd (pp_ite (ppt_cmp (cmpP_eq (hu64 hr)) (pp_call f__law_draw bd__law_draw hr (by decide) hg pass0 (ppa_cons (pp_v 0) (ppa_cons pp_int ppa_nil))) pp_int) (pp_op opP_add (pp_op opP_add (pp_v 5) pp_int) (pp_call f__law_draw bd__law_draw hr (by decide) hg pass0 (ppa_cons (pp_v 0) (ppa_cons (pp_v 2) ppa_nil)))) pp_non))
  (ppb_one (pps_ret (pp_call f__law_grouped bd__law_grouped hr (by decide) hg pass0 (ppa_cons (pp_v 3) (ppa_cons (pp_v 4) (ppa_cons (pp_v 6) ppa_nil))))))))))))
theorem ok__law_great {f : Addr} {fd : FuncData} {ql : Str} (T : Top mg K)  (Fu : L2.Fun K "_law_great" ql s__law_great f fd) (hm : mg "_law_great" = some (.ref f)) :
    FnM P w K mg base CX0 1 "_law_great" s__law_great ["deck", "signal", "by", "far"] m__law_great :=
  fn_pure Fu hm sc__law_great rfl fun cdv A outer s H E hr hg =>
  (ppb_cons (pps_asg (pp_v 1) (ppg_tup (n := 3) rfl (ppgs_cons (ppg_n 5 sc__law_great.nd) (ppgs_cons (ppg_n 6 sc__law_great.nd) (ppgs_cons (ppg_n 7 sc__law_great.nd) ppgs_nil)))))
  (ppb_cons (pps_if (ppt_cmp (cmpP_eq (hu64 hr)) (pp_v 1) (pp_tup (ppa_cons pp_int (ppa_cons (pp_tup ppa_nil) (ppa_cons pp_int ppa_nil)))))
   (ppb_one (pps_ret (pp_v 1)))
   ppb_nil)
  (ppb_cons (pps_setLc 4 (own := [("first", 8), ("ticks", 9), ("off", 10), ("times", 11)]) rfl sc__law_great.nd (ppi_val (pp_v 6)) (blkOk_by (N := N__law_great) (sc := defScope s__law_great) (by decide +kernel)) (fun _ _ _ _ _ => (ppg_tup (n := 4) rfl (ppgs_cons (ppg_n 8 sc__law_great.nd) (ppgs_cons (ppg_n 9 sc__law_great.nd) (ppgs_cons (ppg_n 10 sc__law_great.nd) (ppgs_cons (ppg_n 11 sc__law_great.nd) ppgs_nil)))))) (fun _ _ _ _ _ => ppts_nil) (fun _ _ _ _ _ => (pp_tup (ppa_cons (pp_op opP_add (pp_op opP_mul (pp_v 8) (pp_v 2)) (pp_v 3)) (ppa_cons (pp_op opP_mul (pp_v 9) (pp_v 2)) (ppa_cons (pp_op opP_mul (pp_v 10) (pp_v 2)) (ppa_cons (pp_v 11) ppa_nil)))))) (sw_true rfl rfl rfl (by decide +kernel)))
  (ppb_cons (pps_set 5 sc__law_great.nd (pp_ite (ppt_cmp cmpP_notN (pp_v 5) pp_non) (pp_op opP_add (pp_op opP_mul (pp_v 5) (pp_v 2)) (pp_v 3)) pp_non))
  (ppb_one (pps_ret (pp_tup (ppa_cons (pp_v 5) (ppa_cons (pp_callTy crP_tuple T.b_tuple boot_tuple (ppa_cons (pp_v 4) ppa_nil)) (ppa_cons (pp_ite (ppt_cmp cmpP_notN (pp_v 7) pp_non) (pp_op opP_add (pp_op opP_mul (pp_v 7) (pp_v 2)) (pp_v 3)) pp_non) ppa_nil))))))))))
theorem ok__law_is_number {f : Addr} {fd : FuncData} {ql : Str} (T : Top mg K)  (Fu : L2.Fun K "_law_is_number" ql s__law_is_number f fd) (hm : mg "_law_is_number" = some (.ref f)) :
    FnM P w K mg base CX0 1 "_law_is_number" s__law_is_number ["thing"] m__law_is_number :=
  fn_pure Fu hm sc__law_is_number rfl fun cdv A outer s H E hr hg =>
  (ppb_one (pps_ret (pp_and (pp_isi (t := .int) (pp_v 0) T.b_isinstance T.b_int boot_isinstance boot_int) (pp_and (pp_not (pp_isi (t := .bool) (pp_v 0) T.b_isinstance T.b_bool boot_isinstance boot_bool)) (pp_one (pp_cmp cmpP_le (pp_callB crP_abs T.b_abs boot_abs (ppa_cons (pp_v 0) ppa_nil)) (pp_op opP_pow pp_int pp_int)))))))
theorem ok__law_is_burst {f : Addr} {fd : FuncData} {ql : Str} (T : Top mg K) (f__law_is_number : FnM P w K mg base CX0 1 "_law_is_number" s__law_is_number ["thing"] m__law_is_number) (Fu : L2.Fun K "_law_is_burst" ql s__law_is_burst f fd) (hm : mg "_law_is_burst" = some (.ref f)) :
    FnM P w K mg base CX0 2 "_law_is_burst" s__law_is_burst ["thing"] m__law_is_burst :=
  fn_pure Fu hm sc__law_is_burst rfl fun cdv A outer s H E hr hg =>
  (ppb_cons (pps_if (PPW.t (ppw_or (ppt_not (PP.t (pp_isi (t := .tuple) (pp_v 0) T.b_isinstance T.b_tuple boot_isinstance boot_tuple))) (ppw_or (ppt_cmp (cmpP_ne (hu64 hr)) (pp_callB crP_len T.b_len boot_len (ppa_cons (pp_v 0) ppa_nil)) pp_int) (ppw_or1 (ppt_cmp (cmpP_ne (hu64 hr)) (pp_lc (own := [("item", 5)]) rfl sc__law_is_burst.nd (ppi_val (pp_v 0)) (blkOk_by (N := N__law_is_burst) (sc := defScope s__law_is_burst) (by decide +kernel)) (fun _ _ _ _ _ => (ppg_n 5 sc__law_is_burst.nd)) (fun _ _ _ _ _ => (ppts_one (ppt_not (PP.t (pp_call f__law_is_number bd__law_is_number hr (by decide) hg pass0 (ppa_cons (pp_v 5) ppa_nil)))))) (fun _ _ _ _ _ => pp_int)) (pp_lst ppa_nil))))))
   (ppb_one (pps_ret pp_bl))
   ppb_nil)
  (ppb_cons (pps_asg (pp_v 0) (ppg_tup (n := 4) rfl (ppgs_cons (ppg_n 1 sc__law_is_burst.nd) (ppgs_cons (ppg_n 2 sc__law_is_burst.nd) (ppgs_cons (ppg_n 3 sc__law_is_burst.nd) (ppgs_cons (ppg_n 4 sc__law_is_burst.nd) ppgs_nil))))))
  (ppb_one (pps_ret (pp_and (pp_cmp cmpP_gt (pp_v 2) pp_int) (pp_and (pp_cmp cmpP_gt (pp_v 4) pp_int) (pp_one (pp_ite (ppt_cmp cmpP_gt (pp_v 4) pp_int) (pp_cmp cmpP_gt (pp_v 3) pp_int) (pp_cmp (cmpP_eq (hu64 hr)) (pp_v 3) pp_int)))))))))
theorem ok__law_is_formed {f : Addr} {fd : FuncData} {ql : Str} (T : Top mg K) (f__law_is_number : FnM P w K mg base CX0 1 "_law_is_number" s__law_is_number ["thing"] m__law_is_number) (Fu : L2.Fun K "_law_is_formed" ql s__law_is_formed f fd) (hm : mg "_law_is_formed" = some (.ref f)) :
    FnM P w K mg base CX0 2 "_law_is_formed" s__law_is_formed ["thing"] m__law_is_formed :=
  fn_pure Fu hm sc__law_is_formed rfl fun cdv A outer s H E hr hg =>
  (ppb_cons (pps_if (PPW.t (ppw_or (ppt_not (PP.t (pp_isi (t := .tuple) (pp_v 0) T.b_isinstance T.b_tuple boot_isinstance boot_tuple))) (ppw_or (ppt_cmp (cmpP_ne (hu64 hr)) (pp_callB crP_len T.b_len boot_len (ppa_cons (pp_v 0) ppa_nil)) pp_int) (ppw_or (ppt_not (PP.t (pp_isi (t := .tuple) (pp_ix (pp_v 0) pp_int) T.b_isinstance T.b_tuple boot_isinstance boot_tuple))) (ppw_or1 (ppt_cmp cmpP_gt (pp_callB crP_len T.b_len boot_len (ppa_cons (pp_ix (pp_v 0) pp_int) ppa_nil)) pp_int))))))
   (ppb_one (pps_ret pp_bl))
   ppb_nil)
  (ppb_one (pps_ret (pp_cmp (cmpP_eq (hu64 hr)) (pp_lc (own := [("end", 1)]) rfl sc__law_is_formed.nd (ppi_val (pp_tup (ppa_cons (pp_ix (pp_v 0) pp_int) (ppa_cons (pp_ix (pp_v 0) pp_int) ppa_nil)))) (blkOk_by (N := N__law_is_formed) (sc := defScope s__law_is_formed) (by decide +kernel)) (fun _ _ _ _ _ => (ppg_n 1 sc__law_is_formed.nd)) (fun _ _ _ _ _ => (ppts_one (PPW.t (ppw_and (ppt_cmp cmpP_notN (pp_v 1) pp_non) (ppw_and1 (ppt_not (PP.t (pp_call f__law_is_number bd__law_is_number hr (by decide) hg pass0 (ppa_cons (pp_v 1) ppa_nil))))))))) (fun _ _ _ _ _ => pp_int)) (pp_lst ppa_nil)))))
theorem ok__law_due {f : Addr} {fd : FuncData} {ql : Str} (T : Top mg K) (f__law_is_formed : FnM P w K mg base CX0 2 "_law_is_formed" s__law_is_formed ["thing"] m__law_is_formed) (f__law_is_burst : FnM P w K mg base CX0 2 "_law_is_burst" s__law_is_burst ["thing"] m__law_is_burst) (Fu : L2.Fun K "_law_due" ql s__law_due f fd) (hm : mg "_law_due" = some (.ref f)) :
    FnM P w K mg base CX0 3 "_law_due" s__law_due ["thing"] m__law_due :=
  fn_pure Fu hm sc__law_due rfl fun cdv A outer s H E hr hg =>
  (ppb_cons (pps_if (ppt_not (PP.t (pp_call f__law_is_formed bd__law_is_formed hr (by decide) hg pass0 (ppa_cons (pp_v 0) ppa_nil))))
   (ppb_one (pps_ret pp_str))
   ppb_nil)
  (ppb_cons (pps_asg (pp_v 0) (ppg_tup (n := 3) rfl (ppgs_cons (ppg_n 3 sc__law_due.nd) (ppgs_cons (ppg_n 4 sc__law_due.nd) (ppgs_cons (ppg_n 5 sc__law_due.nd) ppgs_nil)))))
  (ppb_cons (pps_for PassesOwn.never rfl (ppi_enum T.b_enumerate (pp_v 4)) (ppg_tup (n := 2) rfl (ppgs_cons (ppg_n 2 sc__law_due.nd) (ppgs_cons (ppg_n 6 sc__law_due.nd) ppgs_nil)))
   (ppb_one (pps_if (ppt_not (PP.t (pp_call f__law_is_burst bd__law_is_burst hr (by decide) hg pass0 (ppa_cons (pp_v 6) ppa_nil))))
    (ppb_one (pps_ret (pp_tup (ppa_cons pp_str (ppa_cons (pp_v 2) ppa_nil)))))
    ppb_nil)))
  (ppb_cons (pps_set 1 sc__law_due.nd (pp_v 3))
  (ppb_cons (pps_for PassesOwn.never rfl (ppi_enum T.b_enumerate (pp_v 4)) (ppg_tup (n := 2) rfl (ppgs_cons (ppg_n 2 sc__law_due.nd) (ppgs_cons (ppg_tup (n := 4) rfl (ppgs_cons (ppg_n 8 sc__law_due.nd) (ppgs_cons (ppg_n 9 sc__law_due.nd) (ppgs_cons (ppg_n 10 sc__law_due.nd) (ppgs_cons (ppg_n 11 sc__law_due.nd) ppgs_nil))))) ppgs_nil)))
   (ppb_cons (pps_if (PPW.t (ppw_and (ppt_cmp cmpP_notN (pp_v 1) pp_non) (ppw_and1 (ppt_cmp cmpP_le (pp_v 8) (pp_v 1)))))
    (ppb_one (pps_ret (pp_tup (ppa_cons pp_str (ppa_cons (pp_v 2) ppa_nil)))))
    ppb_nil)
   (ppb_one (pps_set 1 sc__law_due.nd (pp_op opP_add (pp_op opP_add (pp_v 8) (pp_op opP_mul (pp_v 11) (pp_v 9))) (pp_op opP_mul (pp_op opP_sub (pp_v 11) pp_int) (pp_v 10)))))))
  (ppb_cons (pps_if (PPW.t (ppw_and (ppt_cmp cmpP_notN (pp_v 5) pp_non) (ppw_and (ppt_cmp cmpP_notN (pp_v 1) pp_non) (ppw_and (ppt_cmp cmpP_le (pp_v 5) (pp_v 1)) (ppw_and1 (ppt_cmp (cmpP_ne (hu64 hr)) (pp_v 0) (pp_tup (ppa_cons pp_int (ppa_cons (pp_tup ppa_nil) (ppa_cons pp_int ppa_nil))))))))))
   (ppb_one (pps_ret (pp_tup (ppa_cons pp_str ppa_nil))))
   ppb_nil)
  (ppb_cons (pps_for PassesOwn.never rfl (ppi_rng1 T.b_range (pp_op opP_sub (pp_callB crP_len T.b_len boot_len (ppa_cons (pp_v 4) ppa_nil)) pp_int)) (ppg_n 2 sc__law_due.nd)
   (ppb_cons (pps_asg (pp_ix (pp_v 4) (pp_v 2)) (ppg_tup (n := 4) rfl (ppgs_cons (ppg_n 8 sc__law_due.nd) (ppgs_cons (ppg_n 9 sc__law_due.nd) (ppgs_cons (ppg_n 10 sc__law_due.nd) (ppgs_cons (ppg_n 11 sc__law_due.nd) ppgs_nil))))))
   (ppb_cons (pps_set 7 sc__law_due.nd (pp_op opP_sub (pp_op opP_sub (pp_op opP_sub (pp_ix (pp_ix (pp_v 4) (pp_op opP_add (pp_v 2) pp_int)) pp_int) (pp_v 8)) (pp_op opP_mul (pp_v 11) (pp_v 9))) (pp_op opP_mul (pp_op opP_sub (pp_v 11) pp_int) (pp_v 10))))
   (ppb_one (pps_if (PPW.t (ppw_and (ppt_cmp (cmpP_eq (hu64 hr)) (pp_v 9) (pp_ix (pp_ix (pp_v 4) (pp_op opP_add (pp_v 2) pp_int)) pp_int)) (ppw_and1 (PPW.t (ppw_or (ppt_cmp (cmpP_eq (hu64 hr)) (pp_v 11) pp_int) (ppw_or1 (ppt_cmp (cmpP_eq (hu64 hr)) (pp_v 10) (pp_v 7))))))))
    (ppb_one (pps_ret (pp_tup (ppa_cons pp_str (ppa_cons (pp_v 2) ppa_nil)))))
    ppb_nil)))))
  (ppb_one (pps_ret pp_non)))))))))
theorem ok__law_odd_item {f : Addr} {fd : FuncData} {ql : Str} (T : Top mg K) (f__law_pick : FnM P w K mg base CX0 2 "_law_pick" s__law_pick ["deck", "some"] m__law_pick) (Fu : L2.Fun K "_law_odd_item" ql s__law_odd_item f fd) (hm : mg "_law_odd_item" = some (.ref f)) :
    FnM P w K mg base CX0 3 "_law_odd_item" s__law_odd_item ["deck", "item"] m__law_odd_item :=
  fn_pure Fu hm sc__law_odd_item rfl fun cdv A outer s H E hr hg =>
  (ppb_cons (pps_set 2 sc__law_odd_item.nd (pp_lst (ppa_cons pp_non (ppa_cons pp_bl (ppa_cons pp_bl (ppa_cons (pp_callTy crP_str T.b_str boot_str (ppa_cons (pp_v 1) ppa_nil)) (ppa_cons (pp_tup (ppa_cons (pp_v 1) ppa_nil)) (ppa_cons (pp_lst (ppa_cons (pp_v 1) ppa_nil)) (ppa_cons (pp_un unP_neg pp_int) (ppa_cons pp_int (ppa_cons pp_int (ppa_cons (pp_op opP_pow pp_int pp_int) (ppa_cons (pp_op opP_add (pp_op opP_pow pp_int pp_int) pp_int) (ppa_cons (pp_op opP_sub (pp_un unP_neg (pp_op opP_pow pp_int pp_int)) pp_int) (ppa_cons (pp_un unP_neg (pp_op opP_pow pp_int pp_int)) ppa_nil)))))))))))))))
  (ppb_cons (pps_if (PP.t (pp_isi (t := .int) (pp_v 1) T.b_isinstance T.b_int boot_isinstance boot_int))
   (ppb_one (pps_set 2 sc__law_odd_item.nd (pp_op opP_add (pp_v 2) (pp_lst (ppa_cons (pp_op opP_add (pp_v 1) pp_int) (ppa_cons (pp_op opP_sub (pp_v 1) pp_int) (ppa_cons (pp_op opP_sub pp_int (pp_v 1)) (ppa_cons (pp_op opP_add (pp_v 1) pp_int) (ppa_cons (pp_op opP_sub (pp_v 1) pp_int) (ppa_cons (pp_v 1) ppa_nil))))))))))
   ppb_nil)
  (ppb_one (pps_ret (pp_call f__law_pick bd__law_pick hr (by decide) hg pass0 (ppa_cons (pp_v 0) (ppa_cons (pp_v 2) ppa_nil)))))))
theorem ok__law_bent {f : Addr} {fd : FuncData} {ql : Str} (T : Top mg K) (f__law_draw : FnM P w K mg base CX0 1 "_law_draw" s__law_draw ["deck", "many"] m__law_draw) (f__law_pick : FnM P w K mg base CX0 2 "_law_pick" s__law_pick ["deck", "some"] m__law_pick) (f__law_odd_item : FnM P w K mg base CX0 3 "_law_odd_item" s__law_odd_item ["deck", "item"] m__law_odd_item) (Fu : L2.Fun K "_law_bent" ql s__law_bent f fd) (hm : mg "_law_bent" = some (.ref f)) :
    FnM P w K mg base CX0 4 "_law_bent" s__law_bent ["deck", "signal"] m__law_bent :=
  fn_pure Fu hm sc__law_bent rfl fun cdv A outer s H E hr hg =>
  (ppb_cons (pps_asg (pp_v 1) (ppg_tup (n := 3) rfl (ppgs_cons (ppg_n 5 sc__law_bent.nd) (ppgs_cons (ppg_n 6 sc__law_bent.nd) (ppgs_cons (ppg_n 7 sc__law_bent.nd) ppgs_nil)))))
  (ppb_cons (pps_set 2 sc__law_bent.nd (pp_call f__law_draw bd__law_draw hr (by decide) hg pass0 (ppa_cons (pp_v 0) (ppa_cons pp_int ppa_nil))))
  (ppb_cons (pps_if (ppt_cmp (cmpP_eq (hu64 hr)) (pp_v 2) pp_int)
   (ppb_cons (pps_set 8 sc__law_bent.nd (pp_lst (ppa_cons (pp_callTy crP_list T.b_list boot_list (ppa_cons (pp_v 1) ppa_nil)) (ppa_cons (pp_sl (pp_v 1) ppo_none (ppo_some pp_int)) (ppa_cons (pp_op opP_add (pp_v 1) (pp_tup (ppa_cons pp_non ppa_nil))) (ppa_cons pp_non (ppa_cons pp_str (ppa_cons (pp_tup ppa_nil) (ppa_cons pp_dnew (ppa_cons (pp_tup (ppa_cons (pp_v 5) (ppa_cons (pp_callTy crP_list T.b_list boot_list (ppa_cons (pp_v 6) ppa_nil)) (ppa_cons (pp_v 7) ppa_nil)))) (ppa_cons (pp_v 6) ppa_nil)))))))))))
   (ppb_one (pps_ret (pp_call f__law_pick bd__law_pick hr (by decide) hg pass0 (ppa_cons (pp_v 0) (ppa_cons (pp_op opP_add (pp_v 8) (pp_lst (ppa_cons (pp_tup (ppa_cons (pp_v 5) (ppa_cons pp_non (ppa_cons (pp_v 7) ppa_nil)))) (ppa_cons (pp_tup (ppa_cons (pp_v 5) (ppa_cons (pp_op opP_mulT (pp_v 6) pp_int) (ppa_cons (pp_v 7) ppa_nil)))) (ppa_cons (pp_tup (ppa_cons (pp_v 5) (ppa_cons (pp_tup (ppa_cons (pp_v 6) ppa_nil)) (ppa_cons (pp_v 7) ppa_nil)))) ppa_nil))))) ppa_nil))))))
   ppb_nil)
  (ppb_cons (pps_if (PPW.t (ppw_or (ppt_cmp cmpP_lt (pp_v 2) pp_int) (ppw_or1 (ppt_cmp (cmpP_eq (hu64 hr)) (pp_v 6) (pp_tup ppa_nil)))))
   (ppb_cons (pps_if (ppt_cmp (cmpP_eq (hu64 hr)) (pp_call f__law_draw bd__law_draw hr (by decide) hg pass0 (ppa_cons (pp_v 0) (ppa_cons pp_int ppa_nil))) pp_int)
    (ppb_one (pps_ret (pp_tup (ppa_cons (pp_call f__law_odd_item bd__law_odd_item hr (by decide) hg pass0 (ppa_cons (pp_v 0) (ppa_cons (pp_v 5) ppa_nil))) (ppa_cons (pp_v 6) (ppa_cons (pp_v 7) ppa_nil))))))
    ppb_nil)
   (ppb_one (pps_ret (pp_tup (ppa_cons (pp_v 5) (ppa_cons (pp_v 6) (ppa_cons (pp_call f__law_odd_item bd__law_odd_item hr (by decide) hg pass0 (ppa_cons (pp_v 0) (ppa_cons (pp_v 7) ppa_nil))) ppa_nil)))))))
   ppb_nil)
  (ppb_cons (pps_set 3 sc__law_bent.nd (pp_call f__law_draw bd__law_draw hr (by decide) hg pass0 (ppa_cons (pp_v 0) (ppa_cons (pp_callB crP_len T.b_len boot_len (ppa_cons (pp_v 6) ppa_nil)) ppa_nil))))
  (ppb_cons (pps_if (ppt_cmp (cmpP_eq (hu64 hr)) (pp_v 2) pp_int)
   (ppb_cons (pps_set 8 sc__law_bent.nd (pp_lst (ppa_cons (pp_callTy crP_list T.b_list boot_list (ppa_cons (pp_ix (pp_v 6) (pp_v 3)) ppa_nil)) (ppa_cons (pp_sl (pp_ix (pp_v 6) (pp_v 3)) ppo_none (ppo_some pp_int)) (ppa_cons (pp_op opP_add (pp_ix (pp_v 6) (pp_v 3)) (pp_tup (ppa_cons pp_int ppa_nil))) (ppa_cons pp_non (ppa_cons pp_int (ppa_cons (pp_tup ppa_nil) (ppa_cons (pp_ix (pp_ix (pp_v 6) (pp_v 3)) pp_int) ppa_nil)))))))))
   (ppb_one (pps_ret (pp_tup (ppa_cons (pp_v 5) (ppa_cons (pp_op opP_add (pp_op opP_add (pp_sl (pp_v 6) ppo_none (ppo_some (pp_v 3))) (pp_tup (ppa_cons (pp_call f__law_pick bd__law_pick hr (by decide) hg pass0 (ppa_cons (pp_v 0) (ppa_cons (pp_v 8) ppa_nil))) ppa_nil))) (pp_sl (pp_v 6) (ppo_some (pp_op opP_add (pp_v 3) pp_int)) ppo_none)) (ppa_cons (pp_v 7) ppa_nil)))))))
   ppb_nil)
  (ppb_cons (pps_if (ppt_cmp (cmpP_eq (hu64 hr)) (pp_v 2) pp_int)
   (ppb_one (pps_ret (pp_tup (ppa_cons (pp_v 5) (ppa_cons (pp_op opP_add (pp_sl (pp_v 6) ppo_none (ppo_some (pp_v 3))) (pp_sl (pp_v 6) (ppo_some (pp_op opP_add (pp_v 3) pp_int)) ppo_none)) (ppa_cons (pp_v 7) ppa_nil))))))
   ppb_nil)
  (ppb_cons (pps_if (ppt_cmp (cmpP_eq (hu64 hr)) (pp_v 2) pp_int)
   (ppb_one (pps_ret (pp_tup (ppa_cons (pp_v 5) (ppa_cons (pp_op opP_add (pp_op opP_add (pp_sl (pp_v 6) ppo_none (ppo_some (pp_v 3))) (pp_op opP_mul (pp_sl (pp_v 6) (ppo_some (pp_v 3)) (ppo_some (pp_op opP_add (pp_v 3) pp_int))) pp_int)) (pp_sl (pp_v 6) (ppo_some (pp_op opP_add (pp_v 3) pp_int)) ppo_none)) (ppa_cons (pp_v 7) ppa_nil))))))
   ppb_nil)
  (ppb_cons (pps_if (ppt_cmp cmpP_gt (pp_v 2) pp_int)
   (ppb_cons (pps_asg (pp_ix (pp_v 6) (pp_v 3)) (ppg_tup (n := 4) rfl (ppgs_cons (ppg_n 12 sc__law_bent.nd) (ppgs_cons (ppg_n 13 sc__law_bent.nd) (ppgs_cons (ppg_n 14 sc__law_bent.nd) (ppgs_cons (ppg_n 15 sc__law_bent.nd) ppgs_nil))))))
   (ppb_cons (pps_set 9 sc__law_bent.nd (pp_op opP_add (pp_op opP_add (pp_v 12) (pp_op opP_mul (pp_v 15) (pp_v 13))) (pp_op opP_mul (pp_op opP_sub (pp_v 15) pp_int) (pp_v 14))))
   (ppb_cons (pps_set 10 sc__law_bent.nd (pp_tup (ppa_cons (pp_tup (ppa_cons (pp_v 12) (ppa_cons (pp_v 13) (ppa_cons pp_int (ppa_cons pp_int ppa_nil))))) (ppa_cons (pp_tup (ppa_cons (pp_op opP_add (pp_op opP_add (pp_v 12) (pp_v 13)) (pp_v 14)) (ppa_cons (pp_v 13) (ppa_cons (pp_ite (ppt_cmp cmpP_gt (pp_v 15) pp_int) (pp_v 14) pp_int) (ppa_cons (pp_op opP_sub (pp_v 15) pp_int) ppa_nil))))) ppa_nil))))
   (ppb_cons (pps_if (ppt_cmp (cmpP_eq (hu64 hr)) (pp_v 15) pp_int)
    (ppb_one (pps_set 10 sc__law_bent.nd (pp_tup (ppa_cons (pp_ix (pp_v 6) (pp_v 3)) (ppa_cons (pp_tup (ppa_cons (pp_op opP_add (pp_op opP_add (pp_v 9) pp_int) (pp_call f__law_draw bd__law_draw hr (by decide) hg pass0 (ppa_cons (pp_v 0) (ppa_cons pp_int ppa_nil)))) (ppa_cons (pp_v 13) (ppa_cons pp_int (ppa_cons pp_int ppa_nil))))) ppa_nil)))))
    ppb_nil)
   (ppb_one (pps_ret (pp_tup (ppa_cons (pp_v 5) (ppa_cons (pp_op opP_add (pp_op opP_add (pp_sl (pp_v 6) ppo_none (ppo_some (pp_v 3))) (pp_v 10)) (pp_sl (pp_v 6) (ppo_some (pp_op opP_add (pp_v 3) pp_int)) ppo_none)) (ppa_cons (pp_v 7) ppa_nil))))))))))
   ppb_nil)
  (ppb_cons (pps_par 11 4 rfl sc__law_bent.nd (by decide) (pp_call f__law_draw bd__law_draw hr (by decide) hg pass0 (ppa_cons (pp_v 0) (ppa_cons pp_int ppa_nil))) (pp_ix (pp_v 6) (pp_v 3)))
  (ppb_cons (pps_set 4 sc__law_bent.nd (pp_op opP_add (pp_op opP_add (pp_sl (pp_v 4) ppo_none (ppo_some (pp_v 11))) (pp_tup (ppa_cons (pp_call f__law_odd_item bd__law_odd_item hr (by decide) hg pass0 (ppa_cons (pp_v 0) (ppa_cons (pp_ix (pp_v 4) (pp_v 11)) ppa_nil))) ppa_nil))) (pp_sl (pp_v 4) (ppo_some (pp_op opP_add (pp_v 11) pp_int)) ppo_none)))
  (ppb_one (pps_ret (pp_tup (ppa_cons (pp_v 5) (ppa_cons (pp_op opP_add (pp_op opP_add (pp_sl (pp_v 6) ppo_none (ppo_some (pp_v 3))) (pp_tup (ppa_cons (pp_v 4) ppa_nil))) (pp_sl (pp_v 6) (ppo_some (pp_op opP_add (pp_v 3) pp_int)) ppo_none)) (ppa_cons (pp_v 7) ppa_nil)))))))))))))))))
theorem ok__law_bent_more {f : Addr} {fd : FuncData} {ql : Str} (T : Top mg K) (f__law_draw : FnM P w K mg base CX0 1 "_law_draw" s__law_draw ["deck", "many"] m__law_draw) (f__law_pick : FnM P w K mg base CX0 2 "_law_pick" s__law_pick ["deck", "some"] m__law_pick) (Fu : L2.Fun K "_law_bent_more" ql s__law_bent_more f fd) (hm : mg "_law_bent_more" = some (.ref f)) :
    FnM P w K mg base CX0 3 "_law_bent_more" s__law_bent_more ["deck", "signal"] m__law_bent_more :=
  fn_pure Fu hm sc__law_bent_more rfl fun cdv A outer s H E hr hg =>
  (ppb_cons (pps_asg (pp_v 1) (ppg_tup (n := 3) rfl (ppgs_cons (ppg_n 4 sc__law_bent_more.nd) (ppgs_cons (ppg_n 5 sc__law_bent_more.nd) (ppgs_cons (ppg_n 6 sc__law_bent_more.nd) ppgs_nil)))))
  (ppb_cons (pps_set 2 sc__law_bent_more.nd (pp_callTy crP_list T.b_list boot_list (ppa_cons (pp_v 5) ppa_nil)))
  (ppb_cons (pps_for PassesOwn.never rfl (ppi_rng1 T.b_range (pp_op opP_add pp_int (pp_call f__law_draw bd__law_draw hr (by decide) hg pass0 (ppa_cons (pp_v 0) (ppa_cons pp_int ppa_nil))))) (ppg_n 3 sc__law_bent_more.nd)
   (ppb_cons (pps_par 7 8 rfl sc__law_bent_more.nd (by decide) (pp_call f__law_draw bd__law_draw hr (by decide) hg pass0 (ppa_cons (pp_v 0) (ppa_cons pp_int ppa_nil))) (pp_call f__law_draw bd__law_draw hr (by decide) hg pass0 (ppa_cons (pp_v 0) (ppa_cons (pp_callB crP_len T.b_len boot_len (ppa_cons (pp_v 2) ppa_nil)) ppa_nil))))
   (ppb_one (pps_if (ppt_cmp (cmpP_eq (hu64 hr)) (pp_v 7) pp_int)
    (ppb_one (pps_set 4 sc__law_bent_more.nd (pp_call f__law_pick bd__law_pick hr (by decide) hg pass0 (ppa_cons (pp_v 0) (ppa_cons (pp_lst (ppa_cons pp_non (ppa_cons pp_str (ppa_cons pp_int (ppa_cons (pp_un unP_neg pp_int) (ppa_cons pp_int (ppa_cons pp_bl (ppa_cons (pp_op opP_pow pp_int pp_int) ppa_nil)))))))) ppa_nil)))))
    (ppb_one (pps_if (ppt_cmp (cmpP_eq (hu64 hr)) (pp_v 7) pp_int)
     (ppb_one (pps_set 6 sc__law_bent_more.nd (pp_call f__law_pick bd__law_pick hr (by decide) hg pass0 (ppa_cons (pp_v 0) (ppa_cons (pp_lst (ppa_cons pp_non (ppa_cons pp_str (ppa_cons pp_int (ppa_cons pp_int (ppa_cons pp_int (ppa_cons pp_bl (ppa_cons (pp_op opP_pow pp_int pp_int) ppa_nil)))))))) ppa_nil)))))
     (ppb_one (pps_if (PPW.t (ppw_and (ppt_cmp (cmpP_eq (hu64 hr)) (pp_v 7) pp_int) (ppw_and1 (ppt_cmp (cmpP_ne (hu64 hr)) (pp_v 2) (pp_lst ppa_nil)))))
      (ppb_one (pps_asg (pp_call f__law_pick bd__law_pick hr (by decide) hg pass0 (ppa_cons (pp_v 0) (ppa_cons (pp_lst (ppa_cons pp_non (ppa_cons (pp_tup (ppa_cons pp_int (ppa_cons pp_int (ppa_cons pp_int (ppa_cons pp_int ppa_nil))))) (ppa_cons (pp_tup (ppa_cons pp_int (ppa_cons pp_int (ppa_cons pp_int ppa_nil)))) (ppa_cons (pp_lst (ppa_cons pp_int (ppa_cons pp_int (ppa_cons pp_int (ppa_cons pp_int ppa_nil))))) (ppa_cons (pp_tup (ppa_cons pp_int (ppa_cons pp_int (ppa_cons pp_int (ppa_cons pp_int ppa_nil))))) (ppa_cons (pp_tup (ppa_cons pp_int (ppa_cons pp_int (ppa_cons pp_int (ppa_cons pp_bl ppa_nil))))) ppa_nil))))))) ppa_nil))) (ppg_sub (pp_v 2) (pp_v 8))))
      (ppb_one (pps_if (ppt_cmp (cmpP_eq (hu64 hr)) (pp_v 7) pp_int)
       (ppb_one (pps_set 2 sc__law_bent_more.nd (pp_op opP_add (pp_sl (pp_v 2) (ppo_some pp_int) ppo_none) (pp_sl (pp_v 2) ppo_none (ppo_some pp_int)))))
       (ppb_one (pps_if (PPW.t (ppw_or (ppt_cmp (cmpP_eq (hu64 hr)) (pp_v 7) pp_int) (ppw_or1 (ppt_cmp (cmpP_eq (hu64 hr)) (pp_v 2) (pp_lst ppa_nil)))))
        (ppb_one (pps_exp (pp_append (pp_v 2) (ppa_cons (pp_tup (ppa_cons (pp_op opP_sub (pp_call f__law_draw bd__law_draw hr (by decide) hg pass0 (ppa_cons (pp_v 0) (ppa_cons pp_int ppa_nil))) pp_int) (ppa_cons (pp_op opP_add pp_int (pp_call f__law_draw bd__law_draw hr (by decide) hg pass0 (ppa_cons (pp_v 0) (ppa_cons pp_int ppa_nil)))) (ppa_cons pp_int (ppa_cons pp_int ppa_nil))))) ppa_nil))))
        (ppb_one (pps_exp (pp_append (pp_v 2) (ppa_cons (pp_ix (pp_v 2) (pp_v 8)) ppa_nil))))))))))))))))
  (ppb_one (pps_ret (pp_tup (ppa_cons (pp_v 4) (ppa_cons (pp_callTy crP_tuple T.b_tuple boot_tuple (ppa_cons (pp_v 2) ppa_nil)) (ppa_cons (pp_v 6) ppa_nil)))))))))
theorem ok__law_many {f : Addr} {fd : FuncData} {ql : Str} (T : Top mg K) (f__law_draw : FnM P w K mg base CX0 1 "_law_draw" s__law_draw ["deck", "many"] m__law_draw) (f__law_grouped : FnM P w K mg base CX0 1 "_law_grouped" s__law_grouped ["until", "runs", "since"] m__law_grouped) (Fu : L2.Fun K "_law_many" ql s__law_many f fd) (hm : mg "_law_many" = some (.ref f)) :
    FnM P w K mg base CX0 2 "_law_many" s__law_many ["deck"] m__law_many :=
  fn_pure Fu hm sc__law_many rfl fun cdv A outer s H E hr hg =>
  (ppb_cons (pps_set 1 sc__law_many.nd (pp_op opP_add pp_int (pp_call f__law_draw bd__law_draw hr (by decide) hg pass0 (ppa_cons (pp_v 0) (ppa_cons pp_int ppa_nil)))))
  (ppb_cons (pps_setLc 2 (own := [("k", 3)]) rfl sc__law_many.nd (ppi_rng1 T.b_range (pp_v 1)) (blkOk_by (N := N__law_many) (sc := defScope s__law_many) (by decide +kernel)) (fun _ _ _ _ _ => (ppg_n 3 sc__law_many.nd)) (fun _ _ _ _ _ => ppts_nil) (fun _ _ _ _ _ => (pp_tup (ppa_cons (pp_op opP_mul pp_int (pp_v 3)) (ppa_cons (pp_op opP_add (pp_op opP_add (pp_op opP_mul pp_int (pp_v 3)) pp_int) (pp_op opP_mod (pp_callTy crP_int T.b_int boot_int (ppa_cons (pp_v 3) ppa_nil)) pp_int)) ppa_nil)))) (sw_true rfl rfl rfl (by decide +kernel)))
  (ppb_one (pps_ret (pp_call f__law_grouped bd__law_grouped hr (by decide) hg pass0 (ppa_cons pp_non (ppa_cons (pp_v 2) (ppa_cons pp_non ppa_nil))))))))
theorem ok_law {f : Addr} {fd : FuncData} {ql : Str} (T : Top mg K) (f__law_deck : FnM P w K mg base CX0 1 "_law_deck" s__law_deck ["script"] m__law_deck) (f__law_signal : FnM P w K mg base CX0 3 "_law_signal" s__law_signal ["deck", "many", "most"] m__law_signal) (f__law_draw : FnM P w K mg base CX0 1 "_law_draw" s__law_draw ["deck", "many"] m__law_draw) (f__law_pick : FnM P w K mg base CX0 2 "_law_pick" s__law_pick ["deck", "some"] m__law_pick) (f__law_great : FnM P w K mg base CX0 1 "_law_great" s__law_great ["deck", "signal", "by", "far"] m__law_great) (f_signal_error : FnM P w K mg base CX0 4 "signal_error" s_signal_error ["value"] m_signal_error) (f__law_due : FnM P w K mg base CX0 3 "_law_due" s__law_due ["thing"] m__law_due) (f__law_bent_more : FnM P w K mg base CX0 3 "_law_bent_more" s__law_bent_more ["deck", "signal"] m__law_bent_more) (f__law_bent : FnM P w K mg base CX0 4 "_law_bent" s__law_bent ["deck", "signal"] m__law_bent) (f__law_many : FnM P w K mg base CX0 2 "_law_many" s__law_many ["deck"] m__law_many) (Fu : L2.Fun K "law" ql s_law f fd) (hm : mg "law" = some (.ref f)) :
    FnM P w K mg base CX0 5 "law" s_law ["script"] m_law :=
  fn_pure Fu hm sc_law rfl fun cdv A outer s H E hr hg =>
  (ppb_cons (pps_set 1 sc_law.nd (pp_call f__law_deck bd__law_deck hr (by decide) hg pass0 (ppa_cons (pp_v 0) ppa_nil)))
  (ppb_cons (pps_for PassesOwn.never rfl (ppi_rng1 T.b_range pp_int) (ppg_n 2 sc_law.nd)
   (ppb_cons (pps_set 7 sc_law.nd (pp_call f__law_signal bd__law_signal hr (by decide) hg pass0 (ppa_cons (pp_v 1) (ppa_cons pp_int (ppa_cons pp_int ppa_nil)))))
   (ppb_cons (pps_if (ppt_cmp (cmpP_eq (hu64 hr)) (pp_call f__law_draw bd__law_draw hr (by decide) hg pass0 (ppa_cons (pp_v 1) (ppa_cons pp_int ppa_nil))) pp_int)
    (ppb_cons (pps_set 12 sc_law.nd (pp_call f__law_pick bd__law_pick hr (by decide) hg pass0 (ppa_cons (pp_v 1) (ppa_cons (pp_lst (ppa_cons (pp_op opP_pow pp_int pp_int) (ppa_cons (pp_op opP_pow pp_int pp_int) (ppa_cons pp_int ppa_nil)))) ppa_nil))))
    (ppb_one (pps_set 7 sc_law.nd (pp_call f__law_great bd__law_great hr (by decide) hg pass0 (ppa_cons (pp_v 1) (ppa_cons (pp_v 7) (ppa_cons (pp_v 12) (ppa_cons (pp_call f__law_draw bd__law_draw hr (by decide) hg pass0 (ppa_cons (pp_v 1) (ppa_cons pp_int ppa_nil))) ppa_nil))))))))
    ppb_nil)
   (ppb_cons (pps_if (ppt_cmp (cmpP_ne (hu64 hr)) (pp_callB (crP_repr hg (hu65 hr)) T.b_repr boot_repr (ppa_cons (pp_call f_signal_error bd_signal_error hr (by decide) hg pass0 (ppa_cons (pp_v 7) ppa_nil)) ppa_nil)) (pp_callB (crP_repr hg (hu65 hr)) T.b_repr boot_repr (ppa_cons (pp_call f__law_due bd__law_due hr (by decide) hg pass0 (ppa_cons (pp_v 7) ppa_nil)) ppa_nil)))
    (ppb_one (pps_ret pp_bl))
    ppb_nil)
   (ppb_one (pps_for PassesOwn.never rfl (ppi_rng1 T.b_range pp_int) (ppg_n 8 sc_law.nd)
    (ppb_cons (pps_set 11 sc_law.nd (pp_ite (ppt_cmp cmpP_gt (pp_v 8) pp_int) (pp_call f__law_bent_more bd__law_bent_more hr (by decide) hg pass0 (ppa_cons (pp_v 1) (ppa_cons (pp_v 7) ppa_nil))) (pp_call f__law_bent bd__law_bent hr (by decide) hg pass0 (ppa_cons (pp_v 1) (ppa_cons (pp_v 7) ppa_nil)))))
    (ppb_cons (pps_set 11 sc_law.nd (pp_ite (PPW.t (ppw_and (ppt_cmp (cmpP_eq (hu64 hr)) (pp_call f__law_draw bd__law_draw hr (by decide) hg pass0 (ppa_cons (pp_v 1) (ppa_cons pp_int ppa_nil))) pp_int) (ppw_and1 (ppt_cmp cmpP_isN (pp_call f__law_due bd__law_due hr (by decide) hg pass0 (ppa_cons (pp_v 11) ppa_nil)) pp_non)))) (pp_call f__law_bent bd__law_bent hr (by decide) hg pass0 (ppa_cons (pp_v 1) (ppa_cons (pp_v 11) ppa_nil))) (pp_v 11)))
    (ppb_cons (pps_set 13 sc_law.nd (pp_callB (crP_repr hg (hu65 hr)) T.b_repr boot_repr (ppa_cons (pp_v 11) ppa_nil)))
    (ppb_cons (pps_set 14 sc_law.nd (pp_ite (ppt_cmp cmpP_gt (pp_v 8) pp_int) (pp_call f_signal_error bd_signal_error hr (by decide) hg pass0 (ppa_cons (pp_v 11) ppa_nil)) (pp_callK0 f_signal_error bk_signal_error_0_value hr (by decide) hg pass0 (ppk_cons (pp_v 11) ppk_nil) (fun l hl => match l, hl with | [_], _ => rfl))))
    (ppb_one (pps_if (PPW.t (ppw_or (ppt_cmp (cmpP_ne (hu64 hr)) (pp_callB (crP_repr hg (hu65 hr)) T.b_repr boot_repr (ppa_cons (pp_v 14) ppa_nil)) (pp_callB (crP_repr hg (hu65 hr)) T.b_repr boot_repr (ppa_cons (pp_call f__law_due bd__law_due hr (by decide) hg pass0 (ppa_cons (pp_v 11) ppa_nil)) ppa_nil))) (ppw_or1 (ppt_cmp (cmpP_ne (hu64 hr)) (pp_callB (crP_repr hg (hu65 hr)) T.b_repr boot_repr (ppa_cons (pp_v 11) ppa_nil)) (pp_v 13)))))
     (ppb_one (pps_ret pp_bl))
     ppb_nil))))))))))))
  (ppb_cons (pps_set 3 sc_law.nd (pp_call f__law_many bd__law_many hr (by decide) hg pass0 (ppa_cons (pp_v 1) ppa_nil)))
  (ppb_cons (pps_set 4 sc_law.nd (pp_ix (pp_v 3) pp_int))
  (ppb_cons (pps_par 9 10 rfl sc_law.nd (by decide) (pp_ix (pp_v 4) (pp_un unP_neg pp_int)) (pp_ix (pp_v 4) (pp_un unP_neg pp_int)))
  (ppb_cons (pps_set 5 sc_law.nd (pp_op opP_add (pp_ix (pp_v 10) pp_int) (pp_ix (pp_v 10) pp_int)))
  (ppb_cons (pps_for PassesOwn.never rfl (ppi_val (pp_tup (ppa_cons (pp_v 9) (ppa_cons (pp_tup (ppa_cons (pp_v 5) (ppa_cons (pp_ix (pp_v 9) pp_int) (ppa_cons pp_int (ppa_cons pp_int ppa_nil))))) (ppa_cons (pp_tup (ppa_cons (pp_op opP_add (pp_v 5) pp_int) (ppa_cons (pp_ix (pp_v 10) pp_int) (ppa_cons pp_int (ppa_cons pp_int ppa_nil))))) (ppa_cons (pp_tup (ppa_cons (pp_ix (pp_v 9) pp_int) (ppa_cons (pp_ix (pp_v 9) pp_int) (ppa_cons pp_int (ppa_cons pp_int ppa_nil))))) (ppa_cons (pp_v 10) ppa_nil))))))) (ppg_n 6 sc_law.nd)
   (ppb_cons (pps_set 11 sc_law.nd (pp_tup (ppa_cons pp_non (ppa_cons (pp_op opP_add (pp_sl (pp_v 4) ppo_none (ppo_some (pp_un unP_neg pp_int))) (pp_tup (ppa_cons (pp_v 6) ppa_nil))) (ppa_cons (pp_call f__law_pick bd__law_pick hr (by decide) hg pass0 (ppa_cons (pp_v 1) (ppa_cons (pp_lst (ppa_cons pp_non (ppa_cons (pp_ix (pp_v 9) pp_int) (ppa_cons (pp_op opP_add (pp_ix (pp_v 9) pp_int) pp_int) ppa_nil)))) ppa_nil))) ppa_nil)))))
   (ppb_one (pps_if (ppt_cmp (cmpP_ne (hu64 hr)) (pp_callB (crP_repr hg (hu65 hr)) T.b_repr boot_repr (ppa_cons (pp_call f_signal_error bd_signal_error hr (by decide) hg pass0 (ppa_cons (pp_v 11) ppa_nil)) ppa_nil)) (pp_callB (crP_repr hg (hu65 hr)) T.b_repr boot_repr (ppa_cons (pp_call f__law_due bd__law_due hr (by decide) hg pass0 (ppa_cons (pp_v 11) ppa_nil)) ppa_nil)))
    (ppb_one (pps_ret pp_bl))
    ppb_nil))))
  (ppb_one (pps_ret (pp_and (pp_cmp (cmpP_eq (hu64 hr)) (pp_callB (crP_repr hg (hu65 hr)) T.b_repr boot_repr (ppa_cons (pp_call f_signal_error bd_signal_error hr (by decide) hg pass0 (ppa_cons (pp_v 3) ppa_nil)) ppa_nil)) (pp_callB (crP_repr hg (hu65 hr)) T.b_repr boot_repr (ppa_cons (pp_call f__law_due bd__law_due hr (by decide) hg pass0 (ppa_cons (pp_v 3) ppa_nil)) ppa_nil))) (pp_one (pp_cmp cmpP_isN (pp_call f_signal_error bd_signal_error hr (by decide) hg pass0 (ppa_cons (pp_tup (ppa_cons pp_int (ppa_cons (pp_tup ppa_nil) (ppa_cons pp_int ppa_nil)))) ppa_nil)) pp_non))))))))))))
end
theorem all_mk {P : Program} {w : World} {K : PySem.W.Frag} {mg : Str → Option Value} {h base : Heap} (X : K.In h) (G : h.Ns mainGlobals mg)
    (z_abs : PySem.W.nsIn K mainGlobals "abs" = some none)
    (z_bool : PySem.W.nsIn K mainGlobals "bool" = some none)
    (z_enumerate : PySem.W.nsIn K mainGlobals "enumerate" = some none)
    (z_int : PySem.W.nsIn K mainGlobals "int" = some none)
    (z_isinstance : PySem.W.nsIn K mainGlobals "isinstance" = some none)
    (z_len : PySem.W.nsIn K mainGlobals "len" = some none)
    (z_list : PySem.W.nsIn K mainGlobals "list" = some none)
    (z_range : PySem.W.nsIn K mainGlobals "range" = some none)
    (z_repr : PySem.W.nsIn K mainGlobals "repr" = some none)
    (z_str : PySem.W.nsIn K mainGlobals "str" = some none)
    (z_tuple : PySem.W.nsIn K mainGlobals "tuple" = some none)
    {c_ALWAYS_ON : Addr} {d_ALWAYS_ON : Option Addr} {n_ALWAYS_ON : Nat} {e_ALWAYS_ON : Array (Option Value)} {t_ALWAYS_ON_0 : Tok} {t_ALWAYS_ON_2 : Tok}
    {c_ALWAYS_ON_1 : Addr} {d_ALWAYS_ON_1 : Option Addr} {n_ALWAYS_ON_1 : Nat} {e_ALWAYS_ON_1 : Array (Option Value)}
    (y_ALWAYS_ON : PySem.W.nsIn K mainGlobals "ALWAYS_ON" = some (some (.ref c_ALWAYS_ON)))
    (q_ALWAYS_ON : K.lookup c_ALWAYS_ON = some ⟨.type "tuple", d_ALWAYS_ON, .seq #[.int (0) t_ALWAYS_ON_0, .ref c_ALWAYS_ON_1, .int (0) t_ALWAYS_ON_2] n_ALWAYS_ON, e_ALWAYS_ON⟩)
    (q_ALWAYS_ON_1 : K.lookup c_ALWAYS_ON_1 = some ⟨.type "tuple", d_ALWAYS_ON_1, .seq #[] n_ALWAYS_ON_1, e_ALWAYS_ON_1⟩)
    {t_MAX_BURSTS : Tok} (y_MAX_BURSTS : PySem.W.nsIn K mainGlobals "MAX_BURSTS" = some (some (.int 100 t_MAX_BURSTS)))
    {t_MAX_NUMBER : Tok} (y_MAX_NUMBER : PySem.W.nsIn K mainGlobals "MAX_NUMBER" = some (some (.int 1000000000000000000000000000000000000000000000000000000000000 t_MAX_NUMBER)))
    {f_is_integer : Addr} {oc_is_integer kV_is_integer dc_is_integer pm_is_integer cd_is_integer ct_is_integer : Value} {od_is_integer an_is_integer : Option Addr} {sl_is_integer : Array (Option Value)}
    (a_is_integer : PySem.W.nsIn K mainGlobals "is_integer" = some (some (.ref f_is_integer)))
    (l_is_integer : K.lookup f_is_integer = some ⟨oc_is_integer, od_is_integer, .func (PySem.W.fnOf "is_integer" "is_integer" (defArgs s_is_integer) (defBody s_is_integer) (defScope s_is_integer) .none kV_is_integer dc_is_integer pm_is_integer an_is_integer cd_is_integer ct_is_integer), sl_is_integer⟩)
    (c_is_integer : PySem.W.codeIn K cd_is_integer "is_integer" = true) (k_is_integer : PySem.W.keepIn K (.ref f_is_integer) = true)
    {f_is_number : Addr} {oc_is_number kV_is_number dc_is_number pm_is_number cd_is_number ct_is_number : Value} {od_is_number an_is_number : Option Addr} {sl_is_number : Array (Option Value)}
    (a_is_number : PySem.W.nsIn K mainGlobals "is_number" = some (some (.ref f_is_number)))
    (l_is_number : K.lookup f_is_number = some ⟨oc_is_number, od_is_number, .func (PySem.W.fnOf "is_number" "is_number" (defArgs s_is_number) (defBody s_is_number) (defScope s_is_number) .none kV_is_number dc_is_number pm_is_number an_is_number cd_is_number ct_is_number), sl_is_number⟩)
    (c_is_number : PySem.W.codeIn K cd_is_number "is_number" = true) (k_is_number : PySem.W.keepIn K (.ref f_is_number) = true)
    {f_is_burst : Addr} {oc_is_burst kV_is_burst dc_is_burst pm_is_burst cd_is_burst ct_is_burst : Value} {od_is_burst an_is_burst : Option Addr} {sl_is_burst : Array (Option Value)}
    (a_is_burst : PySem.W.nsIn K mainGlobals "is_burst" = some (some (.ref f_is_burst)))
    (l_is_burst : K.lookup f_is_burst = some ⟨oc_is_burst, od_is_burst, .func (PySem.W.fnOf "is_burst" "is_burst" (defArgs s_is_burst) (defBody s_is_burst) (defScope s_is_burst) .none kV_is_burst dc_is_burst pm_is_burst an_is_burst cd_is_burst ct_is_burst), sl_is_burst⟩)
    (c_is_burst : PySem.W.codeIn K cd_is_burst "is_burst" = true) (k_is_burst : PySem.W.keepIn K (.ref f_is_burst) = true)
    {f_end_of : Addr} {oc_end_of kV_end_of dc_end_of pm_end_of cd_end_of ct_end_of : Value} {od_end_of an_end_of : Option Addr} {sl_end_of : Array (Option Value)}
    (a_end_of : PySem.W.nsIn K mainGlobals "end_of" = some (some (.ref f_end_of)))
    (l_end_of : K.lookup f_end_of = some ⟨oc_end_of, od_end_of, .func (PySem.W.fnOf "end_of" "end_of" (defArgs s_end_of) (defBody s_end_of) (defScope s_end_of) .none kV_end_of dc_end_of pm_end_of an_end_of cd_end_of ct_end_of), sl_end_of⟩)
    (c_end_of : PySem.W.codeIn K cd_end_of "end_of" = true) (k_end_of : PySem.W.keepIn K (.ref f_end_of) = true)
    {f_takes_on : Addr} {oc_takes_on kV_takes_on dc_takes_on pm_takes_on cd_takes_on ct_takes_on : Value} {od_takes_on an_takes_on : Option Addr} {sl_takes_on : Array (Option Value)}
    (a_takes_on : PySem.W.nsIn K mainGlobals "takes_on" = some (some (.ref f_takes_on)))
    (l_takes_on : K.lookup f_takes_on = some ⟨oc_takes_on, od_takes_on, .func (PySem.W.fnOf "takes_on" "takes_on" (defArgs s_takes_on) (defBody s_takes_on) (defScope s_takes_on) .none kV_takes_on dc_takes_on pm_takes_on an_takes_on cd_takes_on ct_takes_on), sl_takes_on⟩)
    (c_takes_on : PySem.W.codeIn K cd_takes_on "takes_on" = true) (k_takes_on : PySem.W.keepIn K (.ref f_takes_on) = true)
    {f_order_error : Addr} {oc_order_error kV_order_error dc_order_error pm_order_error cd_order_error ct_order_error : Value} {od_order_error an_order_error : Option Addr} {sl_order_error : Array (Option Value)}
    (a_order_error : PySem.W.nsIn K mainGlobals "order_error" = some (some (.ref f_order_error)))
    (l_order_error : K.lookup f_order_error = some ⟨oc_order_error, od_order_error, .func (PySem.W.fnOf "order_error" "order_error" (defArgs s_order_error) (defBody s_order_error) (defScope s_order_error) .none kV_order_error dc_order_error pm_order_error an_order_error cd_order_error ct_order_error), sl_order_error⟩)
    (c_order_error : PySem.W.codeIn K cd_order_error "order_error" = true) (k_order_error : PySem.W.keepIn K (.ref f_order_error) = true)
    {f_ends_of : Addr} {oc_ends_of kV_ends_of dc_ends_of pm_ends_of cd_ends_of ct_ends_of : Value} {od_ends_of an_ends_of : Option Addr} {sl_ends_of : Array (Option Value)}
    (a_ends_of : PySem.W.nsIn K mainGlobals "ends_of" = some (some (.ref f_ends_of)))
    (l_ends_of : K.lookup f_ends_of = some ⟨oc_ends_of, od_ends_of, .func (PySem.W.fnOf "ends_of" "ends_of" (defArgs s_ends_of) (defBody s_ends_of) (defScope s_ends_of) .none kV_ends_of dc_ends_of pm_ends_of an_ends_of cd_ends_of ct_ends_of), sl_ends_of⟩)
    (c_ends_of : PySem.W.codeIn K cd_ends_of "ends_of" = true) (k_ends_of : PySem.W.keepIn K (.ref f_ends_of) = true)
    {f_signal_error : Addr} {oc_signal_error kV_signal_error dc_signal_error pm_signal_error cd_signal_error ct_signal_error : Value} {od_signal_error an_signal_error : Option Addr} {sl_signal_error : Array (Option Value)}
    (a_signal_error : PySem.W.nsIn K mainGlobals "signal_error" = some (some (.ref f_signal_error)))
    (l_signal_error : K.lookup f_signal_error = some ⟨oc_signal_error, od_signal_error, .func (PySem.W.fnOf "signal_error" "signal_error" (defArgs s_signal_error) (defBody s_signal_error) (defScope s_signal_error) .none kV_signal_error dc_signal_error pm_signal_error an_signal_error cd_signal_error ct_signal_error), sl_signal_error⟩)
    (c_signal_error : PySem.W.codeIn K cd_signal_error "signal_error" = true) (k_signal_error : PySem.W.keepIn K (.ref f_signal_error) = true)
    {f__law_deck : Addr} {oc__law_deck kV__law_deck dc__law_deck pm__law_deck cd__law_deck ct__law_deck : Value} {od__law_deck an__law_deck : Option Addr} {sl__law_deck : Array (Option Value)}
    (a__law_deck : PySem.W.nsIn K mainGlobals "_law_deck" = some (some (.ref f__law_deck)))
    (l__law_deck : K.lookup f__law_deck = some ⟨oc__law_deck, od__law_deck, .func (PySem.W.fnOf "_law_deck" "_law_deck" (defArgs s__law_deck) (defBody s__law_deck) (defScope s__law_deck) .none kV__law_deck dc__law_deck pm__law_deck an__law_deck cd__law_deck ct__law_deck), sl__law_deck⟩)
    (c__law_deck : PySem.W.codeIn K cd__law_deck "_law_deck" = true) (k__law_deck : PySem.W.keepIn K (.ref f__law_deck) = true)
    {f__law_draw : Addr} {oc__law_draw kV__law_draw dc__law_draw pm__law_draw cd__law_draw ct__law_draw : Value} {od__law_draw an__law_draw : Option Addr} {sl__law_draw : Array (Option Value)}
    (a__law_draw : PySem.W.nsIn K mainGlobals "_law_draw" = some (some (.ref f__law_draw)))
    (l__law_draw : K.lookup f__law_draw = some ⟨oc__law_draw, od__law_draw, .func (PySem.W.fnOf "_law_draw" "_law_draw" (defArgs s__law_draw) (defBody s__law_draw) (defScope s__law_draw) .none kV__law_draw dc__law_draw pm__law_draw an__law_draw cd__law_draw ct__law_draw), sl__law_draw⟩)
    (c__law_draw : PySem.W.codeIn K cd__law_draw "_law_draw" = true) (k__law_draw : PySem.W.keepIn K (.ref f__law_draw) = true)
    {f__law_pick : Addr} {oc__law_pick kV__law_pick dc__law_pick pm__law_pick cd__law_pick ct__law_pick : Value} {od__law_pick an__law_pick : Option Addr} {sl__law_pick : Array (Option Value)}
    (a__law_pick : PySem.W.nsIn K mainGlobals "_law_pick" = some (some (.ref f__law_pick)))
    (l__law_pick : K.lookup f__law_pick = some ⟨oc__law_pick, od__law_pick, .func (PySem.W.fnOf "_law_pick" "_law_pick" (defArgs s__law_pick) (defBody s__law_pick) (defScope s__law_pick) .none kV__law_pick dc__law_pick pm__law_pick an__law_pick cd__law_pick ct__law_pick), sl__law_pick⟩)
    (c__law_pick : PySem.W.codeIn K cd__law_pick "_law_pick" = true) (k__law_pick : PySem.W.keepIn K (.ref f__law_pick) = true)
    {f__law_grouped : Addr} {oc__law_grouped kV__law_grouped dc__law_grouped pm__law_grouped cd__law_grouped ct__law_grouped : Value} {od__law_grouped an__law_grouped : Option Addr} {sl__law_grouped : Array (Option Value)}
    (a__law_grouped : PySem.W.nsIn K mainGlobals "_law_grouped" = some (some (.ref f__law_grouped)))
    (l__law_grouped : K.lookup f__law_grouped = some ⟨oc__law_grouped, od__law_grouped, .func (PySem.W.fnOf "_law_grouped" "_law_grouped" (defArgs s__law_grouped) (defBody s__law_grouped) (defScope s__law_grouped) .none kV__law_grouped dc__law_grouped pm__law_grouped an__law_grouped cd__law_grouped ct__law_grouped), sl__law_grouped⟩)
    (c__law_grouped : PySem.W.codeIn K cd__law_grouped "_law_grouped" = true) (k__law_grouped : PySem.W.keepIn K (.ref f__law_grouped) = true)
    {f__law_row_of_runs : Addr} {oc__law_row_of_runs kV__law_row_of_runs dc__law_row_of_runs pm__law_row_of_runs cd__law_row_of_runs ct__law_row_of_runs : Value} {od__law_row_of_runs an__law_row_of_runs : Option Addr} {sl__law_row_of_runs : Array (Option Value)}
    (a__law_row_of_runs : PySem.W.nsIn K mainGlobals "_law_row_of_runs" = some (some (.ref f__law_row_of_runs)))
    (l__law_row_of_runs : K.lookup f__law_row_of_runs = some ⟨oc__law_row_of_runs, od__law_row_of_runs, .func (PySem.W.fnOf "_law_row_of_runs" "_law_row_of_runs" (defArgs s__law_row_of_runs) (defBody s__law_row_of_runs) (defScope s__law_row_of_runs) .none kV__law_row_of_runs dc__law_row_of_runs pm__law_row_of_runs an__law_row_of_runs cd__law_row_of_runs ct__law_row_of_runs), sl__law_row_of_runs⟩)
    (c__law_row_of_runs : PySem.W.codeIn K cd__law_row_of_runs "_law_row_of_runs" = true) (k__law_row_of_runs : PySem.W.keepIn K (.ref f__law_row_of_runs) = true)
    {f__law_signal : Addr} {oc__law_signal kV__law_signal dc__law_signal pm__law_signal cd__law_signal ct__law_signal : Value} {od__law_signal an__law_signal : Option Addr} {sl__law_signal : Array (Option Value)}
    (a__law_signal : PySem.W.nsIn K mainGlobals "_law_signal" = some (some (.ref f__law_signal)))
    (l__law_signal : K.lookup f__law_signal = some ⟨oc__law_signal, od__law_signal, .func (PySem.W.fnOf "_law_signal" "_law_signal" (defArgs s__law_signal) (defBody s__law_signal) (defScope s__law_signal) .none kV__law_signal dc__law_signal pm__law_signal an__law_signal cd__law_signal ct__law_signal), sl__law_signal⟩)
    (c__law_signal : PySem.W.codeIn K cd__law_signal "_law_signal" = true) (k__law_signal : PySem.W.keepIn K (.ref f__law_signal) = true)
    {f__law_great : Addr} {oc__law_great kV__law_great dc__law_great pm__law_great cd__law_great ct__law_great : Value} {od__law_great an__law_great : Option Addr} {sl__law_great : Array (Option Value)}
    (a__law_great : PySem.W.nsIn K mainGlobals "_law_great" = some (some (.ref f__law_great)))
    (l__law_great : K.lookup f__law_great = some ⟨oc__law_great, od__law_great, .func (PySem.W.fnOf "_law_great" "_law_great" (defArgs s__law_great) (defBody s__law_great) (defScope s__law_great) .none kV__law_great dc__law_great pm__law_great an__law_great cd__law_great ct__law_great), sl__law_great⟩)
    (c__law_great : PySem.W.codeIn K cd__law_great "_law_great" = true) (k__law_great : PySem.W.keepIn K (.ref f__law_great) = true)
    {f__law_is_number : Addr} {oc__law_is_number kV__law_is_number dc__law_is_number pm__law_is_number cd__law_is_number ct__law_is_number : Value} {od__law_is_number an__law_is_number : Option Addr} {sl__law_is_number : Array (Option Value)}
    (a__law_is_number : PySem.W.nsIn K mainGlobals "_law_is_number" = some (some (.ref f__law_is_number)))
    (l__law_is_number : K.lookup f__law_is_number = some ⟨oc__law_is_number, od__law_is_number, .func (PySem.W.fnOf "_law_is_number" "_law_is_number" (defArgs s__law_is_number) (defBody s__law_is_number) (defScope s__law_is_number) .none kV__law_is_number dc__law_is_number pm__law_is_number an__law_is_number cd__law_is_number ct__law_is_number), sl__law_is_number⟩)
    (c__law_is_number : PySem.W.codeIn K cd__law_is_number "_law_is_number" = true) (k__law_is_number : PySem.W.keepIn K (.ref f__law_is_number) = true)
    {f__law_is_burst : Addr} {oc__law_is_burst kV__law_is_burst dc__law_is_burst pm__law_is_burst cd__law_is_burst ct__law_is_burst : Value} {od__law_is_burst an__law_is_burst : Option Addr} {sl__law_is_burst : Array (Option Value)}
    (a__law_is_burst : PySem.W.nsIn K mainGlobals "_law_is_burst" = some (some (.ref f__law_is_burst)))
    (l__law_is_burst : K.lookup f__law_is_burst = some ⟨oc__law_is_burst, od__law_is_burst, .func (PySem.W.fnOf "_law_is_burst" "_law_is_burst" (defArgs s__law_is_burst) (defBody s__law_is_burst) (defScope s__law_is_burst) .none kV__law_is_burst dc__law_is_burst pm__law_is_burst an__law_is_burst cd__law_is_burst ct__law_is_burst), sl__law_is_burst⟩)
    (c__law_is_burst : PySem.W.codeIn K cd__law_is_burst "_law_is_burst" = true) (k__law_is_burst : PySem.W.keepIn K (.ref f__law_is_burst) = true)
    {f__law_is_formed : Addr} {oc__law_is_formed kV__law_is_formed dc__law_is_formed pm__law_is_formed cd__law_is_formed ct__law_is_formed : Value} {od__law_is_formed an__law_is_formed : Option Addr} {sl__law_is_formed : Array (Option Value)}
    (a__law_is_formed : PySem.W.nsIn K mainGlobals "_law_is_formed" = some (some (.ref f__law_is_formed)))
    (l__law_is_formed : K.lookup f__law_is_formed = some ⟨oc__law_is_formed, od__law_is_formed, .func (PySem.W.fnOf "_law_is_formed" "_law_is_formed" (defArgs s__law_is_formed) (defBody s__law_is_formed) (defScope s__law_is_formed) .none kV__law_is_formed dc__law_is_formed pm__law_is_formed an__law_is_formed cd__law_is_formed ct__law_is_formed), sl__law_is_formed⟩)
    (c__law_is_formed : PySem.W.codeIn K cd__law_is_formed "_law_is_formed" = true) (k__law_is_formed : PySem.W.keepIn K (.ref f__law_is_formed) = true)
    {f__law_due : Addr} {oc__law_due kV__law_due dc__law_due pm__law_due cd__law_due ct__law_due : Value} {od__law_due an__law_due : Option Addr} {sl__law_due : Array (Option Value)}
    (a__law_due : PySem.W.nsIn K mainGlobals "_law_due" = some (some (.ref f__law_due)))
    (l__law_due : K.lookup f__law_due = some ⟨oc__law_due, od__law_due, .func (PySem.W.fnOf "_law_due" "_law_due" (defArgs s__law_due) (defBody s__law_due) (defScope s__law_due) .none kV__law_due dc__law_due pm__law_due an__law_due cd__law_due ct__law_due), sl__law_due⟩)
    (c__law_due : PySem.W.codeIn K cd__law_due "_law_due" = true) (k__law_due : PySem.W.keepIn K (.ref f__law_due) = true)
    {f__law_odd_item : Addr} {oc__law_odd_item kV__law_odd_item dc__law_odd_item pm__law_odd_item cd__law_odd_item ct__law_odd_item : Value} {od__law_odd_item an__law_odd_item : Option Addr} {sl__law_odd_item : Array (Option Value)}
    (a__law_odd_item : PySem.W.nsIn K mainGlobals "_law_odd_item" = some (some (.ref f__law_odd_item)))
    (l__law_odd_item : K.lookup f__law_odd_item = some ⟨oc__law_odd_item, od__law_odd_item, .func (PySem.W.fnOf "_law_odd_item" "_law_odd_item" (defArgs s__law_odd_item) (defBody s__law_odd_item) (defScope s__law_odd_item) .none kV__law_odd_item dc__law_odd_item pm__law_odd_item an__law_odd_item cd__law_odd_item ct__law_odd_item), sl__law_odd_item⟩)
    (c__law_odd_item : PySem.W.codeIn K cd__law_odd_item "_law_odd_item" = true) (k__law_odd_item : PySem.W.keepIn K (.ref f__law_odd_item) = true)
    {f__law_bent : Addr} {oc__law_bent kV__law_bent dc__law_bent pm__law_bent cd__law_bent ct__law_bent : Value} {od__law_bent an__law_bent : Option Addr} {sl__law_bent : Array (Option Value)}
    (a__law_bent : PySem.W.nsIn K mainGlobals "_law_bent" = some (some (.ref f__law_bent)))
    (l__law_bent : K.lookup f__law_bent = some ⟨oc__law_bent, od__law_bent, .func (PySem.W.fnOf "_law_bent" "_law_bent" (defArgs s__law_bent) (defBody s__law_bent) (defScope s__law_bent) .none kV__law_bent dc__law_bent pm__law_bent an__law_bent cd__law_bent ct__law_bent), sl__law_bent⟩)
    (c__law_bent : PySem.W.codeIn K cd__law_bent "_law_bent" = true) (k__law_bent : PySem.W.keepIn K (.ref f__law_bent) = true)
    {f__law_bent_more : Addr} {oc__law_bent_more kV__law_bent_more dc__law_bent_more pm__law_bent_more cd__law_bent_more ct__law_bent_more : Value} {od__law_bent_more an__law_bent_more : Option Addr} {sl__law_bent_more : Array (Option Value)}
    (a__law_bent_more : PySem.W.nsIn K mainGlobals "_law_bent_more" = some (some (.ref f__law_bent_more)))
    (l__law_bent_more : K.lookup f__law_bent_more = some ⟨oc__law_bent_more, od__law_bent_more, .func (PySem.W.fnOf "_law_bent_more" "_law_bent_more" (defArgs s__law_bent_more) (defBody s__law_bent_more) (defScope s__law_bent_more) .none kV__law_bent_more dc__law_bent_more pm__law_bent_more an__law_bent_more cd__law_bent_more ct__law_bent_more), sl__law_bent_more⟩)
    (c__law_bent_more : PySem.W.codeIn K cd__law_bent_more "_law_bent_more" = true) (k__law_bent_more : PySem.W.keepIn K (.ref f__law_bent_more) = true)
    {f__law_many : Addr} {oc__law_many kV__law_many dc__law_many pm__law_many cd__law_many ct__law_many : Value} {od__law_many an__law_many : Option Addr} {sl__law_many : Array (Option Value)}
    (a__law_many : PySem.W.nsIn K mainGlobals "_law_many" = some (some (.ref f__law_many)))
    (l__law_many : K.lookup f__law_many = some ⟨oc__law_many, od__law_many, .func (PySem.W.fnOf "_law_many" "_law_many" (defArgs s__law_many) (defBody s__law_many) (defScope s__law_many) .none kV__law_many dc__law_many pm__law_many an__law_many cd__law_many ct__law_many), sl__law_many⟩)
    (c__law_many : PySem.W.codeIn K cd__law_many "_law_many" = true) (k__law_many : PySem.W.keepIn K (.ref f__law_many) = true)
    {f_law : Addr} {oc_law kV_law dc_law pm_law cd_law ct_law : Value} {od_law an_law : Option Addr} {sl_law : Array (Option Value)}
    (a_law : PySem.W.nsIn K mainGlobals "law" = some (some (.ref f_law)))
    (l_law : K.lookup f_law = some ⟨oc_law, od_law, .func (PySem.W.fnOf "law" "law" (defArgs s_law) (defBody s_law) (defScope s_law) .none kV_law dc_law pm_law an_law cd_law ct_law), sl_law⟩)
    (c_law : PySem.W.codeIn K cd_law "law" = true) (k_law : PySem.W.keepIn K (.ref f_law) = true) :
    FnM P w K mg base CX0 5 "law" s_law ["script"] m_law := by
  have T : Top mg K := ⟨PySem.W.mg_none_of X G z_abs, PySem.W.mg_none_of X G z_bool, PySem.W.mg_none_of X G z_enumerate, PySem.W.mg_none_of X G z_int, PySem.W.mg_none_of X G z_isinstance, PySem.W.mg_none_of X G z_len, PySem.W.mg_none_of X G z_list, PySem.W.mg_none_of X G z_range, PySem.W.mg_none_of X G z_repr, PySem.W.mg_none_of X G z_str, PySem.W.mg_none_of X G z_tuple, ⟨_, PySem.W.mg_of X G y_ALWAYS_ON, fun H ρ => (rep_ktup q_ALWAYS_ON (Nat.le_of_ble_eq_true rfl) (kv_int (kv_ref (rep_ktup q_ALWAYS_ON_1 (Nat.le_of_ble_eq_true rfl) kv_nil) (kv_int kv_nil))))⟩, ⟨_, PySem.W.mg_of X G y_MAX_BURSTS⟩, ⟨_, PySem.W.mg_of X G y_MAX_NUMBER⟩⟩
  have F_is_integer : FnM P w K mg base CX0 1 "is_integer" s_is_integer ["value"] m_is_integer := ok_is_integer T  (fun_mk (st := s_is_integer) l_is_integer c_is_integer k_is_integer) (PySem.W.mg_of X G a_is_integer)
  have F_is_number : FnM P w K mg base CX0 2 "is_number" s_is_number ["value"] m_is_number := ok_is_number T F_is_integer (fun_mk (st := s_is_number) l_is_number c_is_number k_is_number) (PySem.W.mg_of X G a_is_number)
  have F_is_burst : FnM P w K mg base CX0 3 "is_burst" s_is_burst ["value"] m_is_burst := ok_is_burst T F_is_number (fun_mk (st := s_is_burst) l_is_burst c_is_burst k_is_burst) (PySem.W.mg_of X G a_is_burst)
  have F_end_of : FnM P w K mg base CX0 1 "end_of" s_end_of ["burst"] m_end_of := ok_end_of T  (fun_mk (st := s_end_of) l_end_of c_end_of k_end_of) (PySem.W.mg_of X G a_end_of)
  have F_takes_on : FnM P w K mg base CX0 2 "takes_on" s_takes_on ["burst", "further"] m_takes_on := ok_takes_on T F_end_of (fun_mk (st := s_takes_on) l_takes_on c_takes_on k_takes_on) (PySem.W.mg_of X G a_takes_on)
  have F_order_error : FnM P w K mg base CX0 2 "order_error" s_order_error ["until", "bursts"] m_order_error := ok_order_error T F_end_of (fun_mk (st := s_order_error) l_order_error c_order_error k_order_error) (PySem.W.mg_of X G a_order_error)
  have F_ends_of : FnM P w K mg base CX0 2 "ends_of" s_ends_of ["value"] m_ends_of := ok_ends_of T F_end_of (fun_mk (st := s_ends_of) l_ends_of c_ends_of k_ends_of) (PySem.W.mg_of X G a_ends_of)
  have F_signal_error : FnM P w K mg base CX0 4 "signal_error" s_signal_error ["value"] m_signal_error := ok_signal_error T F_is_number F_is_burst F_order_error F_ends_of F_takes_on (fun_mk (st := s_signal_error) l_signal_error c_signal_error k_signal_error) (PySem.W.mg_of X G a_signal_error)
  have F__law_deck : FnM P w K mg base CX0 1 "_law_deck" s__law_deck ["script"] m__law_deck := ok__law_deck T  (fun_mk (st := s__law_deck) l__law_deck c__law_deck k__law_deck) (PySem.W.mg_of X G a__law_deck)
  have F__law_draw : FnM P w K mg base CX0 1 "_law_draw" s__law_draw ["deck", "many"] m__law_draw := ok__law_draw T  (fun_mk (st := s__law_draw) l__law_draw c__law_draw k__law_draw) (PySem.W.mg_of X G a__law_draw)
  have F__law_pick : FnM P w K mg base CX0 2 "_law_pick" s__law_pick ["deck", "some"] m__law_pick := ok__law_pick T F__law_draw (fun_mk (st := s__law_pick) l__law_pick c__law_pick k__law_pick) (PySem.W.mg_of X G a__law_pick)
  have F__law_grouped : FnM P w K mg base CX0 1 "_law_grouped" s__law_grouped ["until", "runs", "since"] m__law_grouped := ok__law_grouped T  (fun_mk (st := s__law_grouped) l__law_grouped c__law_grouped k__law_grouped) (PySem.W.mg_of X G a__law_grouped)
  have F__law_row_of_runs : FnM P w K mg base CX0 2 "_law_row_of_runs" s__law_row_of_runs ["deck", "begin", "many", "most"] m__law_row_of_runs := ok__law_row_of_runs T F__law_draw (fun_mk (st := s__law_row_of_runs) l__law_row_of_runs c__law_row_of_runs k__law_row_of_runs) (PySem.W.mg_of X G a__law_row_of_runs)
  have F__law_signal : FnM P w K mg base CX0 3 "_law_signal" s__law_signal ["deck", "many", "most"] m__law_signal := ok__law_signal T F__law_draw F__law_pick F__law_row_of_runs F__law_grouped (fun_mk (st := s__law_signal) l__law_signal c__law_signal k__law_signal) (PySem.W.mg_of X G a__law_signal)
  have F__law_great : FnM P w K mg base CX0 1 "_law_great" s__law_great ["deck", "signal", "by", "far"] m__law_great := ok__law_great T  (fun_mk (st := s__law_great) l__law_great c__law_great k__law_great) (PySem.W.mg_of X G a__law_great)
  have F__law_is_number : FnM P w K mg base CX0 1 "_law_is_number" s__law_is_number ["thing"] m__law_is_number := ok__law_is_number T  (fun_mk (st := s__law_is_number) l__law_is_number c__law_is_number k__law_is_number) (PySem.W.mg_of X G a__law_is_number)
  have F__law_is_burst : FnM P w K mg base CX0 2 "_law_is_burst" s__law_is_burst ["thing"] m__law_is_burst := ok__law_is_burst T F__law_is_number (fun_mk (st := s__law_is_burst) l__law_is_burst c__law_is_burst k__law_is_burst) (PySem.W.mg_of X G a__law_is_burst)
  have F__law_is_formed : FnM P w K mg base CX0 2 "_law_is_formed" s__law_is_formed ["thing"] m__law_is_formed := ok__law_is_formed T F__law_is_number (fun_mk (st := s__law_is_formed) l__law_is_formed c__law_is_formed k__law_is_formed) (PySem.W.mg_of X G a__law_is_formed)
  have F__law_due : FnM P w K mg base CX0 3 "_law_due" s__law_due ["thing"] m__law_due := ok__law_due T F__law_is_formed F__law_is_burst (fun_mk (st := s__law_due) l__law_due c__law_due k__law_due) (PySem.W.mg_of X G a__law_due)
  have F__law_odd_item : FnM P w K mg base CX0 3 "_law_odd_item" s__law_odd_item ["deck", "item"] m__law_odd_item := ok__law_odd_item T F__law_pick (fun_mk (st := s__law_odd_item) l__law_odd_item c__law_odd_item k__law_odd_item) (PySem.W.mg_of X G a__law_odd_item)
  have F__law_bent : FnM P w K mg base CX0 4 "_law_bent" s__law_bent ["deck", "signal"] m__law_bent := ok__law_bent T F__law_draw F__law_pick F__law_odd_item (fun_mk (st := s__law_bent) l__law_bent c__law_bent k__law_bent) (PySem.W.mg_of X G a__law_bent)
  have F__law_bent_more : FnM P w K mg base CX0 3 "_law_bent_more" s__law_bent_more ["deck", "signal"] m__law_bent_more := ok__law_bent_more T F__law_draw F__law_pick (fun_mk (st := s__law_bent_more) l__law_bent_more c__law_bent_more k__law_bent_more) (PySem.W.mg_of X G a__law_bent_more)
  have F__law_many : FnM P w K mg base CX0 2 "_law_many" s__law_many ["deck"] m__law_many := ok__law_many T F__law_draw F__law_grouped (fun_mk (st := s__law_many) l__law_many c__law_many k__law_many) (PySem.W.mg_of X G a__law_many)
  have F_law : FnM P w K mg base CX0 5 "law" s_law ["script"] m_law := ok_law T F__law_deck F__law_signal F__law_draw F__law_pick F__law_great F_signal_error F__law_due F__law_bent_more F__law_bent F__law_many (fun_mk (st := s_law) l_law c_law k_law) (PySem.W.mg_of X G a_law)
  exact F_law
end Law
end
section
set_option autoImplicit false
namespace Law
open PySem PL
inductive Part | turn | on (k : Int) | off (k : Int) | delay (k : Int)
def Part.pv : Part → PV
  | .turn => .tup [.str "turn"]
  | .on k => .tup [.str "on", .int k]
  | .off k => .tup [.str "off", .int k]
  | .delay k => .tup [.str "delay", .int k]
def Part.up (t : Bool) : Part → Int
  | .on k => if t then -k else k
  | .off k => if t then k else -k
  | _ => 0
def Part.flip (t : Bool) : Part → Bool
  | .turn => !t
  | _ => t
abbrev pvs (row : List Part) : PV := .tup (row.map Part.pv)
/-- moves: the ticks of each part, whether it is turned -/
def mvStep (s : List Int × Bool) (p : Part) : List Int × Bool := (s.1 ++ [p.up (p.flip s.2)], p.flip s.2)
def mvs (row : List Part) : List Int × Bool := row.foldl mvStep ([], false)
theorem mvs_len (row : List Part) : ∀ s, (row.foldl mvStep s).1.length = s.1.length + row.length := by
  induction row with
  | nil => intro s; simp
  | cons p ps ih => intro s; simp [ih, mvStep]; omega
/-- heights -/
def htStep (s : List Int × Int) (m : Int) : List Int × Int := (s.1 ++ [s.2 + m], s.2 + m)
def hts (ms : List Int) : List Int := (ms.foldl htStep ([], 0)).1
theorem hts_len (ms : List Int) : ∀ s, (ms.foldl htStep s).1.length = s.1.length + ms.length := by
  induction ms with
  | nil => intro s; simp
  | cons p ps ih => intro s; simp [ih, htStep]; omega
/-- stages: drop true, fill false -/
abbrev Sg := Bool × Int
def Sg.pv (s : Sg) : PV := .tup [.str (if s.1 then "drop" else "fill" : String), .int s.2]
def ws (f : List Sg) (b : Bool) (n : Int) : List Sg := (if f.getLast?.map (·.1) = some b then f.dropLast else f) ++ [(b, n)]
theorem Sg_sm (s : Sg) (h : sml s.2) : (Sg.pv s).pd.sm = true := by
  have := log_sml h
  rcases s with ⟨b, n⟩
  cases b <;> simp [Sg.pv] <;> exact ⟨⟨by decide +kernel, by decide +kernel⟩, this⟩
theorem Sg_data (s : Sg) : (Sg.pv s).data = true := by simp [Sg.pv]
theorem Sg_dp (s : Sg) : (Sg.pv s).pd.depth = 1 := by simp [Sg.pv]
theorem Sg_wt (s : Sg) : (Sg.pv s).pd.wt = 3 := by simp [Sg.pv]
/-- stages beyond so high, so deep -/
structure SS where
  hi : Int
  de : Int
  st : List Sg
def stg (s : SS) (h : Int) : SS := if h > s.hi then ⟨h, s.de, ws s.st true h⟩ else if -h > s.de then ⟨s.hi, -h, ws s.st false (-h)⟩ else s
theorem ws_len (f : List Sg) (b : Bool) (n : Int) : (ws f b n).length ≤ f.length + 1 := by
  unfold ws; split <;> simp
theorem ws_mem {f : List Sg} {b : Bool} {n : Int} {s : Sg} (h : s ∈ ws f b n) : s ∈ f ∨ s = (b, n) := by
  unfold ws at h
  rw [List.mem_append] at h
  rcases h with h | h
  · left
    split at h
    · exact List.dropLast_subset _ h
    · exact h
  · right; simpa using h
theorem stg_fold (hs : List Int) : ∀ s : SS, (∀ h ∈ hs, sml h) → (∀ x ∈ s.st, sml x.2) → (hs.foldl stg s).st.length ≤ s.st.length + hs.length ∧ ∀ x ∈ (hs.foldl stg s).st, sml x.2 := by
  induction hs with
  | nil => intro s _ h; exact ⟨by simp, h⟩
  | cons h hs ih =>
    intro s h1 h2
    have h0 := h1 h List.mem_cons_self
    have step : (stg s h).st.length ≤ s.st.length + 1 ∧ ∀ x ∈ (stg s h).st, sml x.2 := by
      unfold stg
      split
      · refine ⟨ws_len _ _ _, fun x hx => ?_⟩
        rcases ws_mem hx with hx | rfl
        · exact h2 x hx
        · exact h0
      · split
        · refine ⟨ws_len _ _ _, fun x hx => ?_⟩
          rcases ws_mem hx with hx | rfl
          · exact h2 x hx
          · show (-h).natAbs < _; rw [Int.natAbs_neg]; exact h0
        · exact ⟨by omega, h2⟩
    obtain ⟨a, b⟩ := ih (stg s h) (fun x hx => h1 x (List.mem_cons_of_mem _ hx)) step.2
    exact ⟨by simp only [List.foldl_cons, List.length_cons]; omega, b⟩
abbrev stgs (row : List Part) (hi de : Int) : SS := (hts (mvs row).1).foldl stg ⟨hi, de, []⟩
theorem hts_len0 (ms : List Int) : (hts ms).length = ms.length := by unfold hts; rw [hts_len]; simp
theorem mvs_len0 (row : List Part) : (mvs row).1.length = row.length := by unfold mvs; rw [mvs_len]; simp
def Part.dl : Part → Option Int
  | .delay k => some k
  | _ => none
/-- late on, late off -/
def lateOn (row : List Part) : Int := (row.filterMap Part.dl).sum + ((mvs row).1.filter (· > 0)).sum
def lateOff (row : List Part) : Int := (row.filterMap Part.dl).sum - ((mvs row).1.filter (· < 0)).sum
def formP (row : List Part) (hi de : Int) : PV := .tup [.bl (mvs row).2, .int (lateOn row), .int (lateOff row), .tup ((stgs row hi de).st.map Sg.pv)]
def Part.num : Part → Int
  | .turn => 0
  | .on k => k
  | .off k => k
  | .delay k => k
def Part.ok (B : Int) (p : Part) : Prop := 0 ≤ p.num ∧ p.num ≤ B
structure W where
  at_ : Int
  hi : Int
  lo : Int
  l0 : Int
  l1 : Int
  t : Bool
  st : List Sg
def W.mv (s : W) : Part → W
  | .turn => { s with t := !s.t }
  | .delay k => { s with l0 := s.l0 + k, l1 := s.l1 + k }
  | .on k => if s.t then { s with at_ := s.at_ - k, l1 := s.l1 + k } else { s with at_ := s.at_ + k, l0 := s.l0 + k }
  | .off k => if s.t then { s with at_ := s.at_ + k, l0 := s.l0 + k } else { s with at_ := s.at_ - k, l1 := s.l1 + k }
def W.upH (s : W) : W := if s.at_ > s.hi then { s with hi := s.at_, st := ws s.st true s.at_ } else s
def W.upL (s : W) : W := if s.at_ < s.lo then { s with lo := s.at_, st := ws s.st false (-s.at_) } else s
def wk (s : W) (p : Part) : W := (s.mv p).upH.upL
structure W.ok (b : Nat) (n : Nat) (s : W) : Prop where
  at_ : s.at_.natAbs ≤ b
  st : ∀ x ∈ s.st, x.2.natAbs ≤ b
  len : s.st.length ≤ n
theorem mv_ok {b n : Nat} {B : Nat} {s : W} {p : Part} (h : s.ok b n) (hp : p.ok B) : (s.mv p).ok (b + B) n := by
  have ha := h.at_
  have hs : ∀ x ∈ s.st, x.2.natAbs ≤ b + B := fun x hx => by have := h.st x hx; omega
  have h1 := hp.1
  have h2 := hp.2
  cases p with
  | turn => exact ⟨by simp [W.mv]; omega, hs, h.len⟩
  | delay k => exact ⟨by simp [W.mv]; omega, hs, h.len⟩
  | on k =>
    simp only [Part.num] at h1 h2
    simp only [W.mv]
    split <;> exact ⟨by simp; omega, hs, h.len⟩
  | off k =>
    simp only [Part.num] at h1 h2
    simp only [W.mv]
    split <;> exact ⟨by simp; omega, hs, h.len⟩
theorem upH_ok {b n : Nat} {s : W} (h : s.ok b n) : s.upH.ok b (n + 1) := by
  unfold W.upH
  split
  · exact ⟨h.at_, fun x hx => by
      rcases ws_mem hx with hx | rfl
      · exact h.st x hx
      · exact h.at_, by have := ws_len s.st true s.at_; have := h.len; simp; omega⟩
  · exact ⟨h.at_, h.st, by have := h.len; omega⟩
theorem upL_ok {b n : Nat} {s : W} (h : s.ok b n) : s.upL.ok b (n + 1) := by
  unfold W.upL
  split
  · exact ⟨h.at_, fun x hx => by
      rcases ws_mem hx with hx | rfl
      · exact h.st x hx
      · show (-s.at_).natAbs ≤ b; rw [Int.natAbs_neg]; exact h.at_, by have := ws_len s.st false (-s.at_); have := h.len; simp; omega⟩
  · exact ⟨h.at_, h.st, by have := h.len; omega⟩
theorem wk_ok {b n : Nat} {B : Nat} {s : W} {p : Part} (h : s.ok b n) (hp : p.ok B) : (wk s p).ok (b + B) (n + 2) := upL_ok (upH_ok (mv_ok h hp))
def W0 : W := ⟨0, 0, 0, 0, 0, false, []⟩
abbrev wks (row : List Part) : W := row.foldl wk W0
theorem wks_ok {B : Nat} (row : List Part) (h : ∀ p ∈ row, p.ok B) : ∀ (s : W) (b n : Nat), s.ok b n → (row.foldl wk s).ok (b + B * row.length) (n + 2 * row.length) := by
  induction row with
  | nil => intro s b n h; simpa using h
  | cons p ps ih =>
    intro s b n hs
    have := ih (fun q hq => h q (List.mem_cons_of_mem _ hq)) _ _ _ (wk_ok hs (h p List.mem_cons_self))
    simp only [List.foldl_cons, List.length_cons, Nat.mul_add, Nat.mul_one]
    have e1 : b + B + B * ps.length = b + (B * ps.length + B) := by omega
    have e2 : n + 2 + 2 * ps.length = n + (2 * ps.length + 2) := by omega
    rw [e1, e2] at this
    exact this
def Wfd (row : List Part) (i : Nat) : List Int := (List.range i).map fun j => (wks (row.take (j + 1))).at_
def foundL (row : List Part) : List Int := Wfd row row.length
def shapeP (s : W) : PV := .tup [.bl s.t, .int s.l0, .int s.l1, .tup (s.st.map Sg.pv)]
theorem wks_snoc (l : List Part) (x : Part) : wks (l ++ [x]) = wk (wks l) x := by unfold wks; rw [List.foldl_append]; rfl
theorem Wfd_snoc (row : List Part) (i : Nat) (x : Part) (hx : row[i]? = some x) : Wfd row (i + 1) = Wfd row i ++ [(wk (wks (row.take i)) x).at_] := by
  unfold Wfd
  rw [List.range_succ, List.map_append]
  simp only [List.map_cons, List.map_nil]
  rw [take_succ' hx, wks_snoc]
/-! the walk in single ticks -/
structure W.inv (s : W) : Prop where
  h : s.at_ ≤ s.hi
  l : s.lo ≤ s.at_
theorem W0_inv : W0.inv := ⟨by simp [W0], by simp [W0]⟩
theorem upHL_inv (s : W) : s.upH.upL.inv := by
  have h1 : s.upH.at_ ≤ s.upH.hi := by
    unfold W.upH
    by_cases c : s.at_ > s.hi
    · rw [if_pos c]; exact Int.le_refl _
    · rw [if_neg c]; omega
  generalize s.upH = z at *
  unfold W.upL
  by_cases c : z.at_ < z.lo
  · rw [if_pos c]; exact ⟨h1, Int.le_refl _⟩
  · rw [if_neg c]; exact ⟨h1, by omega⟩
theorem wk_inv (s : W) (p : Part) : (wk s p).inv := upHL_inv _
theorem up_noop {s : W} (h : s.inv) : s.upH.upL = s := by
  have := h.h
  have := h.l
  have e1 : s.upH = s := by unfold W.upH; rw [if_neg (by omega)]
  rw [e1]; unfold W.upL; rw [if_neg (by omega)]
theorem ws_ws (f : List Sg) (b : Bool) (x y : Int) : ws (ws f b x) b y = ws f b y := by
  unfold ws
  simp
def W.U (s : W) (k : Int) : W := if s.at_ + k > s.hi then { s with at_ := s.at_ + k, l0 := s.l0 + k, hi := s.at_ + k, st := ws s.st true (s.at_ + k) } else { s with at_ := s.at_ + k, l0 := s.l0 + k }
def W.D (s : W) (k : Int) : W := if s.at_ - k < s.lo then { s with at_ := s.at_ - k, l1 := s.l1 + k, lo := s.at_ - k, st := ws s.st false (-(s.at_ - k)) } else { s with at_ := s.at_ - k, l1 := s.l1 + k }
theorem U_eq {s : W} (h : s.inv) {k : Int} (hk : 0 ≤ k) : ({ s with at_ := s.at_ + k, l0 := s.l0 + k } : W).upH.upL = s.U k := by
  have h1 := h.h
  have h2 := h.l
  unfold W.upH W.upL W.U
  by_cases c : s.at_ + k > s.hi <;> simp [c] <;> omega
theorem D_eq {s : W} (h : s.inv) {k : Int} (hk : 0 ≤ k) : ({ s with at_ := s.at_ - k, l1 := s.l1 + k } : W).upH.upL = s.D k := by
  have h1 := h.h
  have h2 := h.l
  have c1 : ¬ (s.at_ - k > s.hi) := by omega
  unfold W.upH W.upL W.D
  by_cases c : s.at_ - k < s.lo <;> simp [c, c1]
theorem U_inv {s : W} (h : s.inv) {k : Int} (hk : 0 ≤ k) : (s.U k).inv := by rw [← U_eq h hk]; exact upHL_inv _
theorem D_inv {s : W} (h : s.inv) {k : Int} (hk : 0 ≤ k) : (s.D k).inv := by rw [← D_eq h hk]; exact upHL_inv _
theorem U_add (s : W) {a b : Int} (ha : 0 ≤ a) (hb : 0 ≤ b) : (s.U a).U b = s.U (a + b) := by
  unfold W.U
  by_cases c1 : s.at_ + a > s.hi
  · have c3 : s.at_ + (a + b) > s.hi := by omega
    by_cases c2 : b > 0
    · have c4 : s.at_ + (a + b) > s.at_ + a := by omega
      simp only [if_pos c1, if_pos c3, if_pos c4, ws_ws, Int.add_assoc]
    · have e : b = 0 := by omega
      subst e
      simp [c1]
  · by_cases c2 : s.at_ + (a + b) > s.hi
    · simp only [if_neg c1, if_pos c2, Int.add_assoc]
    · simp only [if_neg c1, if_neg c2, Int.add_assoc]
theorem D_add (s : W) {a b : Int} (ha : 0 ≤ a) (hb : 0 ≤ b) : (s.D a).D b = s.D (a + b) := by
  have e0 : s.at_ - a - b = s.at_ - (a + b) := by omega
  unfold W.D
  by_cases c1 : s.at_ - a < s.lo
  · have c3 : s.at_ - (a + b) < s.lo := by omega
    by_cases c2 : b > 0
    · have c4 : s.at_ - (a + b) < s.at_ - a := by omega
      simp only [if_pos c1, if_pos c3, if_pos c4, ws_ws, Int.add_assoc, e0]
    · have e : b = 0 := by omega
      subst e
      simp [c1]
  · by_cases c2 : s.at_ - (a + b) < s.lo
    · simp only [if_neg c1, if_pos c2, Int.add_assoc, e0]
    · simp only [if_neg c1, if_neg c2, Int.add_assoc, e0]
theorem U_zero {s : W} (h : s.inv) : s.U 0 = s := by
  have := h.h
  unfold W.U
  rw [if_neg (by omega)]; simp
theorem D_zero {s : W} (h : s.inv) : s.D 0 = s := by
  have := h.l
  unfold W.D
  rw [if_neg (by omega)]; simp
theorem U_t (s : W) (k : Int) : (s.U k).t = s.t := by unfold W.U; split <;> rfl
theorem D_t (s : W) (k : Int) : (s.D k).t = s.t := by unfold W.D; split <;> rfl
theorem wk_on {s : W} (h : s.inv) {k : Int} (hk : 0 ≤ k) : wk s (.on k) = if s.t then s.D k else s.U k := by
  simp only [wk, W.mv]
  by_cases ht : s.t = true
  · rw [if_pos ht, if_pos ht]; exact D_eq h hk
  · rw [if_neg ht, if_neg ht]; exact U_eq h hk
theorem wk_off {s : W} (h : s.inv) {k : Int} (hk : 0 ≤ k) : wk s (.off k) = if s.t then s.U k else s.D k := by
  simp only [wk, W.mv]
  by_cases ht : s.t = true
  · rw [if_pos ht, if_pos ht]; exact U_eq h hk
  · rw [if_neg ht, if_neg ht]; exact D_eq h hk
theorem wk_turn {s : W} (h : s.inv) : wk s .turn = { s with t := !s.t } := up_noop (s := { s with t := !s.t }) ⟨h.h, h.l⟩
theorem wk_delay {s : W} (h : s.inv) (k : Int) : wk s (.delay k) = { s with l0 := s.l0 + k, l1 := s.l1 + k } := up_noop (s := { s with l0 := s.l0 + k, l1 := s.l1 + k }) ⟨h.h, h.l⟩
/-- a part in ticks -/
def ticks : Part → List Part
  | .turn => [.turn]
  | .on k => List.replicate k.toNat (.on 1) ++ [.on 0]
  | .off k => List.replicate k.toNat (.off 1) ++ [.off 0]
  | .delay k => List.replicate k.toNat (.delay 1) ++ [.delay 0]
theorem reps (mk : Int → Part) (hadd : ∀ (s : W) (a b : Int), s.inv → 0 ≤ a → 0 ≤ b → wk (wk s (mk a)) (mk b) = wk s (mk (a + b))) (h0 : ∀ s : W, s.inv → wk s (mk 0) = s) (n : Nat) :
    ∀ s : W, s.inv → (List.replicate n (mk 1)).foldl wk s = wk s (mk n) := by
  induction n with
  | zero => intro s hs; simp [h0 s hs]
  | succ n ih =>
    intro s hs
    rw [List.replicate_succ, List.foldl_cons, ih _ (wk_inv _ _), hadd s 1 n hs (by omega) (by omega)]
    congr 2
    omega
theorem on_add (s : W) (a b : Int) (hs : s.inv) (ha : 0 ≤ a) (hb : 0 ≤ b) : wk (wk s (.on a)) (.on b) = wk s (.on (a + b)) := by
  rw [wk_on (wk_inv _ _) hb, wk_on hs ha, wk_on hs (by omega)]
  cases ht : s.t <;> simp [U_t, D_t, ht, U_add s ha hb, D_add s ha hb]
theorem off_add (s : W) (a b : Int) (hs : s.inv) (ha : 0 ≤ a) (hb : 0 ≤ b) : wk (wk s (.off a)) (.off b) = wk s (.off (a + b)) := by
  rw [wk_off (wk_inv _ _) hb, wk_off hs ha, wk_off hs (by omega)]
  cases ht : s.t <;> simp [U_t, D_t, ht, U_add s ha hb, D_add s ha hb]
theorem delay_add (s : W) (a b : Int) (hs : s.inv) : wk (wk s (.delay a)) (.delay b) = wk s (.delay (a + b)) := by
  rw [wk_delay (wk_inv _ _) b, wk_delay hs a, wk_delay hs]
  simp [Int.add_assoc]
theorem ticks_eq {s : W} (hs : s.inv) {p : Part} (hp : 0 ≤ p.num) : (ticks p).foldl wk s = wk s p := by
  cases p with
  | turn => rfl
  | on k =>
    simp only [Part.num] at hp
    have e : ((k.toNat : Nat) : Int) = k := by omega
    rw [ticks, List.foldl_append, reps .on on_add (fun s h => by rw [wk_on h (by omega)]; cases ht : s.t <;> simp [U_zero h, D_zero h]) _ s hs, e]
    simp only [List.foldl_cons, List.foldl_nil]
    rw [on_add s k 0 hs hp (by omega)]; simp
  | off k =>
    simp only [Part.num] at hp
    have e : ((k.toNat : Nat) : Int) = k := by omega
    rw [ticks, List.foldl_append, reps .off off_add (fun s h => by rw [wk_off h (by omega)]; cases ht : s.t <;> simp [U_zero h, D_zero h]) _ s hs, e]
    simp only [List.foldl_cons, List.foldl_nil]
    rw [off_add s k 0 hs hp (by omega)]; simp
  | delay k =>
    simp only [Part.num] at hp
    have e : ((k.toNat : Nat) : Int) = k := by omega
    rw [ticks, List.foldl_append, reps .delay (fun s a b h _ _ => delay_add s a b h) (fun s h => by rw [wk_delay h]; simp) _ s hs, e]
    simp only [List.foldl_cons, List.foldl_nil]
    rw [delay_add s k 0 hs]; simp
def ticksL (row : List Part) : List Part := row.flatMap ticks
theorem fold_inv (row : List Part) : ∀ s : W, s.inv → (row.foldl wk s).inv := by
  induction row with
  | nil => intro s h; exact h
  | cons p ps ih => intro s h; exact ih _ (wk_inv _ _)
theorem ticksL_eq (row : List Part) (h : ∀ p ∈ row, 0 ≤ p.num) : ∀ s : W, s.inv → (ticksL row).foldl wk s = row.foldl wk s := by
  induction row with
  | nil => intro s _; rfl
  | cons p ps ih =>
    intro s hs
    unfold ticksL at *
    rw [List.flatMap_cons, List.foldl_append, ticks_eq hs (h p List.mem_cons_self)]
    exact ih (fun q hq => h q (List.mem_cons_of_mem _ hq)) _ (wk_inv _ _)
/-! straight rows -/
def stStep (s : List Part × Bool) (p : Part) : List Part × Bool := match p with
  | .turn => (s.1, !s.2)
  | .delay k => (s.1 ++ [.delay k], s.2)
  | .on k => (s.1 ++ [if s.2 then .off k else .on k], s.2)
  | .off k => (s.1 ++ [if s.2 then .on k else .off k], s.2)
def strt (row : List Part) : List Part × Bool := row.foldl stStep ([], false)
def W.core (s : W) : W := { s with t := false }
theorem core_inv {s : W} (h : s.inv) : s.core.inv := ⟨h.h, h.l⟩
theorem core_U (s : W) (k : Int) : (s.U k).core = s.core.U k := by
  unfold W.U W.core; by_cases c : s.at_ + k > s.hi <;> simp [c]
theorem core_D (s : W) (k : Int) : (s.D k).core = s.core.D k := by
  unfold W.D W.core; by_cases c : s.at_ - k < s.lo <;> simp [c]
theorem strs_eq (row : List Part) (h : ∀ p ∈ row, 0 ≤ p.num) : ∀ (s : W) (z : List Part × Bool), s.inv → wks z.1 = s.core → z.2 = s.t → wks (row.foldl stStep z).1 = (row.foldl wk s).core ∧ (row.foldl stStep z).2 = (row.foldl wk s).t := by
  induction row with
  | nil => intro s z _ h1 h2; exact ⟨h1, h2⟩
  | cons p ps ih =>
    intro s z hs h1 h2
    rw [List.foldl_cons, List.foldl_cons]
    refine ih (fun q hq => h q (List.mem_cons_of_mem _ hq)) _ _ (wk_inv _ _) ?_ ?_
    · have hp := h p List.mem_cons_self
      cases p with
      | turn => rw [wk_turn hs]; exact h1
      | delay k => simp only [stStep]; rw [wks_snoc, h1, wk_delay hs, wk_delay (core_inv hs)]; rfl
      | on k =>
        simp only [stStep]
        simp only [Part.num] at hp
        rw [wks_snoc, h1, h2, wk_on hs hp]
        cases ht : s.t
        · simp only [Bool.false_eq_true, if_false]; rw [wk_on (core_inv hs) hp, core_U]; rfl
        · simp only [if_true]; rw [wk_off (core_inv hs) hp, core_D]; rfl
      | off k =>
        simp only [stStep]
        simp only [Part.num] at hp
        rw [wks_snoc, h1, h2, wk_off hs hp]
        cases ht : s.t
        · simp only [Bool.false_eq_true, if_false]; rw [wk_off (core_inv hs) hp, core_D]; rfl
        · simp only [if_true]; rw [wk_on (core_inv hs) hp, core_U]; rfl
    · have hp := h p List.mem_cons_self
      cases p with
      | turn => rw [wk_turn hs]; simp [stStep, h2]
      | delay k => rw [wk_delay hs]; simp [stStep, h2]
      | on k => simp only [Part.num] at hp; rw [wk_on hs hp]; cases ht : s.t <;> simp [stStep, h2, U_t, D_t, ht]
      | off k => simp only [Part.num] at hp; rw [wk_off hs hp]; cases ht : s.t <;> simp [stStep, h2, U_t, D_t, ht]
/-! the program's form is the walk's -/
theorem mvs_snoc (l : List Part) (p : Part) : mvs (l ++ [p]) = ((mvs l).1 ++ [p.up (p.flip (mvs l).2)], p.flip (mvs l).2) := by
  unfold mvs; rw [List.foldl_append]; rfl
theorem hts_snoc (l : List Int) (x : Int) : hts (l ++ [x]) = hts l ++ [(l.foldl htStep ([], 0)).2 + x] := by
  unfold hts; rw [List.foldl_append]; rfl
theorem hts_last (l : List Int) (x : Int) : ((l ++ [x]).foldl htStep ([], 0)).2 = (l.foldl htStep ([], 0)).2 + x := by
  rw [List.foldl_append]; rfl
structure Same (row : List Part) (s : W) : Prop where
  t : (mvs row).2 = s.t
  a : ((mvs row).1.foldl htStep ([], 0)).2 = s.at_
  st : (hts (mvs row).1).foldl stg ⟨0, 0, []⟩ = ⟨s.hi, -s.lo, s.st⟩
  on : lateOn row = s.l0
  off : lateOff row = s.l1
theorem dls_snoc (l : List Part) (p : Part) : ((l ++ [p]).filterMap Part.dl).sum = (l.filterMap Part.dl).sum + (p.dl.getD 0) := by
  rw [List.filterMap_append]
  cases p <;> simp [Part.dl, List.filterMap_cons]
theorem pos_snoc (l : List Int) (x : Int) : ((l ++ [x]).filter (· > 0)).sum = (l.filter (· > 0)).sum + (if x > 0 then x else 0) := by
  rw [List.filter_append]
  by_cases h : x > 0 <;> simp [h]
theorem neg_snoc (l : List Int) (x : Int) : ((l ++ [x]).filter (· < 0)).sum = (l.filter (· < 0)).sum + (if x < 0 then x else 0) := by
  rw [List.filter_append]
  by_cases h : x < 0 <;> simp [h]
theorem stg_eq {s : W} (h : s.inv) (m : Int) (a b : Int) (t : Bool) : stg ⟨s.hi, -s.lo, s.st⟩ (s.at_ + m) = ⟨({ s with at_ := s.at_ + m, l0 := a, l1 := b, t := t } : W).upH.upL.hi, -({ s with at_ := s.at_ + m, l0 := a, l1 := b, t := t } : W).upH.upL.lo, ({ s with at_ := s.at_ + m, l0 := a, l1 := b, t := t } : W).upH.upL.st⟩ := by
  have h1 := h.h
  have h2 := h.l
  unfold stg
  by_cases c1 : s.at_ + m > s.hi
  · have e1 : ({ s with at_ := s.at_ + m, l0 := a, l1 := b, t := t } : W).upH = { s with at_ := s.at_ + m, l0 := a, l1 := b, t := t, hi := s.at_ + m, st := ws s.st true (s.at_ + m) } := by unfold W.upH; rw [if_pos c1]
    have c2 : ¬ (s.at_ + m < s.lo) := by omega
    rw [if_pos c1, e1]
    unfold W.upL
    rw [if_neg c2]
  · have e1 : ({ s with at_ := s.at_ + m, l0 := a, l1 := b, t := t } : W).upH = { s with at_ := s.at_ + m, l0 := a, l1 := b, t := t } := by unfold W.upH; rw [if_neg c1]
    rw [if_neg c1, e1]
    unfold W.upL
    by_cases c2 : s.at_ + m < s.lo
    · have c3 : -(s.at_ + m) > -s.lo := by omega
      rw [if_pos c2, if_pos c3]
    · have c3 : ¬ (-(s.at_ + m) > -s.lo) := by omega
      rw [if_neg c2, if_neg c3]
theorem same_snoc {row : List Part} {s : W} (h : Same row s) (hs : s.inv) {p : Part} (hp : 0 ≤ p.num) : Same (row ++ [p]) (wk s p) := by
  have key : ∀ (m a b : Int) (t : Bool), wk s p = ({ s with at_ := s.at_ + m, l0 := a, l1 := b, t := t } : W).upH.upL → p.flip s.t = t → p.up t = m → lateOn (row ++ [p]) = a → lateOff (row ++ [p]) = b → Same (row ++ [p]) (wk s p) := by
    intro m a b t e e1 e2 e3 e4
    have g := stg_eq hs m a b t
    have f1 : ∀ z : W, z.upH.upL.at_ = z.at_ := by
      intro z; unfold W.upH W.upL; by_cases c1 : z.at_ > z.hi
      · simp only [if_pos c1]; split <;> rfl
      · simp only [if_neg c1]; split <;> rfl
    have f2 : ∀ z : W, z.upH.upL.t = z.t := by
      intro z; unfold W.upH W.upL; by_cases c1 : z.at_ > z.hi
      · simp only [if_pos c1]; split <;> rfl
      · simp only [if_neg c1]; split <;> rfl
    have f3 : ∀ z : W, z.upH.upL.l0 = z.l0 := by
      intro z; unfold W.upH W.upL; by_cases c1 : z.at_ > z.hi
      · simp only [if_pos c1]; split <;> rfl
      · simp only [if_neg c1]; split <;> rfl
    have f4 : ∀ z : W, z.upH.upL.l1 = z.l1 := by
      intro z; unfold W.upH W.upL; by_cases c1 : z.at_ > z.hi
      · simp only [if_pos c1]; split <;> rfl
      · simp only [if_neg c1]; split <;> rfl
    rw [e]
    constructor
    · rw [mvs_snoc, f2, h.t, e1]
    · rw [mvs_snoc, f1, h.t, e1, e2]; simp only; rw [hts_last, h.a]
    · rw [mvs_snoc, h.t, e1, e2]; simp only; rw [hts_snoc, List.foldl_append, h.st, h.a]; exact g
    · rw [f3]; exact e3
    · rw [f4]; exact e4
  have l1 : lateOn (row ++ [p]) = s.l0 + p.dl.getD 0 + (if p.up (p.flip s.t) > 0 then p.up (p.flip s.t) else 0) := by
    rw [← h.on, ← h.t]; unfold lateOn
    rw [dls_snoc, mvs_snoc]; simp only; rw [pos_snoc]; omega
  have l2 : lateOff (row ++ [p]) = s.l1 + p.dl.getD 0 - (if p.up (p.flip s.t) < 0 then p.up (p.flip s.t) else 0) := by
    rw [← h.off, ← h.t]; unfold lateOff
    rw [dls_snoc, mvs_snoc]; simp only; rw [neg_snoc]; omega
  cases p with
  | turn => exact key 0 s.l0 s.l1 (!s.t) (by simp [wk, W.mv]) rfl rfl (by rw [l1]; simp [Part.up, Part.dl]) (by rw [l2]; simp [Part.up, Part.dl])
  | delay k => exact key 0 (s.l0 + k) (s.l1 + k) s.t (by simp [wk, W.mv]) rfl rfl (by rw [l1]; simp [Part.up, Part.dl]) (by rw [l2]; simp [Part.up, Part.dl])
  | on k =>
    simp only [Part.num] at hp
    cases ht : s.t
    · refine key k (s.l0 + k) s.l1 false (by simp [wk, W.mv, ht]) ht rfl ?_ ?_
      · rw [l1, ht]; simp only [Part.up, Part.dl, Part.flip]; simp; omega
      · rw [l2, ht]; simp only [Part.up, Part.dl, Part.flip]; simp; omega
    · refine key (-k) s.l0 (s.l1 + k) true (by simp [wk, W.mv, ht, Int.sub_eq_add_neg]) ht rfl ?_ ?_
      · rw [l1, ht]; simp only [Part.up, Part.dl, Part.flip]; simp; omega
      · rw [l2, ht]; simp only [Part.up, Part.dl, Part.flip]; simp; omega
  | off k =>
    simp only [Part.num] at hp
    cases ht : s.t
    · refine key (-k) s.l0 (s.l1 + k) false (by simp [wk, W.mv, ht, Int.sub_eq_add_neg]) ht rfl ?_ ?_
      · rw [l1, ht]; simp only [Part.up, Part.dl, Part.flip]; simp; omega
      · rw [l2, ht]; simp only [Part.up, Part.dl, Part.flip]; simp; omega
    · refine key k (s.l0 + k) s.l1 true (by simp [wk, W.mv, ht]) ht rfl ?_ ?_
      · rw [l1, ht]; simp only [Part.up, Part.dl, Part.flip]; simp; omega
      · rw [l2, ht]; simp only [Part.up, Part.dl, Part.flip]; simp; omega
theorem rev_ind {α : Type} {P : List α → Prop} (h0 : P []) (hs : ∀ l x, P l → P (l ++ [x])) : ∀ l, P l := by
  intro l
  have : ∀ n (l : List α), l.length = n → P l := by
    intro n
    induction n with
    | zero => intro l h; rw [List.length_eq_zero_iff.mp h]; exact h0
    | succ n ih =>
      intro l h
      rcases List.eq_nil_or_concat l with rfl | ⟨l', x, rfl⟩
      · exact h0
      · rw [List.concat_eq_append] at h ⊢
        exact hs _ _ (ih l' (by simp at h; exact h))
  exact this _ l rfl
theorem same_all (row : List Part) : (∀ p ∈ row, 0 ≤ p.num) → Same row (wks row) := by
  induction row using rev_ind with
  | h0 => intro _; exact ⟨rfl, rfl, rfl, rfl, rfl⟩
  | hs l x ih =>
    intro h
    rw [wks_snoc]
    exact same_snoc (ih fun p hp => h p (List.mem_append_left _ hp)) (fold_inv _ _ W0_inv) (h x (List.mem_append_right _ (by simp)))
theorem form_shape {row : List Part} (h : ∀ p ∈ row, 0 ≤ p.num) : formP row 0 0 = shapeP (wks row) := by
  have s := same_all row h
  unfold formP shapeP
  rw [s.t, s.on, s.off]
  unfold stgs
  rw [s.st]
theorem stgs_shape {row : List Part} (h : ∀ p ∈ row, 0 ≤ p.num) : (stgs row 0 0).st = (wks row).st := by
  unfold stgs
  rw [(same_all row h).st]
theorem take_ok {row : List Part} (h : ∀ p ∈ row, 0 ≤ p.num) (i : Nat) : ∀ p ∈ row.take i, 0 ≤ p.num := fun p hp => h p (List.mem_of_mem_take hp)
theorem hts_found (row : List Part) (h : ∀ p ∈ row, 0 ≤ p.num) : hts (mvs row).1 = foundL row := by
  have : ∀ i, i ≤ row.length → hts (mvs (row.take i)).1 = Wfd row i := by
    intro i
    induction i with
    | zero => intro _; rfl
    | succ i ih =>
      intro hi
      have hx : row[i]? = some row[i] := List.getElem?_eq_getElem (by omega)
      rw [Wfd_snoc row i _ hx, ← ih (by omega), take_succ' hx, mvs_snoc]
      simp only
      rw [hts_snoc]
      have a1 := (same_all _ (take_ok h i)).a
      have a2 := (same_all _ (take_ok h (i + 1))).a
      rw [take_succ' hx, mvs_snoc, wks_snoc] at a2
      simp only at a2
      rw [hts_last] at a2
      rw [a2]
  have := this row.length (Nat.le_refl _)
  rwa [List.take_length] at this
theorem straight_shape {row : List Part} (h : ∀ p ∈ row, 0 ≤ p.num) : wks (strt row).1 = (wks row).core := (strs_eq row h W0 ([], false) W0_inv rfl rfl).1
theorem strs_ok {row : List Part} {B : Int} (h : ∀ p ∈ row, p.ok B) : ∀ p ∈ (strt row).1, p.ok B := by
  have : ∀ (row : List Part) (z : List Part × Bool), (∀ p ∈ row, p.ok B) → (∀ p ∈ z.1, p.ok B) → ∀ p ∈ (row.foldl stStep z).1, p.ok B := by
    intro row
    induction row with
    | nil => intro z _ h; exact h
    | cons p ps ih =>
      intro z h1 h2
      refine ih _ (fun q hq => h1 q (List.mem_cons_of_mem _ hq)) ?_
      have hp := h1 p List.mem_cons_self
      cases p with
      | turn => exact h2
      | delay k => intro q hq; rcases List.mem_append.mp hq with hq | hq; exact h2 q hq; simp at hq; subst hq; exact hp
      | on k => intro q hq; rcases List.mem_append.mp hq with hq | hq; exact h2 q hq; simp at hq; subst hq; cases z.2 <;> exact hp
      | off k => intro q hq; rcases List.mem_append.mp hq with hq | hq; exact h2 q hq; simp at hq; subst hq; cases z.2 <;> exact hp
  exact this row _ h (by simp)
theorem strs_len (row : List Part) : (strt row).1.length ≤ row.length := by
  have : ∀ (row : List Part) (z : List Part × Bool), (row.foldl stStep z).1.length ≤ z.1.length + row.length := by
    intro row
    induction row with
    | nil => intro z; simp
    | cons p ps ih =>
      intro z
      have := ih (stStep z p)
      have h2 : (stStep z p).1.length ≤ z.1.length + 1 := by cases p <;> simp [stStep]
      simp only [List.foldl_cons, List.length_cons]
      omega
  have := this row ([], false)
  simp at this
  exact this
theorem pv_turn : Part.pv .turn = .tup [.str "turn"] := rfl
theorem pv_on (k : Int) : Part.pv (.on k) = .tup [.str "on", .int k] := rfl
theorem pv_off (k : Int) : Part.pv (.off k) = .tup [.str "off", .int k] := rfl
theorem pv_delay (k : Int) : Part.pv (.delay k) = .tup [.str "delay", .int k] := rfl
theorem num_turn : Part.num .turn = 0 := rfl
theorem num_on (k : Int) : Part.num (.on k) = k := rfl
theorem num_off (k : Int) : Part.num (.off k) = k := rfl
theorem num_delay (k : Int) : Part.num (.delay k) = k := rfl
end Law
end
section
set_option autoImplicit false
/-! What the laws' ends have in common. -/
namespace Law
open PySem PL
theorem seq_sat2 {a b : Sm} {env : PL.Env} {μ : Mem} {W : Wp} (P : PL.Env → Mem → Prop) (hA : (a env μ).sat { nx := P, rt := W.rt, bk := W.bk, ct := W.ct }) (hb : ∀ e m, P e m → (b e m).sat W) : (seq a b env μ).sat W := by
  rw [seq_ev]
  refine then_sat (sat_imp hA (fun e m h => hb e m h) (fun _ _ h => h) (fun _ _ h => h) (fun _ _ h => h))
theorem nx_only {o : Out} {P : PL.Env → Mem → Prop} {W : Wp} (h : o.sat { nx := P }) (i : ∀ e m, P e m → W.nx e m) : o.sat W := sat_imp h i (fun _ _ h => h.elim) (fun _ _ h => h.elim) (fun _ _ h => h.elim)
theorem fAdd_refs {μ : Mem} {a b : Nat} {l r : List PV} (ha : μ[a]? = some (.lst l)) (hb : μ[b]? = some (.lst r)) (hz : l.length + r.length ≤ SL) : fAdd [.ref a, .ref b] μ = .ok (.ref μ.length) (μ ++ [.lst (l ++ r)]) := by
  have : l.length + r.length ≤ 16777216 := hz
  simp [fAdd, ha, hb, newL, this]
theorem c28 : (10 : Int) ^ (28 : Nat) = 10000000000000000000000000000 := by decide
theorem c29 : (10 : Int) ^ (29 : Nat) = 100000000000000000000000000000 := by decide
theorem c30 : (10 : Int) ^ (30 : Nat) = 1000000000000000000000000000000 := by decide
theorem c12 : (10 : Int) ^ (12 : Nat) = 1000000000000 := by decide
theorem c20 : (10 : Int) ^ (20 : Nat) = 100000000000000000000 := by decide
theorem c40 : (10 : Int) ^ 40 = 10000000000000000000000000000000000000000 := by decide
theorem n40 : (10 : Nat) ^ 40 = 10000000000000000000000000000000000000000 := by decide
end Law
end
section
set_option autoImplicit false
/-! Long rows told apart from all else (k24): run. -/
namespace Law
open PySem PL
/-- small data -/
structure D0 (q : PV) : Prop where
  data : q.data = true
  sm : q.pd.sm = true
  dp : q.pd.depth ≤ 20
  wt : q.pd.wt ≤ 100000
def isW3 : PV → Bool
  | .str w => decide (w = ("on" : Str)) || (decide (w = ("off" : Str)) || decide (w = ("delay" : Str)))
  | _ => false
def partOf : PV → Option Part
  | .tup [.str w] => if w = ("turn" : Str) then some .turn else none
  | .tup [.str w, .int k] => if 0 ≤ k then (if w = ("on" : Str) then some (.on k) else if w = ("off" : Str) then some (.off k) else if w = ("delay" : Str) then some (.delay k) else none) else none
  | _ => none
def partsOf : List PV → Option (List Part)
  | [] => some []
  | q :: r => (partOf q).bind fun x => (partsOf r).map fun xs => x :: xs
def rowOf : PV → Option (List Part)
  | .tup l => partsOf l
  | _ => none
theorem partOf_some {q : PV} {x : Part} (h : partOf q = some x) : q = x.pv ∧ 0 ≤ x.num := by
  unfold partOf at h
  split at h
  · split at h
    · rename_i w hw
      cases h
      exact ⟨by rw [hw]; rfl, by decide⟩
    · cases h
  · rename_i w k
    split at h
    · rename_i hk
      split at h
      · rename_i hw; cases h; exact ⟨by rw [hw]; rfl, hk⟩
      · split at h
        · rename_i hw; cases h; exact ⟨by rw [hw]; rfl, hk⟩
        · split at h
          · rename_i hw; cases h; exact ⟨by rw [hw]; rfl, hk⟩
          · cases h
    · cases h
  · cases h
theorem partOf_pv {x : Part} (h : 0 ≤ x.num) : partOf x.pv = some x := by
  have n1 : ¬ ((("off" : String) : Str) = (("on" : String) : Str)) := by simp
  have n2 : ¬ ((("delay" : String) : Str) = (("on" : String) : Str)) := by simp
  have n3 : ¬ ((("delay" : String) : Str) = (("off" : String) : Str)) := by simp
  cases x with
  | turn => simp [partOf, Part.pv]
  | on k => have hk : 0 ≤ k := h; simp [partOf, Part.pv, hk]
  | off k => have hk : 0 ≤ k := h; simp [partOf, Part.pv, hk, n1]
  | delay k => have hk : 0 ≤ k := h; simp [partOf, Part.pv, hk, n2, n3]
theorem partsOf_some : ∀ {l : List PV} {r : List Part}, partsOf l = some r → l = r.map Part.pv ∧ ∀ x ∈ r, 0 ≤ x.num
  | [], r, h => by simp [partsOf] at h; subst h; simp
  | q :: l, r, h => by
    unfold partsOf at h
    cases hq : partOf q with
    | none => rw [hq] at h; simp at h
    | some x =>
      rw [hq] at h
      cases hl : partsOf l with
      | none => rw [hl] at h; simp at h
      | some xs =>
        rw [hl] at h
        simp at h
        subst h
        obtain ⟨a, b⟩ := partsOf_some hl
        obtain ⟨c, d⟩ := partOf_some hq
        refine ⟨by rw [a, c]; rfl, fun y hy => ?_⟩
        rcases List.mem_cons.mp hy with rfl | hy
        · exact d
        · exact b y hy
theorem partsOf_pvs : ∀ {r : List Part}, (∀ x ∈ r, 0 ≤ x.num) → partsOf (r.map Part.pv) = some r
  | [], _ => rfl
  | x :: r, h => by
    have ih := partsOf_pvs (r := r) fun y hy => h y (by simp [hy])
    simp only [List.map_cons, partsOf, partOf_pv (h x (by simp)), ih, Option.bind_some, Option.map_some]
theorem rowOf_some {q : PV} {r : List Part} (h : rowOf q = some r) : q = pvs r ∧ ∀ x ∈ r, 0 ≤ x.num := by
  unfold rowOf at h
  split at h
  · obtain ⟨a, b⟩ := partsOf_some h
    exact ⟨by rw [a], b⟩
  · cases h
theorem rowOf_pvs {r : List Part} (h : ∀ x ∈ r, 0 ≤ x.num) : rowOf (pvs r) = some r := partsOf_pvs h
theorem partsOf_all : ∀ l : List PV, (partsOf l).isSome = l.all fun q => (partOf q).isSome
  | [] => rfl
  | q :: l => by
    have ih := partsOf_all l
    unfold partsOf
    cases hq : partOf q with
    | none => simp [hq]
    | some x =>
      cases hl : partsOf l with
      | none => rw [hl] at ih; simp [hq, ← ih]
      | some xs => rw [hl] at ih; simp [hq, ← ih]
/-- values that may stand for a part -/
def P0 (m : Mem) (q : PV) : Prop := D0 q ∨ ∃ k l, q = .ref k ∧ m[k]? = some (.lst l) ∧ PV.datas l = true ∧ PyData.sms (PV.pds l) = true ∧ PyData.depthAll (PV.pds l) ≤ 20
def P1 (m : Mem) (q : PV) : Prop := P0 m q ∨ ∃ l, q = .tup l ∧ l.length ≤ 100000 ∧ ∀ x ∈ l, P0 m x
theorem P0.ext {m m' : Mem} {q : PV} (h : P0 m q) (e : Ext m m') : P0 m' q := by
  rcases h with h | ⟨k, l, a, b, c⟩
  · exact .inl h
  · exact .inr ⟨k, l, a, e.get b, c⟩
theorem P1.ext {m m' : Mem} {q : PV} (h : P1 m q) (e : Ext m m') : P1 m' q := by
  rcases h with h | ⟨l, a, b, c⟩
  · exact .inl (h.ext e)
  · exact .inr ⟨l, a, b, fun x hx => (c x hx).ext e⟩
theorem D0.items {l : List PV} (h : D0 (.tup l)) : ∀ q ∈ l, D0 q := by
  intro q hq
  have h1 := h.data
  have h2 := h.sm
  have h3 := h.dp
  simp only [PV.data] at h1
  have hd := (datas_iff l).mp h1 q hq
  have hpd : PV.pds l = l.map PV.pd := by
    clear h h1 h2 h3 hq hd
    induction l with
    | nil => rfl
    | cons a l ih => simp [PV.pds, ih]
  simp only [PV.pd, PyData.sm] at h2
  rw [hpd] at h2
  have hs := (sms_iff _).mp h2 q.pd (List.mem_map_of_mem hq)
  simp only [PV.pd, dp_tuple] at h3
  rw [hpd] at h3
  have h4 := h.wt
  simp only [PV.pd, wt_tuple] at h4
  rw [hpd] at h4
  have hw : ∀ (L : List PyData) (x : PyData), x ∈ L → x.wt ≤ PyData.wts L := by
    intro L x hx
    induction L with
    | nil => nomatch hx
    | cons y L ih =>
      simp only [wts_cons]
      rcases List.mem_cons.mp hx with rfl | hx
      · omega
      · have := ih hx; omega
  have hw1 := hw _ q.pd (List.mem_map_of_mem hq)
  refine ⟨hd, hs, ?_, by omega⟩
  have : ∀ (L : List PyData) (x : PyData), x ∈ L → x.depth ≤ PyData.depthAll L := by
    intro L x hx
    induction L with
    | nil => nomatch hx
    | cons y L ih =>
      simp only [dps_cons]
      rcases List.mem_cons.mp hx with rfl | hx
      · omega
      · have := ih hx; omega
  have := this _ q.pd (List.mem_map_of_mem hq)
  omega
theorem wt_pos : ∀ d : PyData, 1 ≤ d.wt := fun d => by cases d <;> simp [PyData.wt]
theorem D0.few {l : List PV} (h : D0 (.tup l)) : l.length ≤ 100000 := by
  have h4 := h.wt
  simp only [PV.pd, wt_tuple] at h4
  have : ∀ l : List PV, l.length ≤ PyData.wts (PV.pds l) := by
    intro l
    induction l with
    | nil => simp
    | cons a l ih =>
      have := wt_pos a.pd
      simp only [PV.pds, wts_cons, List.length_cons]
      omega
  have := this l
  omega
end Law
end
section
set_option autoImplicit false
/-! == of data: run. -/
namespace Law
open PySem PL
theorem fEq_data {k j : Nat} {p q : PV} (hs : scalP p q = none) (h1 : Good k p) (h2 : Good j q) (μ : Mem) : fEq [p, q] μ = .ok (.bl (PyData.eqv p.pd q.pd)) μ := by
  simp only [fEq, eqR, hs]
  rw [toD_data h1.data, toD_data h2.data]
  simp only
  rw [if_pos ⟨shaped_sm h1.sm (by have := h1.dp; omega), shaped_sm h2.sm (by have := h2.dp; omega)⟩]
theorem fNe_data {k j : Nat} {p q : PV} (hs : scalP p q = none) (h1 : Good k p) (h2 : Good j q) (μ : Mem) : fNe [p, q] μ = .ok (.bl (!PyData.eqv p.pd q.pd)) μ := by
  simp only [fNe, eqR, hs]
  rw [toD_data h1.data, toD_data h2.data]
  simp only
  rw [if_pos ⟨shaped_sm h1.sm (by have := h1.dp; omega), shaped_sm h2.sm (by have := h2.dp; omega)⟩]
end Law
end
section
set_option autoImplicit false
/-! Repr of a new list. -/
namespace Law
open PySem PL
theorem fNe_of {p q : PV} {b : Bool} {μ : Mem} (h : fEq [p, q] μ = .ok (.bl b) μ) : fNe [p, q] μ = .ok (.bl (!b)) μ := by
  simp only [fEq, fNe] at h ⊢
  split at h
  · rename_i c hc
    cases h
    rfl
  · cases h
theorem repr_newL {l : List PV} (h : Goods 7000 l) (μ : Mem) : fRepr [.ref μ.length] (μ ++ [.lst l]) = .ok (.str (PyData.list (PV.pds l)).shown) (μ ++ [.lst l]) := repr_goods (by simp) h
theorem pow10 {n : Nat} (hn : n ≤ 1000000) (μ : Mem) : fPow [.int 10, .int (n : Int)] μ = .ok (.int (10 ^ n)) μ := by
  rw [fPow_int, if_pos ⟨by omega, by omega, by decide +kernel⟩]
  rfl
theorem p12 (μ : Mem) : fPow [.int 10, .int 12] μ = .ok (.int (10 ^ 12)) μ := pow10 (n := 12) (by decide) μ
theorem p6 (μ : Mem) : fPow [.int 10, .int 6] μ = .ok (.int (10 ^ 6)) μ := pow10 (n := 6) (by decide) μ
theorem p20 (μ : Mem) : fPow [.int 10, .int 20] μ = .ok (.int (10 ^ 20)) μ := pow10 (n := 20) (by decide) μ
theorem p9 (μ : Mem) : fPow [.int 10, .int 9] μ = .ok (.int (10 ^ 9)) μ := pow10 (n := 9) (by decide) μ
theorem p29 (μ : Mem) : fPow [.int 10, .int 29] μ = .ok (.int (10 ^ 29)) μ := pow10 (n := 29) (by decide) μ
theorem p30 (μ : Mem) : fPow [.int 10, .int 30] μ = .ok (.int (10 ^ 30)) μ := pow10 (n := 30) (by decide) μ
theorem p31 (μ : Mem) : fPow [.int 10, .int 31] μ = .ok (.int (10 ^ 31)) μ := pow10 (n := 31) (by decide) μ
theorem p35 (μ : Mem) : fPow [.int 10, .int 35] μ = .ok (.int (10 ^ 35)) μ := pow10 (n := 35) (by decide) μ
theorem p40 (μ : Mem) : fPow [.int 10, .int 40] μ = .ok (.int (10 ^ 40)) μ := pow10 (n := 40) (by decide) μ
theorem p50 (μ : Mem) : fPow [.int 10, .int 50] μ = .ok (.int (10 ^ 50)) μ := pow10 (n := 50) (by decide) μ
theorem p59 (μ : Mem) : fPow [.int 10, .int 59] μ = .ok (.int (10 ^ 59)) μ := pow10 (n := 59) (by decide) μ
end Law
end
section
set_option autoImplicit false
/-! Small data of all kinds: ==, in, kinds (k24, k01, ..): run. -/
namespace Law
open PySem PL
theorem D0.shaped {q : PV} (h : D0 q) : SeqAt.shaped q.pd = true := shaped_sm h.sm (by have := h.dp; omega)
/-- == of data that are not flat of one kind -/
theorem d0_eq {p q : PV} (hs : scalP p q = none) (hp : D0 p) (hq : D0 q) (μ : Mem) : fEq [p, q] μ = .ok (.bl (PyData.eqv p.pd q.pd)) μ := by
  simp only [fEq, eqR, hs]
  rw [toD_data hp.data, toD_data hq.data]
  simp only
  rw [if_pos ⟨hp.shaped, hq.shaped⟩]
theorem d0_str (w : Str) (h : (PyData.str w).sm = true) : D0 (.str w) := ⟨rfl, h, by simp [PV.pd], by simp [PV.pd]⟩
def isS (w : Str) : PV → Bool
  | .str z => decide (z = w)
  | _ => false
theorem head_eq {q : PV} (hq : D0 q) {w : Str} (hw : (PyData.str w).sm = true) (μ : Mem) : fEq [q, .str w] μ = .ok (.bl (isS w q)) μ := by
  cases q with
  | str z => simp [isS]
  | cst a => exact absurd hq.data (by simp [PV.data])
  | ref n => exact absurd hq.data (by simp [PV.data])
  | non => rw [d0_eq rfl hq (d0_str w hw)]; simp [isS, PV.pd, PyData.eqv]
  | bl b => rw [d0_eq rfl hq (d0_str w hw)]; simp [isS, PV.pd, PyData.eqv]
  | int b => rw [d0_eq rfl hq (d0_str w hw)]; simp [isS, PV.pd, PyData.eqv]
  | tup l => rw [d0_eq rfl hq (d0_str w hw)]; simp [isS, PV.pd, PyData.eqv]
theorem sm_on : (PyData.str ("on" : Str)).sm = true := by decide +kernel
theorem sm_off : (PyData.str ("off" : Str)).sm = true := by decide +kernel
theorem sm_delay : (PyData.str ("delay" : Str)).sm = true := by decide +kernel
theorem sm_turn : (PyData.str ("turn" : Str)).sm = true := by decide +kernel
theorem tup3_d0 : D0 (.tup [.str "on", .str "off", .str "delay"]) := ⟨by simp, by decide +kernel, by simp, by simp⟩
theorem head_in {q : PV} (hq : D0 q) (μ : Mem) : fIn [q, .tup [.str "on", .str "off", .str "delay"]] μ = .ok (.bl (isW3 q)) μ ∧ fNotIn [q, .tup [.str "on", .str "off", .str "delay"]] μ = .ok (.bl (!isW3 q)) μ := by
  have key : inR μ q (.tup [.str "on", .str "off", .str "delay"]) = some (isW3 q) := by
    cases q with
    | str z =>
      have n1 : ∀ a b : Str, (a == b) = decide (b = a) := fun a b => by
        by_cases h : b = a
        · subst h; simp
        · have h' : ¬ a = b := fun e => h e.symm
          simp [h, h']
      have e1 : inR μ (.str z) (.tup [.str "on", .str "off", .str "delay"]) = some ([PV.str "on", .str "off", .str "delay"].any fun q => eqF q (.str z)) := rfl
      rw [e1]
      simp only [List.any_cons, List.any_nil, eqF, n1, isW3, Bool.or_false]
    | cst a => exact absurd hq.data (by simp [PV.data])
    | ref n => exact absurd hq.data (by simp [PV.data])
    | non => simp [inR, strPair, inSeq, getL, flatP, eqF, isW3]
    | bl b => simp [inR, strPair, inSeq, getL, flatP, eqF, isW3]
    | int b => simp [inR, strPair, inSeq, getL, flatP, eqF, isW3]
    | tup l =>
      have e1 : toD μ (.tup l) = some (PV.pd (.tup l)) := toD_data hq.data
      have e2 : toD μ (.tup [.str "on", .str "off", .str "delay"]) = some (PV.pd (.tup [.str "on", .str "off", .str "delay"])) := toD_data tup3_d0.data
      have s1 := hq.shaped
      have s2 := tup3_d0.shaped
      have e3 : inR μ (.tup l) (.tup [.str "on", .str "off", .str "delay"]) = inDeep μ (.tup l) (.tup [.str "on", .str "off", .str "delay"]) := by
        simp only [inR, strPair, inSeq, getL]
        rw [if_neg (by simp [flatP])]
      rw [e3]
      unfold inDeep
      simp only [e1, e2]
      simp only [PV.pd, PV.pds] at s1 s2 ⊢
      rw [if_pos ⟨s1, s2⟩]
      simp [PyData.eqv, isW3]
  exact ⟨by simp only [fIn, key], by simp only [fNotIn, key]⟩
def tyT : PV → Bool
  | .tup _ => true
  | _ => false
def tyS : PV → Bool
  | .str _ => true
  | _ => false
def tyB : PV → Bool
  | .bl _ => true
  | _ => false
def tyI : PV → Bool
  | .bl _ => true
  | .int _ => true
  | _ => false
def tyN : PV → Bool
  | .int _ => true
  | _ => false
def geN : PV → Bool
  | .int k => decide (0 ≤ k)
  | _ => false
theorem isi_d0 {q : PV} (hq : D0 q) (μ : Mem) : fIsi .tuple [q] μ = .ok (.bl (tyT q)) μ ∧ fIsi .str [q] μ = .ok (.bl (tyS q)) μ ∧ fIsi .bool [q] μ = .ok (.bl (tyB q)) μ ∧ fIsi .int [q] μ = .ok (.bl (tyI q)) μ := by
  cases q with
  | cst a => exact absurd hq.data (by simp [PV.data])
  | ref n => exact absurd hq.data (by simp [PV.data])
  | _ => simp [fIsi, isTy, tyT, tyS, tyB, tyI]
theorem is_integer_d0 {q : PV} (hq : D0 q) (μ : Mem) : m_is_integer [q] μ = .ok (.bl (tyN q)) μ := by
  apply fn_pure0
  rw [run_ev]
  unfold b_is_integer
  obtain ⟨_, _, i3, i4⟩ := isi_d0 hq μ
  cases q <;> simp [i3, i4, tyB, tyI, tyN]
theorem isi_ref {m : Mem} {k : Nat} {l : List PV} (h : m[k]? = some (.lst l)) : fIsi .tuple [.ref k] m = .ok (.bl false) m := by
  simp [fIsi, isTy, h, Ty.isL]
theorem bools_ofL : ∀ l : List Bool, boolsOf (l.map .bl) = some l
  | [] => rfl
  | b :: l => by
    have ih := bools_ofL l
    simp only [List.map_cons, boolsOf, ih] <;> rfl
theorem all_refL {n : Nat} {l : List Bool} {μ : Mem} (h : μ[n]? = some (.lst (l.map .bl))) : fAll [.ref n] μ = .ok (.bl (l.all id)) μ := by
  simp [fAll, getL, h, bools_ofL]
end Law
end
section
set_option autoImplicit false
/-! Signals in plain Lean: bursts, runs of ons, grouping from the left. -/
namespace Law
open PySem PL
structure Bu where
  tick : Int
  on : Int
  off : Int
  times : Int
deriving DecidableEq
abbrev Run := Int × Int
def Bu.end (b : Bu) : Int := b.tick + b.times * b.on + (b.times - 1) * b.off
/-- n runs of length on, gaps g, the first at t -/
def train (t on g : Int) : Nat → List Run
  | 0 => []
  | n + 1 => (t, t + on) :: train (t + on + g) on g n
def Bu.runs (b : Bu) : List Run := train b.tick b.on b.off b.times.toNat
structure Bu.ok (b : Bu) : Prop where
  times : 1 ≤ b.times
  off : b.times = 1 → b.off = 0
def one (r : Run) : Bu := ⟨r.1, r.2 - r.1, 0, 1⟩
def takes (u : Bu) (tick on : Int) : Bool := decide (u.on = on) && (decide (u.times = 1) || decide (u.off = tick - u.end))
def add (f : List Bu) (r : Run) : List Bu := match f.getLast? with
  | none => f ++ [one r]
  | some u => if takes u r.1 (r.2 - r.1) then f.dropLast ++ [⟨u.tick, u.on, r.1 - u.end, u.times + 1⟩] else f ++ [one r]
def adds (f : List Bu) (rs : List Run) : List Bu := rs.foldl add f
def group (rs : List Run) : List Bu := adds [] rs
theorem adds_nil (f : List Bu) : adds f [] = f := rfl
theorem adds_cons (f : List Bu) (r : Run) (rs : List Run) : adds f (r :: rs) = adds (add f r) rs := rfl
theorem adds_app (f : List Bu) (a b : List Run) : adds f (a ++ b) = adds (adds f a) b := by unfold adds; rw [List.foldl_append]
theorem add_snoc (f : List Bu) (u : Bu) (r : Run) : add (f ++ [u]) r = if takes u r.1 (r.2 - r.1) then f ++ [⟨u.tick, u.on, r.1 - u.end, u.times + 1⟩] else f ++ [u] ++ [one r] := by
  unfold add
  rw [List.getLast?_append]
  simp
/-- a run of like gaps behind a burst that takes it -/
theorem adds_train (f : List Bu) (on g : Int) : ∀ (n : Nat) (t off k : Int), 1 ≤ k → (k = 1 ∨ off = g) →
    adds (f ++ [⟨t, on, off, k⟩]) (train ((⟨t, on, off, k⟩ : Bu).end + g) on g n) = f ++ [⟨t, on, if n = 0 then off else g, k + n⟩]
  | 0, t, off, k, _, _ => by simp [train, adds_nil]
  | n + 1, t, off, k, hk, h => by
    unfold train
    rw [adds_cons, add_snoc]
    have ht : takes ⟨t, on, off, k⟩ ((⟨t, on, off, k⟩ : Bu).end + g) ((⟨t, on, off, k⟩ : Bu).end + g + on - ((⟨t, on, off, k⟩ : Bu).end + g)) = true := by
      unfold takes
      rcases h with h | h
      · simp [h]; omega
      · simp [h]; omega
    rw [if_pos ht]
    have e1 : (⟨t, on, off, k⟩ : Bu).end + g - (⟨t, on, off, k⟩ : Bu).end = g := by omega
    simp only [e1]
    have e2 : (⟨t, on, off, k⟩ : Bu).end + g + on + g = (⟨t, on, g, k + 1⟩ : Bu).end + g := by
      unfold Bu.end
      rcases h with h | h
      · subst h; simp only; grind
      · subst h; simp only; grind
    rw [e2, adds_train f on g n t g (k + 1) (by omega) (.inr rfl)]
    simp
    omega
theorem train_one (t on g : Int) : train t on g 1 = [(t, t + on)] := rfl
/-- a burst put behind as a new one -/
theorem adds_new (f : List Bu) (b : Bu) (hb : b.ok) (h : ∀ u, f.getLast? = some u → takes u b.tick b.on = false) : adds f b.runs = f ++ [b] := by
  have h1 := hb.times
  have e : b.times.toNat = (b.times.toNat - 1) + 1 := by omega
  unfold Bu.runs
  rw [e]
  unfold train
  rw [adds_cons]
  have ha : add f (b.tick, b.tick + b.on) = f ++ [⟨b.tick, b.on, 0, 1⟩] := by
    unfold add
    have e1 : b.tick + b.on - b.tick = b.on := by omega
    cases hf : f.getLast? with
    | none => simp [one, e1]
    | some u => simp only [e1, h u hf]; simp [one, e1]
  rw [ha]
  have e2 : b.tick + b.on + b.off = (⟨b.tick, b.on, 0, 1⟩ : Bu).end + b.off := by unfold Bu.end; simp
  rw [e2, adds_train f b.on b.off _ b.tick 0 1 (by omega) (.inl rfl)]
  rcases b with ⟨t, on, off, k⟩
  have h2 := hb.off
  simp only at *
  by_cases hk : k.toNat - 1 = 0
  · have : k = 1 := by omega
    subst this
    simp [h2 rfl]
  · rw [if_neg hk]
    have : 1 + ((k.toNat - 1 : Nat) : Int) = k := by omega
    rw [this]
/-- .. taken by the last one: so many of its runs -/
theorem adds_takes (f : List Bu) (u b : Bu) (hu : 1 ≤ u.times) (ht : takes u b.tick b.on = true) (n : Nat) (hg : n = 1 ∨ b.off = b.tick - u.end) (hn : 1 ≤ n) :
    adds (f ++ [u]) (train b.tick b.on b.off n) = f ++ [⟨u.tick, u.on, b.tick - u.end, u.times + n⟩] := by
  unfold takes at ht
  simp only [Bool.and_eq_true, decide_eq_true_eq, Bool.or_eq_true] at ht
  rcases u with ⟨t, on, off, k⟩
  simp only at *
  have e0 : b.tick = (⟨t, on, off, k⟩ : Bu).end + (b.tick - (⟨t, on, off, k⟩ : Bu).end) := by omega
  rcases hg with rfl | hg
  · have := adds_train f on (b.tick - (⟨t, on, off, k⟩ : Bu).end) 1 t off k hu ht.2
    rw [← e0] at this
    rw [← ht.1]
    simpa [train] using this
  · have := adds_train f on (b.tick - (⟨t, on, off, k⟩ : Bu).end) n t off k hu ht.2
    rw [← e0] at this
    rw [← ht.1, hg, this, if_neg (by omega)]
theorem train_succ (t on g : Int) (n : Nat) : train t on g (n + 1) = (t, t + on) :: train (t + on + g) on g n := rfl
theorem train_split (t on g : Int) : ∀ (a b : Nat), train t on g (a + b) = train t on g a ++ train (t + a * (on + g)) on g b
  | 0, b => by simp [train]
  | a + 1, b => by
    have e : a + 1 + b = (a + b) + 1 := by omega
    rw [e, train_succ, train_succ, train_split (t + on + g) on g a b]
    have e2 : t + on + g + a * (on + g) = t + ((a + 1 : Nat) : Int) * (on + g) := by push_cast; grind
    rw [e2, List.cons_append]
theorem train_len (t on g : Int) : ∀ n, (train t on g n).length = n
  | 0 => rfl
  | n + 1 => by simp [train, train_len]
def mkb (t on off k : Int) : Bu := ⟨t, on, if k > 1 then off else 0, k⟩
theorem mkb_ok {t on off k : Int} (h : 1 ≤ k) : (mkb t on off k).ok := ⟨h, fun e => by simp [mkb] at e ⊢; omega⟩
theorem mkb_runs {t on off k : Int} (h : 1 ≤ k) : (mkb t on off k).runs = train t on off k.toNat := by
  unfold Bu.runs mkb
  simp only
  by_cases h1 : k > 1
  · rw [if_pos h1]
  · have : k = 1 := by omega
    subst this
    simp [train]
/-- a burst put behind: what is put, what is left -/
def put (f : List Bu) (b : Bu) : List Bu × Option Bu := match f.getLast? with
  | none => (f ++ [b], none)
  | some u => if takes u b.tick b.on then
      (f.dropLast ++ [⟨u.tick, b.on, b.tick - u.end, u.times + (if b.times = 1 ∨ b.off = b.tick - u.end then b.times else 1)⟩],
        if b.times = 1 ∨ b.off = b.tick - u.end then none else some (mkb (b.tick + b.on + b.off) b.on b.off (b.times - 1)))
    else (f ++ [b], none)
def restRuns : Option Bu → List Run
  | none => []
  | some b => b.runs
def OkB (f : List Bu) : Prop := ∀ b ∈ f, b.ok
theorem put_adds (f : List Bu) (b : Bu) (hf : OkB f) (hb : b.ok) : adds (put f b).1 (restRuns (put f b).2) = adds f b.runs := by
  rcases List.eq_nil_or_concat f with rfl | ⟨f', u, rfl⟩
  · rw [adds_new [] b hb (by simp)]; rfl
  · rw [List.concat_eq_append] at *
    have hu := hf u (by simp)
    unfold put
    simp only [List.getLast?_append, List.getLast?_singleton, Option.some_or]
    by_cases ht : takes u b.tick b.on = true
    · rw [if_pos ht]
      have e1 : u.on = b.on := by
        unfold takes at ht
        simp only [Bool.and_eq_true, decide_eq_true_eq] at ht
        exact ht.1
      simp only [List.dropLast_concat]
      have h1 := hb.times
      by_cases hg : b.times = 1 ∨ b.off = b.tick - u.end
      · rw [if_pos hg, if_pos hg]
        have := adds_takes f' u b hu.times ht b.times.toNat (by rcases hg with h | h; left; omega; right; exact h) (by omega)
        unfold Bu.runs
        rw [this]
        have e : ((b.times.toNat : Nat) : Int) = b.times := by omega
        rw [e, e1]; rfl
      · rw [if_neg hg, if_neg hg]
        have e : b.times.toNat = 1 + (b.times.toNat - 1) := by omega
        have h2 : 1 ≤ b.times - 1 := by omega
        unfold restRuns
        simp only
        rw [mkb_runs h2]
        unfold Bu.runs
        rw [e, train_split, adds_app]
        have := adds_takes f' u b hu.times ht 1 (.inl rfl) (by omega)
        rw [this, e1]
        have e3 : (b.times - 1).toNat = b.times.toNat - 1 := by omega
        have e4 : b.tick + ((1 : Nat) : Int) * (b.on + b.off) = b.tick + b.on + b.off := by push_cast; omega
        rw [e3, e4]; rfl
    · have ht' : takes u b.tick b.on = false := by simpa using ht
      rw [if_neg ht]
      rw [adds_new (f' ++ [u]) b hb (by simp [ht'])]; rfl
/-- how often it may be put -/
def left (f : List Bu) : Option Bu → Nat
  | none => 0
  | some b => match f.getLast? with | none => 1 | some u => if takes u b.tick b.on then 2 else 1
theorem put_left (f : List Bu) (b : Bu) (hf : OkB f) : left (put f b).1 (put f b).2 < left f (some b) := by
  rcases List.eq_nil_or_concat f with rfl | ⟨f', u, rfl⟩
  · simp [put, left]
  · rw [List.concat_eq_append] at *
    have hu := hf u (by simp)
    unfold put left
    simp only [List.getLast?_append, List.getLast?_singleton, Option.some_or]
    by_cases ht : takes u b.tick b.on = true
    · simp only [ht, if_true]
      by_cases hg : b.times = 1 ∨ b.off = b.tick - u.end
      · simp [hg]
      · simp only [if_neg hg, List.getLast?_append, List.getLast?_singleton, Option.some_or]
        have e1 : u.on = b.on := by
          unfold takes at ht
          simp only [Bool.and_eq_true, decide_eq_true_eq] at ht
          exact ht.1
        unfold takes at ht
        simp only [Bool.and_eq_true, decide_eq_true_eq, Bool.or_eq_true] at ht
        have h1 := hu.times
        have hn : takes ⟨u.tick, b.on, b.tick - u.end, u.times + 1⟩ (mkb (b.tick + b.on + b.off) b.on b.off (b.times - 1)).tick (mkb (b.tick + b.on + b.off) b.on b.off (b.times - 1)).on = false := by
          unfold takes mkb
          simp only [decide_true, Bool.true_and, Bool.or_eq_false_iff, decide_eq_false_iff_not]
          refine ⟨by omega, fun h => hg (.inr ?_)⟩
          have e2 : (⟨u.tick, b.on, b.tick - u.end, u.times + 1⟩ : Bu).end = b.tick + b.on := by
            have h3 : u.end = u.tick + u.times * u.on + (u.times - 1) * u.off := rfl
            unfold Bu.end
            simp only
            rcases ht.2 with h4 | h4
            · rw [h4]; grind
            · rw [h3] at h4; rw [← e1]; grind
          omega
        simp only [hn, Bool.false_eq_true, if_false]
        decide
    · have ht' : takes u b.tick b.on = false := by simpa using ht
      simp [ht']
theorem put_ok (f : List Bu) (b : Bu) (hf : OkB f) (hb : b.ok) : OkB (put f b).1 ∧ ∀ r, (put f b).2 = some r → r.ok := by
  have h1 := hb.times
  rcases List.eq_nil_or_concat f with rfl | ⟨f', u, rfl⟩
  · exact ⟨fun x hx => by simp [put] at hx; subst hx; exact hb, fun r h => by simp [put] at h⟩
  · rw [List.concat_eq_append] at *
    have hu := hf u (by simp)
    have hu1 := hu.times
    unfold put
    simp only [List.getLast?_append, List.getLast?_singleton, Option.some_or]
    split
    · constructor
      · intro x hx
        simp only [List.dropLast_concat] at hx
        rcases List.mem_append.mp hx with hx | hx
        · exact hf x (List.mem_append_left _ hx)
        · simp at hx; subst hx
          refine ⟨by simp only; split <;> omega, fun e => ?_⟩
          simp only at e
          split at e <;> omega
      · intro r hr
        simp only at hr
        split at hr
        · cases hr
        · rename_i hg
          cases hr
          exact mkb_ok (by omega)
    · constructor
      · intro x hx
        rcases List.mem_append.mp hx with hx | hx
        · exact hf x hx
        · simp at hx; subst hx; exact hb
      · intro r hr; cases hr
def Bu.pv (b : Bu) : PV := .tup [.int b.tick, .int b.on, .int b.off, .int b.times]
theorem Bu_data (b : Bu) : b.pv.data = true := by simp [Bu.pv]
structure Bu.fit (M : Int) (b : Bu) : Prop where
  ok : b.ok
  on : 1 ≤ b.on
  off : 0 ≤ b.off
  lo : -M ≤ b.tick
  hi : b.end ≤ M
theorem fit_more {M : Int} {b : Bu} (h : b.fit M) : b.times ≤ 2 * M ∧ b.on ≤ 2 * M ∧ b.off ≤ 2 * M ∧ b.tick + b.on ≤ b.end ∧ -M ≤ b.end ∧ b.tick ≤ M := by
  have h1 := h.ok.times
  have h2 := h.on
  have h3 := h.off
  have h4 := h.lo
  have h5 := h.hi
  unfold Bu.end at *
  have a1 : 0 ≤ (b.times - 1) * b.off := Int.mul_nonneg (by omega) h3
  have a2 : b.times ≤ b.times * b.on := by have := Int.mul_le_mul_of_nonneg_left h2 (by omega : 0 ≤ b.times); omega
  have a3 : b.on ≤ b.times * b.on := by have := Int.mul_le_mul_of_nonneg_right h1 (by omega : 0 ≤ b.on); omega
  have a4 : b.off ≤ (b.times - 1) * b.off ∨ b.off = 0 := by
    by_cases e : b.times = 1
    · right; exact h.ok.off e
    · left; have := Int.mul_le_mul_of_nonneg_right (by omega : 1 ≤ b.times - 1) h3; omega
  refine ⟨by omega, by omega, by omega, by omega, by omega, by omega⟩
abbrev Big (M : Int) : Prop := 0 ≤ M ∧ M ≤ 10 ^ 100
theorem end_put {u b : Bu} (ht : takes u b.tick b.on = true) (k : Int) : (⟨u.tick, b.on, b.tick - u.end, u.times + k⟩ : Bu).end = b.tick + k * b.on + (k - 1) * (b.tick - u.end) := by
  unfold takes at ht
  simp only [Bool.and_eq_true, decide_eq_true_eq, Bool.or_eq_true] at ht
  have h3 : u.end = u.tick + u.times * u.on + (u.times - 1) * u.off := rfl
  rw [ht.1] at h3
  have h4 : u.end = u.tick + u.times * b.on + (u.times - 1) * (b.tick - u.end) := by
    rcases ht.2 with h | h
    · rw [h] at h3 ⊢; grind
    · rw [h] at h3; exact h3
  show u.tick + (u.times + k) * b.on + (u.times + k - 1) * (b.tick - u.end) = _
  grind
structure PutFit (M : Int) (t : Int) (f : List Bu) (r : Option Bu) : Prop where
  fs : ∀ x ∈ f, x.fit M
  r : ∀ x, r = some x → x.fit M ∧ x.end = t ∧ ∀ u, f.getLast? = some u → u.end ≤ x.tick
  l : ∀ u, f.getLast? = some u → u.end ≤ t
theorem put_fit {M : Int} {f : List Bu} {b : Bu} {t : Int} (h : PutFit M t f (some b)) : PutFit M t (put f b).1 (put f b).2 := by
  obtain ⟨hb, hbt, ho⟩ := h.r b rfl
  have hm := fit_more hb
  rcases List.eq_nil_or_concat f with rfl | ⟨f', u, rfl⟩
  · refine ⟨fun x hx => ?_, fun x hx => ?_, fun u hu => ?_⟩
    · simp [put] at hx; subst hx; exact hb
    · simp [put] at hx
    · simp [put] at hu; subst hu; omega
  · rw [List.concat_eq_append] at *
    have hu := h.fs u (by simp)
    have hol := ho u (by simp)
    unfold put
    simp only [List.getLast?_append, List.getLast?_singleton, Option.some_or]
    by_cases ht : takes u b.tick b.on = true
    · simp only [ht, if_true, List.dropLast_concat]
      have e := end_put ht
      have hut := hu.ok.times
      have hbt1 := hb.ok.times
      have hbon := hb.on
      have hboff := hb.off
      by_cases hg : b.times = 1 ∨ b.off = b.tick - u.end
      · simp only [if_pos hg]
        have e1 : (⟨u.tick, b.on, b.tick - u.end, u.times + b.times⟩ : Bu).end = b.end := by
          rw [e]
          rcases hg with h | h
          · unfold Bu.end; rw [h]; simp
          · rw [← h]; rfl
        have nf : (⟨u.tick, b.on, b.tick - u.end, u.times + b.times⟩ : Bu).fit M := ⟨⟨by simp only; omega, fun e => by simp only at e; omega⟩, hbon, by simp only; omega, hu.lo, by rw [e1]; exact hb.hi⟩
        refine ⟨fun x hx => ?_, fun x hx => (nomatch hx), fun x hx => ?_⟩
        · rcases List.mem_append.mp hx with hx | hx
          · exact h.fs x (List.mem_append_left _ hx)
          · simp at hx; subst hx; exact nf
        · simp at hx; subst hx; rw [e1]; omega
      · simp only [if_neg hg]
        have e1 : (⟨u.tick, b.on, b.tick - u.end, u.times + 1⟩ : Bu).end = b.tick + b.on := by rw [e]; omega
        have h1 : 1 < b.times := by omega
        have nf : (⟨u.tick, b.on, b.tick - u.end, u.times + 1⟩ : Bu).fit M := ⟨⟨by simp only; omega, fun e => by simp only at e; omega⟩, hbon, by simp only; omega, hu.lo, by rw [e1]; have := hb.hi; omega⟩
        have e2 : (mkb (b.tick + b.on + b.off) b.on b.off (b.times - 1)).end = b.end := by
          unfold mkb Bu.end
          simp only
          by_cases h2 : b.times - 1 > 1
          · rw [if_pos h2]; grind
          · have h3 : b.times = 2 := by omega
            rw [if_neg h2, h3]; grind
        have rf : (mkb (b.tick + b.on + b.off) b.on b.off (b.times - 1)).fit M := ⟨mkb_ok (by omega), hbon, by unfold mkb; simp only; split <;> omega, by have := hb.lo; unfold mkb; simp only; omega, by rw [e2]; exact hb.hi⟩
        refine ⟨fun x hx => ?_, fun x hx => ?_, fun x hx => ?_⟩
        · rcases List.mem_append.mp hx with hx | hx
          · exact h.fs x (List.mem_append_left _ hx)
          · simp at hx; subst hx; exact nf
        · simp only [Option.some.injEq] at hx; subst hx
          refine ⟨rf, by rw [e2]; exact hbt, fun v hv => ?_⟩
          simp at hv; subst hv; rw [e1]; unfold mkb; simp only; omega
        · simp at hx; subst hx; rw [e1]; omega
    · have ht' : takes u b.tick b.on = false := by simpa using ht
      simp only [ht', Bool.false_eq_true, if_false]
      refine ⟨fun x hx => ?_, fun x hx => (nomatch hx), fun x hx => ?_⟩
      · rcases List.mem_append.mp hx with hx | hx
        · exact h.fs x hx
        · simp at hx; subst hx; exact hb
      · simp at hx; subst hx; omega
theorem put_len (f : List Bu) (b : Bu) : (put f b).1.length ≤ f.length + 1 := by
  rcases List.eq_nil_or_concat f with rfl | ⟨f', u, rfl⟩
  · simp [put]
  · rw [List.concat_eq_append]
    unfold put
    simp only [List.getLast?_append, List.getLast?_singleton, Option.some_or]
    split <;> simp
/-- bursts one behind the other -/
def Chain (bs : List Bu) : Prop := ∀ i x y, bs[i]? = some x → bs[i + 1]? = some y → x.end ≤ y.tick
theorem runs_one (r : Run) : (one r).runs = [r] := by
  rcases r with ⟨a, b⟩
  unfold Bu.runs one
  simp [train]
  omega
theorem add_runs (f : List Bu) (r : Run) (hf : OkB f) : (add f r).flatMap Bu.runs = f.flatMap Bu.runs ++ [r] ∧ OkB (add f r) := by
  rcases List.eq_nil_or_concat f with rfl | ⟨f', u, rfl⟩
  · refine ⟨by simp [add, runs_one], fun b hb => ?_⟩
    simp [add] at hb; subst hb; exact ⟨by simp [one], by simp [one]⟩
  · rw [List.concat_eq_append] at *
    rw [add_snoc]
    have hu := hf u (by simp)
    by_cases ht : takes u r.1 (r.2 - r.1) = true
    · rw [if_pos ht]
      have ht0 := ht
      unfold takes at ht
      simp only [Bool.and_eq_true, decide_eq_true_eq, Bool.or_eq_true] at ht
      have h1 := hu.times
      constructor
      · rw [List.flatMap_append, List.flatMap_append]
        simp only [List.flatMap_cons, List.flatMap_nil, List.append_nil, List.append_assoc]
        congr 1
        unfold Bu.runs
        simp only
        have e : (u.times + 1).toNat = u.times.toNat + 1 := by omega
        rw [e, train_split]
        have h3 : u.end = u.tick + u.times * u.on + (u.times - 1) * u.off := rfl
        have e2 : ((u.times.toNat : Nat) : Int) = u.times := by omega
        have e3 : u.tick + (u.times.toNat : Nat) * (u.on + (r.1 - u.end)) = r.1 := by
          rw [e2]
          rcases ht.2 with h | h
          · rw [h] at h3 ⊢; grind
          · rw [h] at h3; grind
        have e4 : train u.tick u.on (r.1 - u.end) u.times.toNat = train u.tick u.on u.off u.times.toNat := by
          rcases ht.2 with h | h
          · rw [h]; rfl
          · rw [h]
        rw [e3, e4]
        have e5 : r.1 + (r.2 - r.1) = r.2 := by omega
        simp [train, ht.1, e5]
      · intro b hb
        rcases List.mem_append.mp hb with hb | hb
        · exact hf b (List.mem_append_left _ hb)
        · simp at hb; subst hb; exact ⟨by simp only; omega, fun e => by simp only at e; omega⟩
    · rw [if_neg ht]
      refine ⟨by simp [runs_one], fun b hb => ?_⟩
      rcases List.mem_append.mp hb with hb | hb
      · exact hf b hb
      · simp at hb; subst hb; exact ⟨by simp [one], by simp [one]⟩
theorem adds_runs (rs : List Run) : ∀ f : List Bu, OkB f → (adds f rs).flatMap Bu.runs = f.flatMap Bu.runs ++ rs ∧ OkB (adds f rs) := by
  induction rs with
  | nil => intro f hf; simp [adds_nil]; exact hf
  | cons r rs ih =>
    intro f hf
    obtain ⟨h1, h2⟩ := add_runs f r hf
    obtain ⟨h3, h4⟩ := ih (add f r) h2
    rw [adds_cons]
    exact ⟨by rw [h3, h1]; simp, h4⟩
/-- the runs of what is grouped are what was grouped -/
theorem group_runs (rs : List Run) : (group rs).flatMap Bu.runs = rs := by
  have := (adds_runs rs [] (fun _ h => (nomatch h))).1
  simp at this
  exact this
/-- runs in order, between -M and M -/
structure RunOk (M : Int) (r : Run) : Prop where
  len : r.1 < r.2
  lo : -M ≤ r.1
  hi : r.2 ≤ M
def RunsOk (M : Int) (rs : List Run) : Prop := (∀ r ∈ rs, RunOk M r) ∧ rs.Pairwise fun x y => x.2 ≤ y.1
structure AddFit (M : Int) (t : Int) (f : List Bu) : Prop where
  fs : ∀ x ∈ f, x.fit M
  ch : f.Pairwise fun x y => x.end ≤ y.tick
  l : ∀ u, f.getLast? = some u → u.end ≤ t
theorem add_fit {M t : Int} {f : List Bu} {r : Run} (h : AddFit M t f) (hr : RunOk M r) (ht : t ≤ r.1) : AddFit M r.2 (add f r) := by
  have h1 := hr.len
  rcases List.eq_nil_or_concat f with rfl | ⟨f', u, rfl⟩
  · have hx : add [] r = [one r] := rfl
    rw [hx]
    refine ⟨fun x hx => ?_, by simp, fun u hu => ?_⟩
    · simp at hx; subst hx
      exact ⟨⟨by simp [one], by simp [one]⟩, by simp [one]; omega, by simp [one], hr.lo, by simp [one, Bu.end]; have := hr.hi; omega⟩
    · simp at hu; subst hu; simp [one, Bu.end]; omega
  · rw [List.concat_eq_append] at *
    rw [add_snoc]
    have hu := h.fs u (by simp)
    have hul := h.l u (by simp)
    have hch := List.pairwise_append.mp h.ch
    by_cases htk : takes u r.1 (r.2 - r.1) = true
    · rw [if_pos htk]
      have e := end_put (b := ⟨r.1, r.2 - r.1, 0, 1⟩) htk 1
      simp only at e
      have hon : u.on = r.2 - r.1 := by
        unfold takes at htk
        simp only [Bool.and_eq_true, decide_eq_true_eq] at htk
        exact htk.1
      rw [← hon] at e
      have e1 : (⟨u.tick, u.on, r.1 - u.end, u.times + 1⟩ : Bu).end = r.2 := by rw [e]; omega
      have hut := hu.ok.times
      have nf : (⟨u.tick, u.on, r.1 - u.end, u.times + 1⟩ : Bu).fit M := ⟨⟨by simp only; omega, fun e => by simp only at e; omega⟩, hu.on, by simp only; omega, hu.lo, by rw [e1]; exact hr.hi⟩
      refine ⟨fun x hx => ?_, ?_, fun x hx => ?_⟩
      · rcases List.mem_append.mp hx with hx | hx
        · exact h.fs x (List.mem_append_left _ hx)
        · simp at hx; subst hx; exact nf
      · refine List.pairwise_append.mpr ⟨hch.1, by simp, fun x hx y hy => ?_⟩
        simp at hy; subst hy
        exact hch.2.2 x hx u (by simp)
      · simp at hx; subst hx; rw [e1]; omega
    · rw [if_neg htk]
      have nf : (one r).fit M := ⟨⟨by simp [one], by simp [one]⟩, by simp [one]; omega, by simp [one], hr.lo, by simp [one, Bu.end]; have := hr.hi; omega⟩
      refine ⟨fun x hx => ?_, ?_, fun x hx => ?_⟩
      · rcases List.mem_append.mp hx with hx | hx
        · exact h.fs x hx
        · simp at hx; subst hx; exact nf
      · refine List.pairwise_append.mpr ⟨h.ch, by simp, fun x hx y hy => ?_⟩
        simp at hy; subst hy
        rcases List.mem_append.mp hx with hx | hx
        · have a := hch.2.2 x hx u (by simp)
          have b := fit_more hu
          have := hu.on
          show x.end ≤ r.1
          omega
        · simp at hx; subst hx; show x.end ≤ r.1; omega
      · simp at hx; subst hx; simp [one, Bu.end]; omega
theorem group_fit {M : Int} {rs : List Run} (h : RunsOk M rs) : ∃ t, AddFit M t (group rs) := by
  have : ∀ (rs : List Run) (t : Int) (f : List Bu), (∀ r ∈ rs, RunOk M r) → rs.Pairwise (fun x y => x.2 ≤ y.1) → (∀ r ∈ rs, t ≤ r.1) → AddFit M t f → ∃ t', AddFit M t' (adds f rs) := by
    intro rs
    induction rs with
    | nil => intro t f _ _ _ h; exact ⟨t, h⟩
    | cons r rs ih =>
      intro t f h1 h2 h3 h4
      rw [adds_cons]
      have hp := List.pairwise_cons.mp h2
      exact ih r.2 (add f r) (fun x hx => h1 x (List.mem_cons_of_mem _ hx)) hp.2 hp.1 (add_fit h4 (h1 r List.mem_cons_self) (h3 r List.mem_cons_self))
  exact this rs (-M) [] h.1 h.2 (fun r hr => (h.1 r hr).lo) ⟨by simp, by simp, by simp⟩
theorem chain_of {bs : List Bu} (h : bs.Pairwise fun x y => x.end ≤ y.tick) : Chain bs := by
  intro i x y hx hy
  obtain ⟨h1, e1⟩ := List.getElem?_eq_some_iff.mp hx
  obtain ⟨h2, e2⟩ := List.getElem?_eq_some_iff.mp hy
  rw [← e1, ← e2]
  exact List.pairwise_iff_getElem.mp h i (i + 1) h1 h2 (by omega)
end Law
end
section
set_option autoImplicit false
/-! What is a signal: what is wrong first with a value (k01, k19, k45): numbers and bursts, run. -/
namespace Law
open PySem PL
abbrev M60 : Int := 1000000000000000000000000000000000000000000000000000000000000
def n60 (z : Int) : Bool := decide (-M60 ≤ z) && decide (z ≤ M60)
def numB : PV → Bool
  | .int z => n60 z
  | _ => false
def endB : PV → Bool
  | .non => true
  | q => numB q
/-- a value whose kind can be asked for -/
def Kd (m : Mem) (q : PV) : Prop := P0 m q ∨ ∃ l, q = .tup l
theorem Kd.ext {m m' : Mem} {q : PV} (h : Kd m q) (e : Ext m m') : Kd m' q := h.imp (fun h => h.ext e) id
theorem Kd.p0 {m : Mem} {q : PV} (h : P0 m q) : Kd m q := .inl h
theorem kd_isi {m : Mem} {q : PV} (h : Kd m q) : fIsi .tuple [q] m = .ok (.bl (tyT q)) m ∧ fIsi .bool [q] m = .ok (.bl (tyB q)) m ∧ fIsi .int [q] m = .ok (.bl (tyI q)) m := by
  rcases h with (h | ⟨k, l, rfl, hk, _⟩) | ⟨l, rfl⟩
  · obtain ⟨a, _, b, d⟩ := isi_d0 h m
    exact ⟨a, b, d⟩
  · simp [fIsi, isTy, hk, Ty.isL, tyT, tyB, tyI]
  · exact ⟨rfl, rfl, rfl⟩
theorem is_integer_kd {m : Mem} {q : PV} (h : Kd m q) : m_is_integer [q] m = .ok (.bl (tyN q)) m := by
  apply fn_pure0
  rw [run_ev]
  unfold b_is_integer
  obtain ⟨_, i3, i4⟩ := kd_isi h
  cases q <;> simp [i3, i4, tyB, tyI, tyN]
theorem is_number_kd {m : Mem} {q : PV} (h : Kd m q) : m_is_number [q] m = .ok (.bl (numB q)) m := by
  have h1 := is_integer_kd h
  apply fn_pure0
  rw [run_ev]
  unfold b_is_number
  cases q with
  | int z =>
    simp only [tyN] at h1
    simp [h1, numB, n60]
    by_cases c1 : -M60 ≤ z
    · simp [c1]
    · simp [c1]
  | _ => simp only [tyN] at h1; simp [h1, numB]
/-- what is asked of four numbers -/
def four (b d e : Int) : Bool := decide (1 ≤ b) && decide (1 ≤ e) && (if e = 1 then decide (d = 0) else decide (0 < d))
def buOf : PV → Option Bu
  | .tup [.int a, .int b, .int d, .int e] => if ((n60 a && n60 b && n60 d && n60 e) && four b d e) = true then some ⟨a, b, d, e⟩ else none
  | _ => none
structure BuOk (b : Bu) : Prop where
  t : n60 b.tick = true
  o : n60 b.on = true
  f : n60 b.off = true
  n : n60 b.times = true
  on : 1 ≤ b.on
  times : 1 ≤ b.times
  off : if b.times = 1 then b.off = 0 else 0 < b.off
theorem four_iff {b d e : Int} : four b d e = true ↔ 1 ≤ b ∧ 1 ≤ e ∧ (if e = 1 then d = 0 else 0 < d) := by
  unfold four
  by_cases h : e = 1 <;> simp [h, and_assoc]
theorem buOf_some {q : PV} {b : Bu} (h : buOf q = some b) : q = b.pv ∧ BuOk b := by
  unfold buOf at h
  split at h
  · rename_i a b' d e
    by_cases hc : ((n60 a && n60 b' && n60 d && n60 e) && four b' d e) = true
    · rw [if_pos hc] at h
      injection h with h
      subst h
      simp only [Bool.and_eq_true, four_iff] at hc
      obtain ⟨⟨⟨⟨a1, a2⟩, a3⟩, a4⟩, b1, b2, b3⟩ := hc
      exact ⟨rfl, ⟨a1, a2, a3, a4, b1, b2, b3⟩⟩
    · rw [if_neg hc] at h
      nomatch h
  · nomatch h
theorem buOf_pv {b : Bu} (h : BuOk b) : buOf b.pv = some b := by
  obtain ⟨a1, a2, a3, a4, b1, b2, b3⟩ := h
  have e : four b.on b.off b.times = true := four_iff.mpr ⟨b1, b2, b3⟩
  cases b
  simp only at a1 a2 a3 a4 e
  simp [buOf, Bu.pv, a1, a2, a3, a4, e]
def onesL (n : Nat) : List PV := List.replicate n (.int 1)
theorem onesL_map {α : Type} (l : List α) : l.map (fun _ => PV.int 1) = onesL l.length := by
  induction l with
  | nil => rfl
  | cons a l ih => rw [List.map_cons, ih]; rfl
theorem onesL_ok (n : Nat) : PV.datas (onesL n) = true ∧ PyData.sms (PV.pds (onesL n)) = true ∧ PyData.depthAll (PV.pds (onesL n)) ≤ 59 := by
  induction n with
  | zero => simp [onesL]
  | succ n ih =>
    have e : onesL (n + 1) = PV.int 1 :: onesL n := rfl
    rw [e]
    have s1 : (PV.int 1).pd.sm = true := by decide +kernel
    simp only [PV.datas, PV.pds, PyData.sms, PyData.depthAll, ih.1, ih.2.1, s1]
    have := ih.2.2
    simp
    omega
theorem onesL_empty (n : Nat) : (onesL n).isEmpty = decide (n = 0) := by cases n <;> simp [onesL, List.replicate_succ]
/-- a new list of ones beside the empty one -/
theorem onesL_cmp (n : Nat) (m : Mem) : fNe [.ref m.length, .ref (m.length + 1)] (m ++ [.lst (onesL n), .lst []]) = .ok (.bl (!decide (n = 0))) (m ++ [.lst (onesL n), .lst []]) ∧ fEq [.ref m.length, .ref (m.length + 1)] (m ++ [.lst (onesL n), .lst []]) = .ok (.bl (decide (n = 0))) (m ++ [.lst (onesL n), .lst []]) := by
  obtain ⟨o1, o2, o3⟩ := onesL_ok n
  have ne := fNe_nil (a := m.length) (b := m.length + 1) (l := onesL n) (μ := m ++ [.lst (onesL n), .lst []]) (get_new m [.lst (onesL n), .lst []] 0) (get_new m [.lst (onesL n), .lst []] 1) o1 o2 o3
  have eq := fEq_nil (a := m.length) (b := m.length + 1) (l := onesL n) (μ := m ++ [.lst (onesL n), .lst []]) (get_new m [.lst (onesL n), .lst []] 0) (get_new m [.lst (onesL n), .lst []] 1) o1 o2 o3
  rw [onesL_empty] at ne eq
  exact ⟨ne, eq⟩
theorem bu_four (a b d e : Int) : (buOf (.tup [.int a, .int b, .int d, .int e])).isSome = ((n60 a && n60 b && n60 d && n60 e) && four b d e) := by
  unfold buOf
  by_cases h : ((n60 a && n60 b && n60 d && n60 e) && four b d e) = true
  · simp only [h]
    rfl
  · have h' : ((n60 a && n60 b && n60 d && n60 e) && four b d e) = false := by simpa using h
    simp only [h']
    rfl
theorem bu_none {l : List PV} (h : ∀ a b d e : Int, l ≠ [.int a, .int b, .int d, .int e]) : buOf (.tup l) = none := by
  unfold buOf
  split
  · rename_i a b d e heq
    cases heq
    exact absurd rfl (h _ _ _ _)
  · rfl
/-- the items that are no numbers -/
theorem nums_all {l : List PV} : ((l.filter fun q => !numB q).length = 0) = (l.all numB = true) := by
  rw [List.length_eq_zero_iff, List.filter_eq_nil_iff, List.all_eq_true]
  simp
end Law
end
section
set_option autoImplicit false
/-! Bursts told apart from all else: the program and the law, run (k01, k19, k45). -/
namespace Law
open PySem PL
/-- values that may stand for a burst -/
def B1 (m : Mem) (q : PV) : Prop := P0 m q ∨ ∃ l, q = .tup l ∧ l.length ≤ 100000 ∧ ∀ x ∈ l, Kd m x
theorem B1.ext {m m' : Mem} {q : PV} (h : B1 m q) (e : Ext m m') : B1 m' q := by
  rcases h with h | ⟨l, a, b, c⟩
  · exact .inl (h.ext e)
  · exact .inr ⟨l, a, b, fun x hx => (c x hx).ext e⟩
theorem B1.kd {m : Mem} {q : PV} (h : B1 m q) : Kd m q := by
  rcases h with h | ⟨l, a, _⟩
  · exact .inl h
  · exact .inr ⟨l, a⟩
theorem B1.items {m : Mem} {l : List PV} (h : B1 m (.tup l)) : (∀ q ∈ l, Kd m q) ∧ l.length ≤ 100000 := by
  rcases h with (h | ⟨k, l', e, _⟩) | ⟨l', e, hl, h⟩
  · exact ⟨fun q hq => .inl (.inl (h.items q hq)), h.few⟩
  · cases e
  · cases e; exact ⟨h, hl⟩
theorem noTup {q : PV} (h : ∀ l, q ≠ .tup l) : tyT q = false ∧ buOf q = none := by
  cases q with
  | tup l => exact absurd rfl (h l)
  | _ => exact ⟨rfl, rfl⟩
theorem is_burst_b1 {m : Mem} {q : PV} (h : B1 m q) : m_is_burst [q] m = .ok (.bl (buOf q).isSome) m := by
  have ⟨i0, _, _⟩ := kd_isi h.kd
  apply fn_sat_data rfl
  apply run_sat
  unfold b_is_burst
  simp only [List.map_cons, List.map_nil, List.length_cons, List.length_nil, List.replicate, List.cons_append, List.nil_append, Nat.reduceAdd, Nat.reduceSub]
  by_cases ht : ∃ l, q = .tup l
  · obtain ⟨l, rfl⟩ := ht
    obtain ⟨h1, h2⟩ := h.items
    simp only [tyT] at i0
    by_cases h4 : l.length = 4
    · match l, h4 with
      | [a, b, d, e], _ =>
        refine seq_sat (fun e' m' => m' = m ∧ e' = [some (.tup [a, b, d, e]), none, none, none, none, none]) ?_ ?_
        · simp [i0]
        rintro e' m' ⟨rfl, rfl⟩
        have key := lc_pure (it := iVal (v 0)) (g := tn 5) (t := app1 fNot (app m_is_number (ac (v 5) an))) (e := c (.int 1)) (vs := [5]) (env := [some (.tup [a, b, d, e]), none, none, none, none, none]) (μ := m') (μ1 := m') (lk := []) (fun q : PV => q) (fun q => if (!numB q) = true then some (.int 1) else none) [a, b, d, e] (by simp) (fun _ => locked_nil _) (by show _ < 16777216; simp) (fun q hq L => by
          have := is_number_kd ((h1 q hq).ext (Ext.app m' L))
          refine ⟨_, rfl, ?_⟩
          cases hs : numB q with
          | true => rw [hs] at this; simp [wipe, this]
          | false => rw [hs] at this; simp [wipe, this])
        rw [filterMap_if, onesL_map] at key
        obtain ⟨N, hN⟩ : ∃ N, N = ([a, b, d, e].filter fun q => !numB q).length := ⟨_, rfl⟩
        rw [← hN] at key
        obtain ⟨ne, _⟩ := onesL_cmp N m'
        have hNn : (N = 0) = (([a, b, d, e].all numB) = true) := by rw [hN]; exact nums_all
        generalize onesL N = ON at *
        generalize lc (iVal (v 0)) (tn 5) (app1 fNot (app m_is_number (ac (v 5) an))) (c (.int 1)) [5] = LC at *
        by_cases hz : N = 0
        · have hall := hNn ▸ hz
          simp only [List.all_cons, List.all_nil, Bool.and_true, Bool.and_eq_true] at hall
          obtain ⟨n1, n2, n3, n4⟩ := hall
          cases a with
          | int a =>
            cases b with
            | int b =>
              cases d with
              | int d =>
                cases e with
                | int e =>
                  rw [bu_four]
                  simp only [numB] at n1 n2 n3 n4
                  rw [n1, n2, n3, n4]
                  simp only [Bool.and_self, Bool.true_and]
                  simp [hz] at ne
                  refine seq_sat (fun e' m2 => Ext m' m2 ∧ e' = [some (.tup [.int a, .int b, .int d, .int e]), none, none, none, none, none]) ?_ ?_
                  · simp [key, ne]
                  rintro e' m2 ⟨x2, rfl⟩
                  refine seq_sat (fun e' m3 => m3 = m2 ∧ e' = [some (.tup [.int a, .int b, .int d, .int e]), some (.int a), some (.int b), some (.int d), some (.int e), none]) (by simp) ?_
                  rintro e' m3 ⟨rfl, rfl⟩
                  obtain ⟨l, rfl⟩ := x2
                  by_cases c1 : b < 1
                  · have : four b d e = false := by rw [Bool.eq_false_iff, ne_eq, four_iff]; omega
                    rw [this]
                    simp [c1]
                  · by_cases c2 : e < 1
                    · have : four b d e = false := by rw [Bool.eq_false_iff, ne_eq, four_iff]; omega
                      rw [this]
                      simp [c1, c2]
                    · have h1 : 1 ≤ b := by omega
                      have h2 : 1 ≤ e := by omega
                      by_cases c3 : e = 1
                      · simp [four, c1, c2, c3, h1]
                      · simp [four, c1, c2, c3, h1, h2]
                | _ => simp [numB] at n4
              | _ => simp [numB] at n3
            | _ => simp [numB] at n2
          | _ => simp [numB] at n1
        · have hb : buOf (.tup [a, b, d, e]) = none := by
            cases hbb : buOf (.tup [a, b, d, e]) with
            | none => rfl
            | some bb =>
              obtain ⟨e1, e2⟩ := buOf_some hbb
              simp only [Bu.pv, PV.tup.injEq, List.cons.injEq, and_true] at e1
              obtain ⟨rfl, rfl, rfl, rfl⟩ := e1
              exact absurd (hNn ▸ (by simp [numB, e2.t, e2.o, e2.f, e2.n])) hz
          rw [hb]
          simp [hz] at ne
          simp [key, ne]
    · have hb : buOf (.tup l) = none := bu_none fun a b d e hh => h4 (by rw [hh]; rfl)
      have c4 : ¬ ((l.length : Int) = 4) := by omega
      rw [hb]
      simp [i0, c4]
  · obtain ⟨t0, hb⟩ := noTup fun l hh => ht ⟨l, hh⟩
    rw [t0] at i0
    rw [hb]
    simp [i0]
end Law
end
section
set_option autoImplicit false
/-! Dropping and filling runs. -/
namespace Law
open PySem PL
structure Tri where
  u : Option Int
  R : List Run
  s : Option Int
def opt : Option Int → PV
  | none => .non
  | some i => .int i
def sigP (u : Option Int) (bs : List Bu) (s : Option Int) : PV := .tup [opt u, .tup (bs.map Bu.pv), opt s]
def Tri.pv (t : Tri) : PV := sigP t.u (group t.R) t.s
abbrev Z := Option Int × List Run
def lastEnd (z : Z) : Option Int := match z.2.getLast? with
  | some r => some r.2
  | none => z.1
def flR (n : Int) (z : Z) (r : Run) : Z := match lastEnd z with
  | none => (z.1, z.2 ++ [r])
  | some e => if r.1 - e ≤ n then (match z.2.getLast? with
      | none => (some r.2, [])
      | some l => (z.1, z.2.dropLast ++ [(l.1, r.2)])) else (z.1, z.2 ++ [r])
def fill (n : Int) (t : Tri) : Tri :=
  let z := t.R.foldl (flR n) (t.u, [])
  match t.s, lastEnd z with
  | some v, some e => if v - e ≤ n then (match z.2.getLast? with
      | none => ⟨some 0, [], some 0⟩
      | some l => ⟨z.1, z.2.dropLast, some l.1⟩) else ⟨z.1, z.2, some v⟩
  | s, _ => ⟨z.1, z.2, s⟩
def drop (n : Int) (t : Tri) : Tri := ⟨t.u, t.R.filter (fun r => decide (r.2 - r.1 > n)), t.s⟩
theorem lastEnd_snoc (u : Option Int) (l : List Run) (r : Run) : lastEnd (u, l ++ [r]) = some r.2 := by unfold lastEnd; simp
theorem lastEnd_nil (u : Option Int) : lastEnd (u, []) = u := rfl
theorem flR_none (n : Int) (r : Run) : flR n (none, []) r = (none, [r]) := rfl
theorem flR_nil (n e : Int) (r : Run) : flR n (some e, []) r = if r.1 - e ≤ n then (some r.2, []) else (some e, [r]) := rfl
theorem flR_snoc (n : Int) (u : Option Int) (l : List Run) (x r : Run) : flR n (u, l ++ [x]) r = if r.1 - x.2 ≤ n then (u, l ++ [(x.1, r.2)]) else (u, l ++ [x] ++ [r]) := by
  unfold flR
  rw [lastEnd_snoc]
  simp
theorem flR_last (n : Int) (z : Z) (r : Run) : lastEnd (flR n z r) = some r.2 := by
  rcases z with ⟨u, l⟩
  rcases List.eq_nil_or_concat l with rfl | ⟨l', x, rfl⟩
  · cases u with
    | none => rfl
    | some e => rw [flR_nil]; split <;> rfl
  · rw [List.concat_eq_append, flR_snoc]
    split
    · rw [lastEnd_snoc]
    · rw [lastEnd_snoc]
theorem flR_far {n : Int} {z : Z} {r : Run} (h : ∀ e, lastEnd z = some e → n < r.1 - e) : flR n z r = (z.1, z.2 ++ [r]) := by
  rcases z with ⟨u, l⟩
  rcases List.eq_nil_or_concat l with rfl | ⟨l', x, rfl⟩
  · cases u with
    | none => rfl
    | some e => rw [flR_nil, if_neg (by have := h e rfl; omega)]; rfl
  · rw [List.concat_eq_append] at *
    rw [flR_snoc, if_neg (by have := h x.2 (lastEnd_snoc _ _ _); omega)]
theorem flR_ext {n : Int} (z : Z) (a e : Int) (r : Run) (h : r.1 - e ≤ n) : flR n (flR n z (a, e)) r = flR n z (a, r.2) := by
  rcases z with ⟨u, l⟩
  rcases List.eq_nil_or_concat l with rfl | ⟨l', x, rfl⟩
  · cases u with
    | none =>
      rw [flR_none, flR_none]
      have := flR_snoc n none [] (a, e) r
      simp only [List.nil_append] at this
      rw [this, if_pos h]
    | some e' =>
      rw [flR_nil, flR_nil]
      by_cases c : a - e' ≤ n
      · rw [if_pos c, if_pos c, flR_nil, if_pos h]
      · rw [if_neg c, if_neg c]
        have := flR_snoc n (some e') [] (a, e) r
        simp only [List.nil_append] at this
        rw [this, if_pos h]
  · rw [List.concat_eq_append, flR_snoc, flR_snoc]
    by_cases c : a - x.2 ≤ n
    · rw [if_pos c, if_pos c, flR_snoc, if_pos h]
    · rw [if_neg c, if_neg c, flR_snoc, if_pos h]
/-- a train whose gaps are filled -/
theorem fl_whole {n on g : Int} (hg : g ≤ n) : ∀ (k : Nat) (z : Z) (a e : Int), (train (e + g) on g k).foldl (flR n) (flR n z (a, e)) = flR n z (a, e + k * (on + g))
  | 0, z, a, e => by simp [train]
  | k + 1, z, a, e => by
    rw [train_succ, List.foldl_cons, flR_ext z a e _ (by simp only; omega), fl_whole hg k z a (e + g + on)]
    congr 2
    push_cast
    grind
/-- a train whose gaps stay -/
theorem fl_stay {n on g : Int} (hg : n < g) : ∀ (k : Nat) (z : Z) (e : Int), lastEnd z = some e → (train (e + g) on g k).foldl (flR n) z = (z.1, z.2 ++ train (e + g) on g k)
  | 0, z, e, _ => by simp [train]
  | k + 1, z, e, h => by
    rw [train_succ, List.foldl_cons, flR_far (by intro e' h'; rw [h] at h'; cases h'; simp only; omega)]
    rw [fl_stay hg k (z.1, z.2 ++ [(e + g, e + g + on)]) (e + g + on) (lastEnd_snoc _ _ _)]
    simp
/-- a burst's runs, the first one apart -/
def Bu.rest (b : Bu) : Option Bu := if b.times = 1 then none else some (mkb (b.tick + b.on + b.off) b.on b.off (b.times - 1))
theorem runs_first {b : Bu} (h : b.ok) : b.runs = (b.tick, b.tick + b.on) :: restRuns b.rest := by
  have h1 := h.times
  have e : b.times.toNat = (b.times.toNat - 1) + 1 := by omega
  unfold Bu.runs Bu.rest
  rw [e, train_succ]
  by_cases h2 : b.times = 1
  · rw [if_pos h2]
    have : b.times.toNat - 1 = 0 := by omega
    rw [this]; rfl
  · rw [if_neg h2]
    unfold restRuns
    simp only
    rw [mkb_runs (by omega)]
    have : (b.times - 1).toNat = b.times.toNat - 1 := by omega
    rw [this]
def wholeB (n : Int) (b : Bu) : Bu := if b.times > 1 ∧ b.off ≤ n then ⟨b.tick, b.end - b.tick, 0, 1⟩ else b
theorem whole_fl {n : Int} {b : Bu} (h : b.ok) (z : Z) : (wholeB n b).runs.foldl (flR n) z = b.runs.foldl (flR n) z := by
  unfold wholeB
  by_cases c : b.times > 1 ∧ b.off ≤ n
  · rw [if_pos c]
    have e : b.times.toNat = (b.times.toNat - 1) + 1 := by omega
    have r1 : (⟨b.tick, b.end - b.tick, 0, 1⟩ : Bu).runs = [(b.tick, b.end)] := by unfold Bu.runs; simp [train]; omega
    rw [r1]
    have r2 : b.runs = (b.tick, b.tick + b.on) :: train (b.tick + b.on + b.off) b.on b.off (b.times.toNat - 1) := by
      unfold Bu.runs; rw [e, train_succ]; rfl
    rw [r2, List.foldl_cons, List.foldl_cons, List.foldl_nil, fl_whole c.2]
    congr 2
    have e2 : ((b.times.toNat - 1 : Nat) : Int) = b.times - 1 := by omega
    rw [e2]
    unfold Bu.end
    grind
  · rw [if_neg c]
/-- what is left of it goes behind -/
theorem first_fl {n : Int} {b : Bu} (h : b.ok) (z : Z) : (wholeB n b).runs.foldl (flR n) z = ((flR n z ((wholeB n b).tick, (wholeB n b).tick + (wholeB n b).on)).1, (flR n z ((wholeB n b).tick, (wholeB n b).tick + (wholeB n b).on)).2 ++ restRuns (wholeB n b).rest) := by
  have hok : (wholeB n b).ok := by unfold wholeB; split; exact ⟨by simp, by simp⟩; exact h
  have hc : (wholeB n b).times = 1 ∨ n < (wholeB n b).off := by
    unfold wholeB
    by_cases c : b.times > 1 ∧ b.off ≤ n
    · rw [if_pos c]; exact .inl rfl
    · rw [if_neg c]
      have := h.times
      by_cases e : b.times = 1
      · exact .inl e
      · right; omega
  generalize wholeB n b = w at *
  rw [runs_first hok, List.foldl_cons]
  unfold Bu.rest
  rcases hc with hc | hc
  · rw [if_pos hc]; simp [restRuns]
  · by_cases h2 : w.times = 1
    · rw [if_pos h2]; simp [restRuns]
    · rw [if_neg h2]
      have := hok.times
      unfold restRuns
      simp only
      rw [mkb_runs (by omega)]
      exact fl_stay hc _ _ _ (flR_last _ _ _)
/-- the last run taken away -/
def wlast (f : List Bu) (u : Bu) : List Bu := if u.times = 1 then f else f ++ [mkb u.tick u.on u.off (u.times - 1)]
theorem wlast_runs (f : List Bu) (u : Bu) (h : u.ok) : (f ++ [u]).flatMap Bu.runs = (wlast f u).flatMap Bu.runs ++ [(u.end - u.on, u.end)] := by
  have h1 := h.times
  unfold wlast
  by_cases h2 : u.times = 1
  · rw [if_pos h2]
    have e1 : u.runs = [(u.tick, u.tick + u.on)] := by unfold Bu.runs; rw [h2]; rfl
    have e2 : u.end = u.tick + u.on := by unfold Bu.end; rw [h2]; simp
    rw [List.flatMap_append, e2]
    have e3 : u.tick + u.on - u.on = u.tick := by omega
    simp [e1, e3]
  · rw [if_neg h2, List.flatMap_append, List.flatMap_append]
    simp only [List.flatMap_cons, List.flatMap_nil, List.append_nil]
    rw [mkb_runs (by omega), List.append_assoc]
    congr 1
    unfold Bu.runs
    have e : u.times.toNat = (u.times - 1).toNat + 1 := by omega
    rw [e, train_split]
    congr 1
    have e2 : (((u.times - 1).toNat : Nat) : Int) = u.times - 1 := by omega
    simp only [train, e2]
    congr 1
    unfold Bu.end
    refine Prod.ext ?_ ?_
    · simp only; grind
    · simp only; grind
def aheadOf (z : Option Int × List Bu) : Option Int := match z.2.getLast? with | some u => some u.end | none => z.1
/-- the program's filling, step by step -/
def fstep (n : Int) (z : Option Int × List Bu) (b : Bu) : Option Int × List Bu :=
  let w := wholeB n b
  match aheadOf z with
  | none => (z.1, z.2 ++ [w])
  | some e => if w.tick - e > n then (z.1, z.2 ++ [w]) else match z.2.getLast? with
      | none => (some (w.tick + w.on), w.rest.toList)
      | some u => (z.1, wlast z.2.dropLast u ++ [⟨u.end - u.on, w.tick + w.on - (u.end - u.on), 0, 1⟩] ++ w.rest.toList)
theorem fstep_none {n : Int} {z : Option Int × List Bu} {b : Bu} (h : aheadOf z = none) : fstep n z b = (z.1, z.2 ++ [wholeB n b]) := by unfold fstep; simp only; rw [h]
theorem fstep_far {n e : Int} {z : Option Int × List Bu} {b : Bu} (h : aheadOf z = some e) (c : (wholeB n b).tick - e > n) : fstep n z b = (z.1, z.2 ++ [wholeB n b]) := by unfold fstep; simp only; rw [h]; simp only; rw [if_pos c]
theorem fstep_nil {n e : Int} {u : Option Int} {b : Bu} (h : aheadOf (u, []) = some e) (c : ¬ (wholeB n b).tick - e > n) : fstep n (u, []) b = (some ((wholeB n b).tick + (wholeB n b).on), (wholeB n b).rest.toList) := by unfold fstep; simp only; rw [h]; simp only; rw [if_neg c]; rfl
theorem fstep_snoc {n e : Int} {u : Option Int} {f : List Bu} {x b : Bu} (h : aheadOf (u, f ++ [x]) = some e) (c : ¬ (wholeB n b).tick - e > n) : fstep n (u, f ++ [x]) b = (u, wlast f x ++ [⟨x.end - x.on, (wholeB n b).tick + (wholeB n b).on - (x.end - x.on), 0, 1⟩] ++ (wholeB n b).rest.toList) := by unfold fstep; simp only; rw [h]; simp only; rw [if_neg c]; simp
def zOf (z : Option Int × List Bu) : Z := (z.1, z.2.flatMap Bu.runs)
theorem last_runs (u : Option Int) (f : List Bu) (x : Bu) (h : x.ok) : lastEnd (zOf (u, f ++ [x])) = some x.end := by
  unfold zOf
  simp only
  rw [wlast_runs f x h, lastEnd_snoc]
theorem toList_runs (r : Option Bu) : r.toList.flatMap Bu.runs = restRuns r := by cases r <;> simp [restRuns]
theorem fstep_eq {n : Int} {z : Option Int × List Bu} {b : Bu} (hz : OkB z.2) (hb : b.ok) : zOf (fstep n z b) = b.runs.foldl (flR n) (zOf z) := by
  rw [← whole_fl hb, first_fl hb]
  have hok : (wholeB n b).ok := by unfold wholeB; split; exact ⟨by simp, by simp⟩; exact hb
  unfold fstep aheadOf
  simp only
  generalize wholeB n b = w at *
  have rf := runs_first hok
  rcases z with ⟨u, f⟩
  rcases List.eq_nil_or_concat f with rfl | ⟨f', x, rfl⟩
  · cases u with
    | none => simp [zOf, flR_none, rf]
    | some e =>
      simp only [List.getLast?_nil]
      by_cases c : w.tick - e > n
      · rw [if_pos c]
        have : flR n (zOf (some e, [])) (w.tick, w.tick + w.on) = (some e, [(w.tick, w.tick + w.on)]) := by
          show flR n (some e, []) _ = _
          rw [flR_nil, if_neg (by simp only; omega)]
        rw [this]
        simp [zOf, rf]
      · rw [if_neg c]
        have : flR n (zOf (some e, [])) (w.tick, w.tick + w.on) = (some (w.tick + w.on), []) := by
          show flR n (some e, []) _ = _
          rw [flR_nil, if_pos (by simp only; omega)]
        rw [this]
        simp [zOf, toList_runs]
  · rw [List.concat_eq_append] at *
    have hx := hz x (by simp)
    simp only [List.getLast?_append, List.getLast?_singleton, Option.some_or, List.dropLast_concat]
    have e1 : zOf (u, f' ++ [x]) = (u, (wlast f' x).flatMap Bu.runs ++ [(x.end - x.on, x.end)]) := by unfold zOf; simp only; rw [wlast_runs f' x hx]
    by_cases c : w.tick - x.end > n
    · rw [if_pos c, e1, flR_snoc, if_neg (by simp only; omega)]
      unfold zOf
      simp only
      rw [List.flatMap_append, wlast_runs f' x hx]
      simp [rf]
    · rw [if_neg c, e1, flR_snoc, if_pos (by simp only; omega)]
      unfold zOf
      simp only
      rw [List.flatMap_append, List.flatMap_append, toList_runs]
      have r1 : (⟨x.end - x.on, w.tick + w.on - (x.end - x.on), 0, 1⟩ : Bu).runs = [(x.end - x.on, w.tick + w.on)] := by unfold Bu.runs; simp [train]; omega
      simp [r1]
theorem mkb_end (b : Bu) (h : 1 < b.times) : (mkb (b.tick + b.on + b.off) b.on b.off (b.times - 1)).end = b.end := by
  unfold mkb Bu.end
  simp only
  by_cases h2 : b.times - 1 > 1
  · rw [if_pos h2]; grind
  · have h3 : b.times = 2 := by omega
    rw [if_neg h2, h3]; grind
theorem mkb_end' (b : Bu) (h : 1 < b.times) : (mkb b.tick b.on b.off (b.times - 1)).end = b.end - b.on - b.off := by
  unfold mkb Bu.end
  simp only
  by_cases h2 : b.times - 1 > 1
  · rw [if_pos h2]; grind
  · have h3 : b.times = 2 := by omega
    rw [if_neg h2, h3]; grind
theorem rest_fit {M : Int} {b r : Bu} (h : b.fit M) (e : b.rest = some r) : r.fit M ∧ r.end = b.end ∧ b.tick + b.on ≤ r.tick := by
  unfold Bu.rest at e
  have h1 := h.ok.times
  have h2 := h.on
  have h3 := h.off
  have h4 := h.lo
  split at e
  · cases e
  · cases e
    have e2 := mkb_end b (by omega)
    exact ⟨⟨mkb_ok (by omega), h2, by unfold mkb; simp only; split <;> omega, by unfold mkb; simp only; omega, by rw [e2]; exact h.hi⟩, e2, by unfold mkb; simp only; omega⟩
theorem whole_fit {M n : Int} {b : Bu} (h : b.fit M) : (wholeB n b).fit M ∧ (wholeB n b).end = b.end ∧ (wholeB n b).tick = b.tick := by
  unfold wholeB
  split
  · have hm := fit_more h
    have h2 := h.on
    have e : (⟨b.tick, b.end - b.tick, 0, 1⟩ : Bu).end = b.end := by simp only [Bu.end]; omega
    exact ⟨⟨⟨by simp, by simp⟩, by simp only; omega, by simp, h.lo, by rw [e]; exact h.hi⟩, e, rfl⟩
  · exact ⟨h, rfl, rfl⟩
theorem wlast_fit {M t : Int} {f : List Bu} {u : Bu} (h : AddFit M t (f ++ [u])) : AddFit M (u.end - u.on) (wlast f u) ∧ -M ≤ u.end - u.on := by
  have hu := h.fs u (by simp)
  have hm := fit_more hu
  have h1 := hu.ok.times
  have h2 := hu.on
  have h3 := hu.off
  have hch := List.pairwise_append.mp h.ch
  have hlo := hu.lo
  refine ⟨?_, by omega⟩
  unfold wlast
  split
  · refine ⟨fun x hx => h.fs x (List.mem_append_left _ hx), hch.1, fun x hx => ?_⟩
    have := hch.2.2 x (List.mem_of_getLast? hx) u (by simp)
    omega
  · have e := mkb_end' u (by omega)
    have nf : (mkb u.tick u.on u.off (u.times - 1)).fit M := ⟨mkb_ok (by omega), h2, by unfold mkb; simp only; split <;> omega, hlo, by rw [e]; have := hu.hi; omega⟩
    refine ⟨fun x hx => ?_, List.pairwise_append.mpr ⟨hch.1, by simp, fun x hx y hy => ?_⟩, fun x hx => ?_⟩
    · rcases List.mem_append.mp hx with hx | hx
      · exact h.fs x (List.mem_append_left _ hx)
      · simp at hx; subst hx; exact nf
    · simp at hy; subst hy
      exact hch.2.2 x hx u (by simp)
    · simp at hx; subst hx; rw [e]; omega
theorem addFit_snoc {M t : Int} {f : List Bu} {b : Bu} (h : AddFit M t f) (hb : b.fit M) (ht : t ≤ b.tick) : AddFit M b.end (f ++ [b]) := by
  refine ⟨fun x hx => ?_, List.pairwise_append.mpr ⟨h.ch, by simp, fun x hx y hy => ?_⟩, fun x hx => ?_⟩
  · rcases List.mem_append.mp hx with hx | hx
    · exact h.fs x hx
    · simp at hx; subst hx; exact hb
  · simp at hy; subst hy
    rcases List.eq_nil_or_concat f with rfl | ⟨f', u, rfl⟩
    · simp at hx
    · rw [List.concat_eq_append] at *
      have hul := h.l u (by simp)
      rcases List.mem_append.mp hx with hx | hx
      · have a := (List.pairwise_append.mp h.ch).2.2 x hx u (by simp)
        have b := fit_more (h.fs u (by simp))
        have := (h.fs u (by simp)).on
        omega
      · simp at hx; subst hx; omega
  · simp at hx; subst hx; omega
theorem addFit_rest {M : Int} {f : List Bu} {b : Bu} (h : AddFit M (b.tick + b.on) f) (hb : b.fit M) : AddFit M b.end (f ++ b.rest.toList) := by
  cases e : b.rest with
  | none =>
    have hm := fit_more hb
    simp
    exact ⟨h.fs, h.ch, fun u hu => Int.le_trans (h.l u hu) (by omega)⟩
  | some r =>
    obtain ⟨h1, h2, h3⟩ := rest_fit hb e
    have := addFit_snoc h h1 h3
    rw [h2] at this
    simpa using this
theorem fstep_fit {M n t : Int} {z : Option Int × List Bu} {b : Bu} (h : AddFit M t z.2) (hb : b.fit M) (ht : t ≤ b.tick) : AddFit M b.end (fstep n z b).2 := by
  obtain ⟨hw, hwe, hwt⟩ := whole_fit (n := n) hb
  have hm := fit_more hw
  have hon := hw.on
  unfold fstep aheadOf
  simp only
  rw [← hwe]
  rw [← hwt] at ht
  generalize wholeB n b = w at *
  rcases z with ⟨u, f⟩
  simp only at *
  split
  · exact addFit_snoc h hw ht
  · rename_i e he
    split
    · exact addFit_snoc h hw ht
    · rcases List.eq_nil_or_concat f with rfl | ⟨f', x, rfl⟩
      · simp only [List.getLast?_nil]
        have := addFit_rest (f := []) (b := w) ⟨by simp, by simp, by simp⟩ hw
        simpa using this
      · rw [List.concat_eq_append] at *
        simp only [List.getLast?_append, List.getLast?_singleton, Option.some_or, List.dropLast_concat]
        have hx := h.fs x (by simp)
        have hxl := h.l x (by simp)
        have hxm := fit_more hx
        have hxon := hx.on
        obtain ⟨h1, h2⟩ := wlast_fit h
        have e1 : (⟨x.end - x.on, w.tick + w.on - (x.end - x.on), 0, 1⟩ : Bu).end = w.tick + w.on := by unfold Bu.end; simp only; omega
        have nf : (⟨x.end - x.on, w.tick + w.on - (x.end - x.on), 0, 1⟩ : Bu).fit M := ⟨⟨by simp, by simp⟩, by simp only; omega, by simp, h2, by rw [e1]; have := hw.hi; omega⟩
        have s1 := addFit_snoc h1 nf (by simp)
        rw [e1] at s1
        exact addFit_rest s1 hw
theorem fstep_len (n : Int) (z : Option Int × List Bu) (b : Bu) : (fstep n z b).2.length ≤ z.2.length + 2 := by
  have hr : ∀ r : Option Bu, r.toList.length ≤ 1 := fun r => by cases r <;> simp
  unfold fstep aheadOf
  simp only
  split
  · simp
  · split
    · simp
    · rcases z with ⟨u, f⟩
      rcases List.eq_nil_or_concat f with rfl | ⟨f', x, rfl⟩
      · simp only [List.getLast?_nil]; have := hr (wholeB n b).rest; simp; omega
      · rw [List.concat_eq_append]
        simp only [List.getLast?_append, List.getLast?_singleton, Option.some_or, List.dropLast_concat]
        have := hr (wholeB n b).rest
        have : (wlast f' x).length ≤ f'.length + 1 := by unfold wlast; split <;> simp
        simp; omega
end Law
end
section
set_option autoImplicit false
/-! Signals that are in order stay so. -/
namespace Law
open PySem PL
def AO : Tri := ⟨some 0, [], some 0⟩
structure ZF (M : Int) (z : Z) : Prop where
  runs : ∀ r ∈ z.2, RunOk M r
  pw : z.2.Pairwise fun x y => x.2 < y.1
  u : ∀ v, z.1 = some v → -M ≤ v ∧ v ≤ M ∧ ∀ r ∈ z.2, v < r.1
structure WF (M : Int) (t : Tri) : Prop where
  z : ZF M (t.u, t.R)
  s : ∀ w, t.s = some w → -M ≤ w ∧ w ≤ M ∧ ∀ r ∈ t.R, r.2 < w
  us : ∀ v w, t.u = some v → t.s = some w → v < w
theorem zf_snoc {M : Int} {u : Option Int} {l : List Run} {r : Run} : ZF M (u, l ++ [r]) ↔ ZF M (u, l) ∧ RunOk M r ∧ (∀ x ∈ l, x.2 < r.1) ∧ ∀ v, u = some v → v < r.1 := by
  constructor
  · intro h
    have hp := List.pairwise_append.mp h.pw
    exact ⟨⟨fun x hx => h.runs x (List.mem_append_left _ hx), hp.1, fun v hv => ⟨(h.u v hv).1, (h.u v hv).2.1, fun x hx => (h.u v hv).2.2 x (List.mem_append_left _ hx)⟩⟩, h.runs r (by simp), fun x hx => hp.2.2 x hx r (by simp), fun v hv => (h.u v hv).2.2 r (by simp)⟩
  · rintro ⟨h, h1, h2, h3⟩
    refine ⟨fun x hx => ?_, List.pairwise_append.mpr ⟨h.pw, by simp, fun x hx y hy => ?_⟩, fun v hv => ⟨(h.u v hv).1, (h.u v hv).2.1, fun x hx => ?_⟩⟩
    · rcases List.mem_append.mp hx with hx | hx
      · exact h.runs x hx
      · simp at hx; subst hx; exact h1
    · simp at hy; subst hy; exact h2 x hx
    · rcases List.mem_append.mp hx with hx | hx
      · exact (h.u v hv).2.2 x hx
      · simp at hx; subst hx; exact h3 v hv
theorem flR_zf {M n : Int} {z : Z} {r : Run} (h : ZF M z) (hr : RunOk M r) (ho : ∀ e, lastEnd z = some e → e < r.1) : ZF M (flR n z r) := by
  rcases z with ⟨u, l⟩
  have hl := hr.len
  have hlo := hr.lo
  have hhi := hr.hi
  rcases List.eq_nil_or_concat l with rfl | ⟨l', x, rfl⟩
  · cases u with
    | none => rw [flR_none]; exact ⟨by simp; exact hr, by simp, fun v hv => (nomatch hv)⟩
    | some e =>
      have := ho e rfl
      rw [flR_nil]
      split
      · exact ⟨by simp, by simp, fun v hv => by cases hv; exact ⟨by omega, by omega, by simp⟩⟩
      · have hu := h.u e rfl
        exact ⟨by simp; exact hr, by simp, fun v hv => by cases hv; exact ⟨hu.1, hu.2.1, by simp; omega⟩⟩
  · rw [List.concat_eq_append] at *
    have hx := ho x.2 (lastEnd_snoc _ _ _)
    obtain ⟨h1, h2, h3, h4⟩ := zf_snoc.mp h
    have hxl := h2.len
    rw [flR_snoc]
    split
    · exact zf_snoc.mpr ⟨h1, ⟨by simp only; omega, h2.lo, hhi⟩, h3, h4⟩
    · refine zf_snoc.mpr ⟨h, hr, fun y hy => ?_, fun v hv => ?_⟩
      · rcases List.mem_append.mp hy with hy | hy
        · have := h3 y hy; omega
        · simp at hy; subst hy; exact hx
      · have := h4 v hv; omega
theorem fl_zf {M n : Int} (rs : List Run) : ∀ z : Z, ZF M z → (∀ r ∈ rs, RunOk M r) → rs.Pairwise (fun x y => x.2 < y.1) → (∀ e, lastEnd z = some e → ∀ r ∈ rs, e < r.1) →
    ZF M (rs.foldl (flR n) z) ∧ ∀ w, (∀ e, lastEnd z = some e → e < w) → (∀ r ∈ rs, r.2 < w) → ∀ e, lastEnd (rs.foldl (flR n) z) = some e → e < w := by
  induction rs with
  | nil => intro z h _ _ _; exact ⟨h, fun w h _ => h⟩
  | cons r rs ih =>
    intro z h h1 h2 h3
    have hp := List.pairwise_cons.mp h2
    have hz := flR_zf (n := n) h (h1 r List.mem_cons_self) (fun e he => h3 e he r List.mem_cons_self)
    obtain ⟨a, b⟩ := ih (flR n z r) hz (fun x hx => h1 x (List.mem_cons_of_mem _ hx)) hp.2 (fun e he x hx => by rw [flR_last] at he; cases he; exact hp.1 x hx)
    exact ⟨a, fun w _ hw => b w (fun e he => by rw [flR_last] at he; cases he; exact hw r List.mem_cons_self) fun x hx => hw x (List.mem_cons_of_mem _ hx)⟩
theorem lastEnd_mem {z : Z} {e : Int} (h : lastEnd z = some e) : (z.2 = [] ∧ z.1 = some e) ∨ ∃ r ∈ z.2, r.2 = e := by
  rcases z with ⟨u, l⟩
  rcases List.eq_nil_or_concat l with rfl | ⟨l', x, rfl⟩
  · exact .inl ⟨rfl, h⟩
  · rw [List.concat_eq_append] at *
    rw [lastEnd_snoc] at h
    cases h
    exact .inr ⟨x, by simp, rfl⟩
theorem all_lt_last {M : Int} {z : Z} (h : ZF M z) {e : Int} (he : lastEnd z = some e) : ∀ r ∈ z.2, r.2 ≤ e := by
  rcases z with ⟨u, l⟩
  rcases List.eq_nil_or_concat l with rfl | ⟨l', x, rfl⟩
  · simp
  · rw [List.concat_eq_append] at *
    rw [lastEnd_snoc] at he
    cases he
    obtain ⟨_, h2, h3, _⟩ := zf_snoc.mp h
    have := h2.len
    intro r hr
    rcases List.mem_append.mp hr with hr | hr
    · have := h3 r hr; omega
    · simp at hr; subst hr; omega
theorem u_le_last {M : Int} {z : Z} (h : ZF M z) {e v : Int} (he : lastEnd z = some e) (hv : z.1 = some v) : v ≤ e := by
  rcases lastEnd_mem he with ⟨_, h2⟩ | ⟨r, hr, rfl⟩
  · rw [hv] at h2; cases h2; omega
  · have := (h.u v hv).2.2 r hr
    have := (h.runs r hr).len
    omega
theorem lastEnd_some {z : Z} {r : Run} (h : r ∈ z.2) : ∃ e, lastEnd z = some e := by
  rcases z with ⟨u, l⟩
  rcases List.eq_nil_or_concat l with rfl | ⟨l', x, rfl⟩
  · simp at h
  · rw [List.concat_eq_append]; exact ⟨_, lastEnd_snoc _ _ _⟩
theorem lastEnd_some' {u : Option Int} {l : List Run} {v : Int} (h : u = some v) : ∃ e, lastEnd (u, l) = some e := by
  rcases List.eq_nil_or_concat l with rfl | ⟨l', x, rfl⟩
  · exact ⟨v, h⟩
  · rw [List.concat_eq_append]; exact ⟨_, lastEnd_snoc _ _ _⟩
theorem fill_wf {M n : Int} {t : Tri} (h : WF M t) : WF M (fill n t) ∨ fill n t = AO := by
  have h0 : ZF M (t.u, []) := ⟨by simp, by simp, fun v hv => ⟨(h.z.u v hv).1, (h.z.u v hv).2.1, by simp⟩⟩
  obtain ⟨hz, hw⟩ := fl_zf (n := n) t.R (t.u, []) h0 h.z.runs h.z.pw (fun e he r hr => (h.z.u e he).2.2 r hr)
  unfold fill
  simp only
  have hs2 : ∀ w, t.s = some w → ∀ e, lastEnd (t.R.foldl (flR n) (t.u, [])) = some e → e < w := fun w hs => hw w (fun e he => h.us e w he hs) (fun r hr => (h.s w hs).2.2 r hr)
  generalize t.R.foldl (flR n) (t.u, []) = z at *
  have keep : WF M ⟨z.1, z.2, t.s⟩ := by
    refine ⟨hz, fun w hs => ⟨(h.s w hs).1, (h.s w hs).2.1, fun r hr => ?_⟩, fun v w hv hs => ?_⟩
    · obtain ⟨e, he⟩ := lastEnd_some hr
      have a := all_lt_last hz he r hr
      have b := hs2 w hs e he
      omega
    · obtain ⟨e, he⟩ := lastEnd_some' (l := z.2) hv
      have a := u_le_last hz he hv
      have b := hs2 w hs e he
      omega
  cases hs : t.s with
  | none => rw [hs] at keep; left; cases lastEnd z <;> exact keep
  | some w =>
    rw [hs] at keep
    cases he : lastEnd z with
    | none => exact .inl keep
    | some e =>
      simp only
      by_cases c : w - e ≤ n
      · rw [if_pos c]
        rcases z with ⟨u, l⟩
        rcases List.eq_nil_or_concat l with rfl | ⟨l', x, rfl⟩
        · exact .inr rfl
        · rw [List.concat_eq_append] at *
          left
          obtain ⟨h1, h2, h3, h4⟩ := zf_snoc.mp hz
          have := h2.len
          have := h2.lo
          have := h2.hi
          simp only [List.getLast?_append, List.getLast?_singleton, Option.some_or, List.dropLast_concat]
          exact ⟨h1, fun w' hw' => by cases hw'; exact ⟨by omega, by omega, h3⟩, fun v w' hv hw' => by cases hw'; exact h4 v hv⟩
      · rw [if_neg c]
        exact .inl keep
theorem drop_wf {M n : Int} {t : Tri} (h : WF M t) : WF M (drop n t) := by
  refine ⟨⟨fun r hr => h.z.runs r (List.mem_filter.mp hr).1, h.z.pw.filter _, fun v hv => ⟨(h.z.u v hv).1, (h.z.u v hv).2.1, fun r hr => (h.z.u v hv).2.2 r (List.mem_filter.mp hr).1⟩⟩, fun w hw => ⟨(h.s w hw).1, (h.s w hw).2.1, fun r hr => (h.s w hw).2.2 r (List.mem_filter.mp hr).1⟩, h.us⟩
theorem fill_AO {n : Int} (hn : 0 ≤ n) : fill n AO = AO := by
  unfold fill AO
  simp only [List.foldl_nil]
  have e : lastEnd (some 0, []) = some 0 := rfl
  simp [e, hn]
theorem drop_AO (n : Int) : drop n AO = AO := rfl
theorem wf_ok {M : Int} {t : Tri} (h : WF M t) : RunsOk M t.R := ⟨h.z.runs, h.z.pw.imp fun h => Int.le_of_lt h⟩
end Law
end
section
set_option autoImplicit false
/-! Signals as flips: whether it is on at first, and the ticks at which it turns. -/
namespace Law
open PySem PL
abbrev Fl := Bool × List Int
/-- what is taken out: each first and second, if no further apart -/
def rm (n : Int) : List Int → List Int
  | [] => []
  | [a] => [a]
  | a :: b :: l => if b - a ≤ n then rm n l else a :: b :: rm n l
def rm' (n : Int) : List Int → List Int
  | [] => []
  | v :: l => v :: rm n l
def sh (a b : Int) : List Int → List Int
  | [] => []
  | x :: l => (x + a) :: sh b a l
def fD (n : Int) (x : Fl) : Fl := (x.1, if x.1 then rm' n x.2 else rm n x.2)
def fF (n : Int) (x : Fl) : Fl := (x.1, if x.1 then rm n x.2 else rm' n x.2)
def fM (a b : Int) (x : Fl) : Fl := (x.1, if x.1 then sh b a x.2 else sh a b x.2)
def fT (x : Fl) : Fl := (!x.1, x.2)
theorem fD_T (n : Int) (x : Fl) : fD n (fT x) = fT (fF n x) := by rcases x with ⟨b, l⟩; cases b <;> rfl
theorem fF_T (n : Int) (x : Fl) : fF n (fT x) = fT (fD n x) := by rcases x with ⟨b, l⟩; cases b <;> rfl
theorem fM_T (a b : Int) (x : Fl) : fM a b (fT x) = fT (fM b a x) := by rcases x with ⟨c, l⟩; cases c <;> rfl
theorem fT_T (x : Fl) : fT (fT x) = x := by rcases x with ⟨c, l⟩; simp [fT]
/-- apart by more than p and more than q, by turns -/
def alt (p q : Int) : List Int → Prop
  | [] => True
  | [_] => True
  | a :: b :: l => p < b - a ∧ alt q p (b :: l)
def Wd (p q : Int) (x : Fl) : Prop := if x.1 then alt q p x.2 else alt p q x.2
theorem Wd_T {p q : Int} {x : Fl} : Wd p q (fT x) ↔ Wd q p x := by rcases x with ⟨c, l⟩; cases c <;> simp [Wd, fT]
theorem alt_tail {p q a : Int} {l : List Int} (h : alt p q (a :: l)) : alt q p l := by
  cases l with
  | nil => trivial
  | cons b l => exact h.2
theorem alt_cons {p q a : Int} {l : List Int} (h : alt q p l) (h2 : ∀ b r, l = b :: r → p < b - a) : alt p q (a :: l) := by
  cases l with
  | nil => trivial
  | cons b l => exact ⟨h2 b l rfl, h⟩
theorem alt_mono {p q p' q' : Int} (hp : p' ≤ p) (hq : q' ≤ q) : ∀ {l : List Int}, alt p q l → alt p' q' l
  | [], _ => trivial
  | [_], _ => trivial
  | a :: b :: l, h => ⟨by have := h.1; omega, alt_mono hq hp (l := b :: l) h.2⟩
theorem alt_sh {p q : Int} (a b : Int) : ∀ {l : List Int}, alt p q l → alt (p + b - a) (q + a - b) (sh a b l)
  | [], _ => trivial
  | [_], _ => trivial
  | x :: y :: l, h => ⟨by have := h.1; show p + b - a < (y + b) - (x + a); omega, alt_sh b a (l := y :: l) h.2⟩
theorem Wd_M {p q : Int} {x : Fl} (a b : Int) (h : Wd p q x) : Wd (p + b - a) (q + a - b) (fM a b x) := by
  rcases x with ⟨c, l⟩
  cases c
  · exact alt_sh a b h
  · exact alt_sh b a h
theorem rm_sh (n a b : Int) : ∀ l : List Int, rm n (sh a b l) = sh a b (rm (n + a - b) l)
  | [] => rfl
  | [_] => rfl
  | x :: y :: l => by
    have ih := rm_sh n a b l
    have e : sh a b (x :: y :: l) = (x + a) :: (y + b) :: sh a b l := rfl
    rw [e, rm, rm]
    by_cases c : y - x ≤ n + a - b
    · rw [if_pos c, if_pos (by omega), ih]
    · rw [if_neg c, if_neg (by omega), ih]; rfl
theorem rm'_sh (n a b : Int) (l : List Int) : rm' n (sh a b l) = sh a b (rm' (n + b - a) l) := by
  cases l with
  | nil => rfl
  | cons x l => simp only [sh, rm', rm_sh]
theorem fD_M (n a b : Int) (x : Fl) : fD n (fM a b x) = fM a b (fD (n + a - b) x) := by
  rcases x with ⟨c, l⟩
  cases c
  · simp [fD, fM, rm_sh]
  · simp [fD, fM, rm'_sh]
theorem fF_M (n a b : Int) (x : Fl) : fF n (fM a b x) = fM a b (fF (n + b - a) x) := by
  rcases x with ⟨c, l⟩
  cases c
  · simp [fF, fM, rm'_sh]
  · simp [fF, fM, rm_sh]
theorem sh_sh (a b c d : Int) : ∀ l : List Int, sh a b (sh c d l) = sh (a + c) (b + d) l
  | [] => rfl
  | x :: l => by simp only [sh, sh_sh b a d c l]; congr 1; omega
theorem fM_M (a b c d : Int) (x : Fl) : fM a b (fM c d x) = fM (a + c) (b + d) x := by
  rcases x with ⟨e, l⟩
  cases e <;> simp [fM, sh_sh]
theorem sh_zero : ∀ l : List Int, sh 0 0 l = l
  | [] => rfl
  | x :: l => by simp [sh, sh_zero l]
theorem fM_zero (x : Fl) : fM 0 0 x = x := by rcases x with ⟨e, l⟩; cases e <;> simp [fM, sh_zero]
theorem rm_noop {n p q : Int} (h : n ≤ p) : ∀ {l : List Int}, alt p q l → rm n l = l
  | [], _ => rfl
  | [_], _ => rfl
  | a :: b :: l, hl => by
    have h1 := hl.1
    rw [rm, if_neg (by omega), rm_noop h (alt_tail (alt_tail hl))]
theorem rm'_noop {n p q : Int} (h : n ≤ q) {l : List Int} (hl : alt p q l) : rm' n l = l := by
  cases l with
  | nil => rfl
  | cons v l => rw [rm', rm_noop h (alt_tail hl)]
theorem fD_noop {n p q : Int} (h : n ≤ p) {x : Fl} (hx : Wd p q x) : fD n x = x := by
  rcases x with ⟨c, l⟩
  cases c
  · simp only [fD, Bool.false_eq_true, if_false]; rw [rm_noop h hx]
  · simp only [fD, if_true]; rw [rm'_noop h hx]
theorem fF_noop {n p q : Int} (h : n ≤ q) {x : Fl} (hx : Wd p q x) : fF n x = x := by
  have := fD_noop (n := n) h (Wd_T.mpr hx)
  rw [fD_T] at this
  have := congrArg fT this
  rwa [fT_T, fT_T] at this
theorem rm_rm {m n : Int} (h : m ≤ n) : ∀ l : List Int, rm n (rm m l) = rm n l
  | [] => rfl
  | [_] => rfl
  | a :: b :: l => by
    have ih := rm_rm h l
    rw [rm.eq_3 m, rm.eq_3 n]
    by_cases c : b - a ≤ m
    · rw [if_pos c, if_pos (by omega), ih]
    · rw [if_neg c, rm.eq_3 n, ih]
theorem fD_D {m n : Int} (h : m ≤ n) (x : Fl) : fD n (fD m x) = fD n x := by
  rcases x with ⟨c, l⟩
  cases c
  · simp [fD, rm_rm h]
  · cases l with
    | nil => rfl
    | cons v l => simp [fD, rm', rm_rm h]
theorem fF_F {m n : Int} (h : m ≤ n) (x : Fl) : fF n (fF m x) = fF n x := by
  have := fD_D h (fT x)
  rw [fD_T, fD_T, fD_T] at this
  have := congrArg fT this
  rwa [fT_T, fT_T] at this
/-- the first of what stays lies no further to the left -/
theorem rm_head {n p q : Int} (hp : 0 ≤ p) (hq : 0 ≤ q) : ∀ {l : List Int}, alt p q l → ∀ a r b s, l = a :: r → rm n l = b :: s → a ≤ b
  | [], _, a, r, b, s, h, _ => nomatch h
  | [x], _, a, r, b, s, h, h2 => by cases h; cases h2; exact Int.le_refl _
  | x :: y :: l, hl, a, r, b, s, h, h2 => by
    cases h
    rw [rm] at h2
    have h1 := hl.1
    split at h2
    · cases l with
      | nil => simp [rm] at h2
      | cons z l =>
        have := rm_head hp hq (l := z :: l) (alt_tail (alt_tail hl)) z l b s rfl h2
        have h3 := hl.2.1
        omega
    · cases h2; exact Int.le_refl _
theorem rm_alt {n p q : Int} (hp : 0 ≤ p) (hq : 0 ≤ q) (hn : p ≤ n) : ∀ {l : List Int}, alt p q l → alt n q (rm n l)
  | [], _ => trivial
  | [x], _ => trivial
  | x :: y :: l, hl => by
    have ih := rm_alt hp hq hn (alt_tail (alt_tail hl))
    have h1 := hl.1
    rw [rm]
    split
    · exact ih
    · refine ⟨by omega, alt_cons ih ?_⟩
      intro b r hb
      cases l with
      | nil => simp [rm] at hb
      | cons z l =>
        have := rm_head (n := n) hp hq (alt_tail (alt_tail hl)) z l b r rfl hb
        have h3 := hl.2.1
        omega
theorem Wd_D {n p q : Int} (hp : 0 ≤ p) (hq : 0 ≤ q) (hn : p ≤ n) {x : Fl} (h : Wd p q x) : Wd n q (fD n x) := by
  rcases x with ⟨c, l⟩
  cases c
  · exact rm_alt hp hq hn h
  · cases l with
    | nil => trivial
    | cons v l =>
      have h2 : alt p q l := alt_tail h
      refine alt_cons (rm_alt hp hq hn h2) ?_
      intro b r hb
      cases l with
      | nil => simp [rm] at hb
      | cons z l =>
        have := rm_head (n := n) hp hq h2 z l b r rfl hb
        have h3 := h.1
        omega
theorem Wd_F {n p q : Int} (hp : 0 ≤ p) (hq : 0 ≤ q) (hn : q ≤ n) {x : Fl} (h : Wd p q x) : Wd p n (fF n x) := by
  have := Wd_D (x := fT x) hq hp hn (Wd_T.mpr h)
  rw [fD_T] at this
  exact Wd_T.mp this
end Law
end
section
set_option autoImplicit false
/-! What a row's form means is what the row answers. -/
namespace Law
open PySem PL
def fStep (x : Fl) (s : Sg) : Fl := if s.1 then fD s.2 x else fF s.2 x
def fcl (steps : List Sg) (x : Fl) : Fl := steps.foldl fStep x
def fbp (x : Fl) : Part → Fl
  | .turn => fT x
  | .delay k => fM k k x
  | .on k => fM k 0 (fD k x)
  | .off k => fM 0 k (fF k x)
def fans (row : List Part) (x : Fl) : Fl := row.foldl fbp x
def fbare (s : W) (x : Fl) : Fl := fM s.l0 s.l1 (fcl s.st x)
def fmeant (s : W) (x : Fl) : Fl := if s.t then fT (fbare s x) else fbare s x
structure CI (s : W) (x : Fl) : Prop where
  at_ : s.at_ = s.l0 - s.l1
  inv : s.inv
  hi : 0 ≤ s.hi
  lo : s.lo ≤ 0
  wd : Wd s.hi (-s.lo) (fcl s.st x)
  last : ∀ b n, s.st.getLast? = some (b, n) → n ≤ if b then s.hi else -s.lo
theorem fcl_snoc (f : List Sg) (s : Sg) (x : Fl) : fcl (f ++ [s]) x = fStep (fcl f x) s := by unfold fcl; rw [List.foldl_append]; rfl
theorem fcl_ws (f : List Sg) (b : Bool) (n : Int) (x : Fl) (h : ∀ m, f.getLast? = some (b, m) → m ≤ n) : fcl (ws f b n) x = fStep (fcl f x) (b, n) := by
  unfold ws
  rcases List.eq_nil_or_concat f with rfl | ⟨g, ⟨c, m⟩, rfl⟩
  · rfl
  · rw [List.concat_eq_append] at *
    by_cases hc : c = b
    · subst hc
      have hm := h m (by simp)
      simp only [List.getLast?_append, List.getLast?_singleton, Option.some_or, Option.map_some, if_true, List.dropLast_concat]
      rw [fcl_snoc, fcl_snoc]
      cases c
      · exact (fF_F hm _).symm
      · exact (fD_D hm _).symm
    · rw [if_neg (by simpa using hc), fcl_snoc]
theorem getLast_ws (f : List Sg) (b : Bool) (n : Int) : (ws f b n).getLast? = some (b, n) := by unfold ws; simp
theorem U_step {s : W} {x : Fl} (h : CI s x) {k : Int} (hk : 0 ≤ k) : CI (s.U k) x ∧ fbare (s.U k) x = fM k 0 (fD k (fbare s x)) := by
  have h1 := h.inv.h
  have h2 := h.inv.l
  have h3 := h.at_
  have hinv := U_inv h.inv hk
  unfold fbare
  rw [fD_M, fM_M]
  have e1 : k + s.l0 - s.l1 = s.at_ + k := by omega
  rw [e1]
  unfold W.U at hinv ⊢
  by_cases c : s.at_ + k > s.hi
  · rw [if_pos c] at hinv ⊢
    simp only
    have e2 : fcl (ws s.st true (s.at_ + k)) x = fD (s.at_ + k) (fcl s.st x) := fcl_ws _ _ _ _ fun m hm => by have := h.last true m hm; simp at this; omega
    rw [e2]
    refine ⟨⟨by simp only; omega, hinv, by have := h.hi; simp only; omega, h.lo, ?_, ?_⟩, by congr 1 <;> omega⟩
    · simp only; rw [e2]; exact Wd_D h.hi (by have := h.lo; omega) (by omega) h.wd
    · intro b n hb
      simp only [getLast_ws] at hb
      cases hb; simp
  · rw [if_neg c] at hinv ⊢
    simp only
    rw [fD_noop (by omega) h.wd]
    exact ⟨⟨by simp only; omega, hinv, h.hi, h.lo, h.wd, h.last⟩, by congr 1 <;> omega⟩
theorem D_step {s : W} {x : Fl} (h : CI s x) {k : Int} (hk : 0 ≤ k) : CI (s.D k) x ∧ fbare (s.D k) x = fM 0 k (fF k (fbare s x)) := by
  have h1 := h.inv.h
  have h2 := h.inv.l
  have h3 := h.at_
  have hinv := D_inv h.inv hk
  unfold fbare
  rw [fF_M, fM_M]
  have e1 : k + s.l1 - s.l0 = -(s.at_ - k) := by omega
  rw [e1]
  unfold W.D at hinv ⊢
  by_cases c : s.at_ - k < s.lo
  · rw [if_pos c] at hinv ⊢
    simp only
    have e2 : fcl (ws s.st false (-(s.at_ - k))) x = fF (-(s.at_ - k)) (fcl s.st x) := fcl_ws _ _ _ _ fun m hm => by have := h.last false m hm; simp at this; omega
    rw [e2]
    refine ⟨⟨by simp only; omega, hinv, h.hi, by have := h.lo; simp only; omega, ?_, ?_⟩, by congr 1 <;> omega⟩
    · simp only; rw [e2]; exact Wd_F h.hi (by have := h.lo; omega) (by omega) h.wd
    · intro b n hb
      simp only [getLast_ws] at hb
      cases hb; simp
  · rw [if_neg c] at hinv ⊢
    simp only
    rw [fF_noop (by omega) h.wd]
    exact ⟨⟨by simp only; omega, hinv, h.hi, h.lo, h.wd, h.last⟩, by congr 1 <;> omega⟩
theorem W0_CI {x : Fl} (h : Wd 0 0 x) : CI W0 x := ⟨rfl, W0_inv, Int.le_refl _, Int.le_refl _, h, fun _ _ hb => nomatch hb⟩
theorem wk_step {s : W} {x : Fl} (h : CI s x) {p : Part} (hp : 0 ≤ p.num) : CI (wk s p) x ∧ fmeant (wk s p) x = fbp (fmeant s x) p := by
  cases p with
  | turn =>
    rw [wk_turn h.inv]
    refine ⟨⟨h.at_, ⟨h.inv.h, h.inv.l⟩, h.hi, h.lo, h.wd, h.last⟩, ?_⟩
    have e : fbare { s with t := !s.t } x = fbare s x := rfl
    unfold fmeant
    rw [e]
    cases s.t <;> simp [fbp, fT_T]
  | delay k =>
    rw [wk_delay h.inv]
    refine ⟨⟨by have := h.at_; simp only; omega, ⟨h.inv.h, h.inv.l⟩, h.hi, h.lo, h.wd, h.last⟩, ?_⟩
    have e : fbare { s with l0 := s.l0 + k, l1 := s.l1 + k } x = fM k k (fbare s x) := by
      unfold fbare
      rw [fM_M]
      simp only
      congr 1 <;> omega
    unfold fmeant
    rw [e]
    cases s.t <;> simp [fbp, fM_T]
  | on k =>
    simp only [num_on] at hp
    rw [wk_on h.inv hp]
    unfold fmeant
    cases ht : s.t
    · obtain ⟨a, b⟩ := U_step h hp
      have e := U_t s k
      rw [ht] at e
      simp only [Bool.false_eq_true, if_false, fbp, e]
      exact ⟨a, b⟩
    · obtain ⟨a, b⟩ := D_step h hp
      have e := D_t s k
      rw [ht] at e
      simp only [if_true, fbp, e]
      exact ⟨a, by rw [b, fD_T, fM_T]⟩
  | off k =>
    simp only [num_off] at hp
    rw [wk_off h.inv hp]
    unfold fmeant
    cases ht : s.t
    · obtain ⟨a, b⟩ := D_step h hp
      have e := D_t s k
      rw [ht] at e
      simp only [Bool.false_eq_true, if_false, fbp, e]
      exact ⟨a, b⟩
    · obtain ⟨a, b⟩ := U_step h hp
      have e := U_t s k
      rw [ht] at e
      simp only [if_true, fbp, e]
      exact ⟨a, by rw [b, fF_T, fM_T]⟩
theorem meaning {row : List Part} (hr : ∀ p ∈ row, 0 ≤ p.num) {x : Fl} (hx : Wd 0 0 x) : CI (wks row) x ∧ fmeant (wks row) x = fans row x := by
  revert hr
  refine rev_ind (P := fun row => (∀ p ∈ row, 0 ≤ p.num) → CI (wks row) x ∧ fmeant (wks row) x = fans row x) ?_ ?_ row
  · intro _
    exact ⟨W0_CI hx, by show fM 0 0 x = x; exact fM_zero x⟩
  · intro l p ih h
    obtain ⟨a, b⟩ := ih fun q hq => h q (List.mem_append_left _ hq)
    rw [wks_snoc]
    obtain ⟨c, d⟩ := wk_step a (h p (by simp))
    exact ⟨c, by rw [d, b]; unfold fans; rw [List.foldl_append]; rfl⟩
end Law
end
section
set_option autoImplicit false
/-! Flips and triples. -/
namespace Law
open PySem PL
def isAO (t : Tri) : Bool := t.u == some 0 && t.R.isEmpty && t.s == some 0
/-- in order, or always on -/
def Fit2 (M : Int) (t : Tri) : Prop := WF M t ∨ t = AO
theorem wf_notAO {M : Int} {t : Tri} (h : WF M t) : isAO t = false := by
  unfold isAO
  by_cases h1 : t.u = some 0
  · by_cases h2 : t.s = some 0
    · have := h.us 0 0 h1 h2; omega
    · simp [h2]
  · simp [h1]
theorem AO_is : isAO AO = true := rfl
def pair : List Int → List Run × Option Int
  | [] => ([], none)
  | [a] => ([], some a)
  | a :: b :: l => ((a, b) :: (pair l).1, (pair l).2)
def ofF : Fl → Tri
  | (false, l) => ⟨none, (pair l).1, (pair l).2⟩
  | (true, []) => AO
  | (true, v :: l) => ⟨some v, (pair l).1, (pair l).2⟩
def flat : List Run → Option Int → List Int
  | [], none => []
  | [], some w => [w]
  | r :: R, s => r.1 :: r.2 :: flat R s
theorem pair_flat : ∀ (R : List Run) (s : Option Int), pair (flat R s) = (R, s)
  | [], none => rfl
  | [], some w => rfl
  | r :: R, s => by simp only [flat, pair, pair_flat R s]
theorem flat_pair : ∀ l : List Int, flat (pair l).1 (pair l).2 = l
  | [] => rfl
  | [a] => rfl
  | a :: b :: l => by simp only [pair, flat, flat_pair l]
theorem flat_snoc : ∀ (R : List Run) (r : Run) (s : Option Int), flat (R ++ [r]) s = flat R none ++ r.1 :: r.2 :: s.toList
  | [], r, none => rfl
  | [], r, some w => rfl
  | x :: R, r, s => by simp only [List.cons_append, flat, flat_snoc R r s]
theorem flat_some : ∀ (R : List Run) (w : Int), flat R (some w) = flat R none ++ [w]
  | [], w => rfl
  | x :: R, w => by simp only [List.cons_append, flat, flat_some R w]
/-! dropping and filling -/
theorem pair_rm (n : Int) : ∀ l : List Int, pair (rm n l) = ((pair l).1.filter (fun r => decide (r.2 - r.1 > n)), (pair l).2)
  | [] => rfl
  | [a] => rfl
  | a :: b :: l => by
    have ih := pair_rm n l
    rw [rm]
    by_cases c : b - a ≤ n
    · rw [if_pos c, ih]
      simp only [pair, List.filter_cons]
      rw [if_neg (by simp; omega)]
    · rw [if_neg c]
      simp only [pair, ih, List.filter_cons]
      rw [if_pos (by simp; omega)]
theorem drop_ofF (n : Int) (x : Fl) : drop n (ofF x) = ofF (fD n x) := by
  rcases x with ⟨b, l⟩
  cases b
  · simp [fD, ofF, drop, pair_rm]
  · cases l with
    | nil => rfl
    | cons v l => simp [fD, ofF, drop, pair_rm, rm']
/-- what is told of runs, filled up to here, and of the last on -/
def fin (n : Int) (z : Z) (s : Option Int) : Tri := match s with
  | none => ⟨z.1, z.2, none⟩
  | some w => match lastEnd z with
    | none => ⟨z.1, z.2, some w⟩
    | some e => if w - e ≤ n then (match z.2.getLast? with | none => AO | some r => ⟨z.1, z.2.dropLast, some r.1⟩) else ⟨z.1, z.2, some w⟩
theorem fill_fin (n : Int) (t : Tri) : fill n t = fin n (t.R.foldl (flR n) (t.u, [])) t.s := by
  unfold fill fin
  simp only
  generalize t.R.foldl (flR n) (t.u, []) = z
  rcases z with ⟨u, l⟩
  rcases t with ⟨tu, tR, ts⟩
  simp only
  cases ts with
  | none => cases lastEnd (u, l) <;> rfl
  | some w =>
    cases lastEnd (u, l) with
    | none => rfl
    | some e =>
      simp only
      cases l.getLast? <;> rfl
/-- what a beginning is -/
def zF (z : Z) (m : List Int) : Fl := (z.1.isSome, z.1.toList ++ flat z.2 none ++ m)
theorem flat_app : ∀ (R R' : List Run) (s : Option Int), flat R none ++ flat R' s = flat (R ++ R') s
  | [], R', s => rfl
  | x :: R, R', s => by simp only [List.cons_append, flat, flat_app R R' s]
theorem ofF_z (u : Option Int) (R : List Run) (s : Option Int) (h : u.isSome = true ∨ u = none) : ofF (u.isSome, u.toList ++ flat R s) = ⟨u, R, s⟩ := by
  cases u with
  | none => simp [ofF, pair_flat]
  | some v => simp [ofF, pair_flat]
theorem ofF_t (u : Option Int) (R : List Run) (s : Option Int) : ofF (u.isSome, u.toList ++ flat R s) = ⟨u, R, s⟩ := ofF_z u R s (by cases u <;> simp)
theorem fin_snoc (n : Int) (u : Option Int) (l : List Run) (x : Run) (R : List Run) (s : Option Int) : fin n (R.foldl (flR n) (u, l ++ [x])) s = ofF (u.isSome, u.toList ++ flat l none ++ x.1 :: rm n (x.2 :: flat R s)) := by
  induction R generalizing l x with
  | nil =>
    cases s with
    | none =>
      have := ofF_t u (l ++ [x]) none
      rw [flat_snoc] at this
      simp only [Option.toList_none] at this
      simp only [List.foldl_nil, flat, rm, fin]
      rw [List.append_assoc, this]
    | some w =>
      simp only [List.foldl_nil, fin, lastEnd_snoc, flat]
      rw [rm]
      by_cases c : w - x.2 ≤ n
      · rw [if_pos c, if_pos c]
        have := ofF_t u l (some x.1)
        rw [flat_some, ← List.append_assoc] at this
        simp only [List.getLast?_append, List.getLast?_singleton, Option.some_or, List.dropLast_concat]
        rw [← this]; rfl
      · rw [if_neg c, if_neg c]
        have := ofF_t u (l ++ [x]) (some w)
        rw [flat_snoc] at this
        rw [← this]
        simp [rm]
  | cons r R ih =>
    rw [List.foldl_cons, flR_snoc]
    have e : flat (r :: R) s = r.1 :: r.2 :: flat R s := rfl
    rw [e, rm]
    by_cases c : r.1 - x.2 ≤ n
    · rw [if_pos c, if_pos c, ih]
    · rw [if_neg c, if_neg c, ih, flat_snoc]
      simp
theorem fin_head (n : Int) (v : Int) (R : List Run) (s : Option Int) : fin n (R.foldl (flR n) (some v, [])) s = ofF (true, rm n (v :: flat R s)) := by
  induction R generalizing v with
  | nil =>
    cases s with
    | none => rfl
    | some w =>
      simp only [List.foldl_nil, fin, lastEnd_nil, flat]
      rw [rm]
      by_cases c : w - v ≤ n
      · rw [if_pos c, if_pos c]; rfl
      · rw [if_neg c, if_neg c]; rfl
  | cons r R ih =>
    rw [List.foldl_cons, flR_nil]
    have e : flat (r :: R) s = r.1 :: r.2 :: flat R s := rfl
    rw [e, rm]
    by_cases c : r.1 - v ≤ n
    · rw [if_pos c, if_pos c, ih]
    · rw [if_neg c, if_neg c]
      have := fin_snoc n (some v) [] r R s
      simp only [List.nil_append] at this
      rw [this]; rfl
theorem fill_ofF {n : Int} (hn : 0 ≤ n) (x : Fl) : fill n (ofF x) = ofF (fF n x) := by
  rcases x with ⟨b, l⟩
  cases b
  · rw [fill_fin]
    show fin n ((pair l).1.foldl (flR n) (none, [])) (pair l).2 = ofF (false, rm' n l)
    cases l with
    | nil => rfl
    | cons a l =>
      cases l with
      | nil => rfl
      | cons b l =>
        have := fin_snoc n none [] (a, b) (pair l).1 (pair l).2
        rw [flat_pair] at this
        simp only [pair, List.foldl_cons, flR_none]
        exact this
  · cases l with
    | nil => exact fill_AO hn
    | cons v l =>
      rw [fill_fin]
      have := fin_head n v (pair l).1 (pair l).2
      rw [flat_pair] at this
      exact this
/-! in order -/
structure FOk (M : Int) (x : Fl) : Prop where
  wd : Wd 0 0 x
  bd : ∀ v ∈ x.2, -M ≤ v ∧ v ≤ M
theorem alt_asc {p q : Int} (hp : 0 ≤ p) (hq : 0 ≤ q) : ∀ {l : List Int}, alt p q l → l.Pairwise (· < ·)
  | [], _ => List.Pairwise.nil
  | [x], _ => List.pairwise_singleton _ _
  | x :: y :: l, h => by
    have ih := alt_asc hq hp (l := y :: l) h.2
    have h1 := h.1
    refine List.pairwise_cons.mpr ⟨fun z hz => ?_, ih⟩
    rcases List.mem_cons.mp hz with rfl | hz
    · omega
    · have := (List.pairwise_cons.mp ih).1 z hz
      omega
theorem Wd_asc {p q : Int} (hp : 0 ≤ p) (hq : 0 ≤ q) {x : Fl} (h : Wd p q x) : x.2.Pairwise (· < ·) := by
  unfold Wd at h
  split at h
  · exact alt_asc hq hp h
  · exact alt_asc hp hq h
theorem pair_mem : ∀ {l : List Int}, (∀ r ∈ (pair l).1, r.1 ∈ l ∧ r.2 ∈ l) ∧ ∀ w, (pair l).2 = some w → w ∈ l
  | [] => ⟨fun r h => (nomatch h), fun w h => (nomatch h)⟩
  | [a] => ⟨fun r h => (by simp [pair] at h), fun w h => by simp [pair] at h; simp [h]⟩
  | a :: b :: l => by
    obtain ⟨h1, h2⟩ := pair_mem (l := l)
    refine ⟨fun r hr => ?_, fun w hw => ?_⟩
    · simp only [pair, List.mem_cons] at hr
      rcases hr with rfl | hr
      · simp
      · have := h1 r hr
        exact ⟨by simp [this.1], by simp [this.2]⟩
    · simp [h2 w hw]
theorem pair_wf {M : Int} : ∀ {l : List Int}, l.Pairwise (· < ·) → (∀ v ∈ l, -M ≤ v ∧ v ≤ M) → (∀ r ∈ (pair l).1, RunOk M r) ∧ ((pair l).1.Pairwise fun x y => x.2 < y.1) ∧ ∀ w, (pair l).2 = some w → ∀ r ∈ (pair l).1, r.2 < w
  | [], _, _ => ⟨by simp [pair], by simp [pair], fun w hw => nomatch hw⟩
  | [a], _, _ => ⟨by simp [pair], by simp [pair], fun w hw r hr => by simp [pair] at hr⟩
  | a :: b :: l, h, hb => by
    have p1 := List.pairwise_cons.mp h
    have p2 := List.pairwise_cons.mp p1.2
    obtain ⟨h1, h2, h3⟩ := pair_wf p2.2 fun v hv => hb v (by simp [hv])
    obtain ⟨m1, m2⟩ := pair_mem (l := l)
    refine ⟨fun r hr => ?_, ?_, fun w hw r hr => ?_⟩
    · simp only [pair, List.mem_cons] at hr
      rcases hr with rfl | hr
      · exact ⟨p1.1 b (by simp), (hb a (by simp)).1, (hb b (by simp)).2⟩
      · exact h1 r hr
    · exact List.pairwise_cons.mpr ⟨fun r hr => p2.1 _ (m1 r hr).1, h2⟩
    · simp only [pair, List.mem_cons] at hr
      rcases hr with rfl | hr
      · exact p2.1 w (m2 w hw)
      · exact h3 w hw r hr
theorem fok_fit {M : Int} {x : Fl} (h : FOk M x) : Fit2 M (ofF x) := by
  have ha := Wd_asc (Int.le_refl 0) (Int.le_refl 0) h.wd
  have hb := h.bd
  rcases x with ⟨b, l⟩
  simp only at ha hb
  cases b
  · obtain ⟨h1, h2, h3⟩ := pair_wf (M := M) ha hb
    exact .inl ⟨⟨h1, h2, fun v hv => (nomatch hv)⟩, fun w hw => ⟨(hb w (pair_mem.2 w hw)).1, (hb w (pair_mem.2 w hw)).2, h3 w hw⟩, fun v w hv => nomatch hv⟩
  · cases l with
    | nil => exact .inr rfl
    | cons v l =>
      have p1 := List.pairwise_cons.mp ha
      obtain ⟨h1, h2, h3⟩ := pair_wf (M := M) p1.2 fun z hz => hb z (by simp [hz])
      exact .inl ⟨⟨h1, h2, fun z hz => by cases hz; exact ⟨(hb v (by simp)).1, (hb v (by simp)).2, fun r hr => p1.1 _ (pair_mem.1 r hr).1⟩⟩, fun w hw => ⟨(hb w (by simp [pair_mem.2 w hw])).1, (hb w (by simp [pair_mem.2 w hw])).2, h3 w hw⟩, fun z w hz hw => by cases hz; exact p1.1 w (pair_mem.2 w hw)⟩
theorem flat_alt : ∀ (R : List Run) (s : Option Int), (∀ r ∈ R, r.1 < r.2) → (R.Pairwise fun x y => x.2 < y.1) → (∀ w, s = some w → ∀ r ∈ R, r.2 < w) → alt 0 0 (flat R s) ∧ ∀ v, (∀ r ∈ R, v < r.1) → (∀ w, s = some w → v < w) → alt 0 0 (v :: flat R s)
  | [], none, _, _, _ => ⟨trivial, fun _ _ _ => trivial⟩
  | [], some w, _, _, _ => ⟨trivial, fun v _ h => ⟨by have := h w rfl; omega, trivial⟩⟩
  | r :: R, s, h1, h2, h3 => by
    have p := List.pairwise_cons.mp h2
    obtain ⟨a, b⟩ := flat_alt R s (fun x hx => h1 x (by simp [hx])) p.2 fun w hw x hx => h3 w hw x (by simp [hx])
    have c := b r.2 p.1 fun w hw => h3 w hw r (by simp)
    have d : alt 0 0 (flat (r :: R) s) := ⟨by have := h1 r (by simp); omega, c⟩
    exact ⟨d, fun v hv _ => ⟨by have := hv r (by simp); show 0 < r.1 - v; omega, d⟩⟩
theorem flat_mem : ∀ (R : List Run) (s : Option Int) (v : Int), v ∈ flat R s → (∃ r ∈ R, v = r.1 ∨ v = r.2) ∨ s = some v
  | [], none, v, h => nomatch h
  | [], some w, v, h => by simp [flat] at h; exact .inr (by rw [h])
  | r :: R, s, v, h => by
    simp only [flat, List.mem_cons] at h
    rcases h with rfl | rfl | h
    · exact .inl ⟨r, by simp⟩
    · exact .inl ⟨r, by simp⟩
    · rcases flat_mem R s v h with ⟨x, hx, hv⟩ | hs
      · exact .inl ⟨x, by simp [hx], hv⟩
      · exact .inr hs
theorem fit_fok {M : Int} {t : Tri} (h : Fit2 M t) : ∃ x, ofF x = t ∧ FOk M x := by
  rcases h with h | rfl
  · refine ⟨(t.u.isSome, t.u.toList ++ flat t.R t.s), ofF_t _ _ _, ?_, ?_⟩
    · obtain ⟨a, b⟩ := flat_alt t.R t.s (fun r hr => (h.z.runs r hr).len) h.z.pw fun w hw => (h.s w hw).2.2
      cases hu : t.u with
      | none => exact a
      | some v => exact b v (h.z.u v hu).2.2 fun w hw => h.us v w hu hw
    · intro v hv
      rcases List.mem_append.mp hv with hv | hv
      · cases hu : t.u with
        | none => rw [hu] at hv; nomatch hv
        | some u => rw [hu] at hv; simp at hv; subst hv; have := h.z.u v hu; exact ⟨this.1, this.2.1⟩
      · rcases flat_mem _ _ _ hv with ⟨r, hr, rfl | rfl⟩ | hs
        · have := h.z.runs r hr; have := this.len; have := (h.z.runs r hr).lo; have := (h.z.runs r hr).hi; omega
        · have := h.z.runs r hr; have := this.len; have := (h.z.runs r hr).lo; have := (h.z.runs r hr).hi; omega
        · have := h.s v hs; exact ⟨this.1, this.2.1⟩
  · exact ⟨(true, []), rfl, trivial, fun v hv => nomatch hv⟩
end Law
end
section
set_option autoImplicit false
/-! What is wrong first with a value as a signal: the plain law, and bursts that are right (k01, k19, k45). -/
namespace Law
open PySem PL
theorem find_first {p : Nat → Bool} {n i : Nat} (hi : i < n) (h : p i = true) (hb : ∀ j, j < i → p j = false) : (List.range n).find? p = some i := by
  rw [List.find?_range_eq_some]
  exact ⟨h, by simpa using hi, fun j hj => by rw [hb j hj]; rfl⟩
theorem find_no {p : Nat → Bool} {n : Nat} (hb : ∀ j, j < n → p j = false) : (List.range n).find? p = none := by
  rw [List.find?_eq_none]
  intro j hj
  rw [hb j (List.mem_range.mp hj)]
  simp
def badB (l : List PV) (i : Nat) : Bool := match l[i]? with | some q => (buOf q).isNone | none => false
def busOf : List PV → Option (List Bu)
  | [] => some []
  | q :: l => (buOf q).bind fun b => (busOf l).map fun bs => b :: bs
theorem busOf_some : ∀ {l : List PV} {bs : List Bu}, busOf l = some bs → l = bs.map Bu.pv ∧ ∀ b ∈ bs, BuOk b
  | [], bs, h => by simp [busOf] at h; subst h; simp
  | q :: l, bs, h => by
    unfold busOf at h
    cases hq : buOf q with
    | none => rw [hq] at h; simp at h
    | some x =>
      rw [hq] at h
      cases hl : busOf l with
      | none => rw [hl] at h; simp at h
      | some xs =>
        rw [hl] at h
        simp at h
        subst h
        obtain ⟨a, b⟩ := busOf_some hl
        obtain ⟨c, d⟩ := buOf_some hq
        refine ⟨by rw [a, c]; rfl, fun y hy => ?_⟩
        rcases List.mem_cons.mp hy with rfl | hy
        · exact d
        · exact b y hy
theorem busOf_all : ∀ {l : List PV}, (∀ i, i < l.length → badB l i = false) → ∃ bs, busOf l = some bs
  | [], _ => ⟨[], rfl⟩
  | q :: l, h => by
    obtain ⟨bs, hbs⟩ := busOf_all (l := l) fun i hi => by have := h (i + 1) (by simp; omega); simpa [badB] using this
    have h0 := h 0 (by simp)
    simp only [badB, List.getElem?_cons_zero] at h0
    cases hq : buOf q with
    | none => rw [hq] at h0; simp at h0
    | some b => exact ⟨b :: bs, by simp [busOf, hq, hbs]⟩
theorem busOf_bad {l : List PV} {bs : List Bu} (h : busOf l = some bs) (i : Nat) : badB l i = false := by
  obtain ⟨h1, h2⟩ := busOf_some h
  unfold badB
  cases hi : l[i]? with
  | none => rfl
  | some q =>
    rw [h1, List.getElem?_map] at hi
    cases hb : bs[i]? with
    | none => rw [hb] at hi; simp at hi
    | some b =>
      rw [hb] at hi
      simp at hi
      show (buOf q).isNone = false
      rw [← hi, buOf_pv (h2 b (List.mem_of_getElem? hb))]
      rfl
def aheadAt (u : Option Int) (bs : List Bu) : Nat → Option Int
  | 0 => u
  | i + 1 => (bs[i]?).map Bu.end
def badO (u : Option Int) (bs : List Bu) (i : Nat) : Bool := match aheadAt u bs i, bs[i]? with | some a, some b => decide (b.tick ≤ a) | _, _ => false
def badJ (bs : List Bu) (i : Nat) : Bool := match bs[i]?, bs[i + 1]? with | some b, some d => takes b d.tick d.on | _, _ => false
def optZ : PV → Option Int
  | .int z => some z
  | _ => none
theorem end_opt {q : PV} (h : endB q = true) : q = opt (optZ q) ∧ ∀ z, optZ q = some z → n60 z = true := by
  cases q with
  | int z => exact ⟨rfl, fun y hy => by cases hy; exact h⟩
  | non => exact ⟨rfl, fun y hy => nomatch hy⟩
  | _ => simp [endB, numB] at h
/-- is the value the signal that is always on? -/
def isAll (V : PV) : Bool := PyData.eqv V.pd (PV.tup [.int 0, .tup [], .int 0]).pd
def sinceB (V : PV) (u : Option Int) (bs : List Bu) (s : Option Int) : Bool := match s, aheadAt u bs bs.length with | some z, some a => decide (z ≤ a) && !isAll V | _, _ => false
/-- a word with a place, if there is one -/
def tagV (w : Str) (o : Option Nat) (z : PV) : PV := match o with
  | some i => .tup [.str w, .int (i : Nat)]
  | none => z
def restV (V u s : PV) (bs : List Bu) : PV := tagV "order" ((List.range bs.length).find? (badO (optZ u) bs)) (if sinceB V (optZ u) bs (optZ s) = true then .tup [.str "since"] else tagV "joined" ((List.range (bs.length - 1)).find? (badJ bs)) .non)
theorem tagV_data (w : Str) (o : Option Nat) {z : PV} (h : z.data = true) : (tagV w o z).data = true := by
  cases o with
  | none => exact h
  | some i => simp [tagV]
theorem restV_data (V u s : PV) (bs : List Bu) : (restV V u s bs).data = true := by
  refine tagV_data _ _ ?_
  split
  · simp
  · exact tagV_data _ _ (by simp)
/-- what is wrong first -/
def errV (V : PV) : PV := match V with
  | .tup [u, .tup l, s] =>
    if (endB u && endB s && decide (l.length ≤ 100)) = true then
      tagV "burst" ((List.range l.length).find? (badB l)) (match busOf l with
        | some bs => restV V u s bs
        | none => .non)
    else .str "form"
  | _ => .str "form"
theorem n60_iff {z : Int} : n60 z = true ↔ -M60 ≤ z ∧ z ≤ M60 := by unfold n60; simp
theorem mul_ok {x y : Int} (hx : -M60 - 1 ≤ x ∧ x ≤ M60) (hy : n60 y = true) : mulOk x y := by
  have hy := n60_iff.mp hy
  have hM : M60 = 1000000000000000000000000000000000000000000000000000000000000 := rfl
  have key : ∀ z : Int, -M60 - 1 ≤ z ∧ z ≤ M60 → z.natAbs.log2 < 300 := fun z hz => by
    have c : (1000000000000000000000000000000000000000000000000000000000001 : Nat) < 2 ^ 300 := by decide +kernel
    have : z.natAbs < 2 ^ 300 := by omega
    by_cases h0 : z.natAbs = 0
    · rw [h0]; decide
    · exact (Nat.log2_lt h0).mpr this
  have h1 := key x hx
  have h2 := key y ⟨by omega, hy.2⟩
  exact .inr (.inr (by omega))
theorem BuOk.m1 {b : Bu} (h : BuOk b) : mulOk b.times b.on := mul_ok (by have := n60_iff.mp h.n; omega) h.o
theorem BuOk.m2 {b : Bu} (h : BuOk b) : mulOk (b.times - 1) b.off := mul_ok (by have := n60_iff.mp h.n; have := h.times; omega) h.f
theorem end_of_bu {b : Bu} (h : BuOk b) (μ : Mem) : m_end_of [b.pv] μ = .ok (.int b.end) μ := by
  have m1 := h.m1
  have m2 := h.m2
  apply fn_pure0
  rw [run_ev]
  unfold b_end_of
  simp [Bu.pv, m1, m2, Bu.end]
theorem takes_on_bu {b d : Bu} (hb : BuOk b) (μ : Mem) : m_takes_on [b.pv, d.pv] μ = .ok (.bl (takes b d.tick d.on)) μ := by
  have e := fun μ => end_of_bu hb μ
  have i1 : ∀ μ, fIx [b.pv, .int 1] μ = .ok (.int b.on) μ := fun μ => by simp [Bu.pv]
  have i2 : ∀ μ, fIx [b.pv, .int 2] μ = .ok (.int b.off) μ := fun μ => by simp [Bu.pv]
  have i3 : ∀ μ, fIx [b.pv, .int 3] μ = .ok (.int b.times) μ := fun μ => by simp [Bu.pv]
  have j0 : ∀ μ, fIx [d.pv, .int 0] μ = .ok (.int d.tick) μ := fun μ => by simp [Bu.pv]
  have j1 : ∀ μ, fIx [d.pv, .int 1] μ = .ok (.int d.on) μ := fun μ => by simp [Bu.pv]
  apply fn_pure0
  rw [run_ev]
  unfold b_takes_on takes
  generalize b.pv = pb at *
  generalize d.pv = pd at *
  by_cases c1 : b.on = d.on
  · by_cases c2 : b.times = 1
    · simp [i1, i3, j1, c1, c2]
    · simp [i1, i2, i3, j0, j1, e, c1, c2]
  · simp [i1, j1, c1]
end Law
end
section
set_option autoImplicit false
/-! What is wrong first with a value as a signal: the program, run (k01, k19, k45). -/
namespace Law
open PySem PL
/-- values that may stand for a signal -/
structure S3 (m : Mem) (V : PV) : Prop where
  kd : Kd m V
  items : ∀ l, V = .tup l → (∀ x ∈ l, Kd m x) ∧ ∀ x ∈ l, ∀ bl, x = .tup bl → bl.length ≤ 100000 ∧ ∀ b ∈ bl, B1 m b
theorem S3.ext {m m' : Mem} {V : PV} (h : S3 m V) (e : Ext m m') : S3 m' V := ⟨h.kd.ext e, fun l hl => ⟨fun x hx => ((h.items l hl).1 x hx).ext e, fun x hx bl hb => ⟨((h.items l hl).2 x hx bl hb).1, fun b h2 => (((h.items l hl).2 x hx bl hb).2 b h2).ext e⟩⟩⟩
theorem enum_tup (bs : List PV) : enumL 0 bs = (bs.zipIdx).map fun z => PV.tup [.int (z.2 : Nat), z.1] := by
  have hen : ∀ (L : List PV) k, enumL k L = (L.zipIdx k).map fun z => PV.tup [.int (z.2 : Nat), z.1] := by
    intro L
    induction L with
    | nil => intro k; rfl
    | cons p L ih => intro k; simp [enumL, ih]
  exact hen bs 0
theorem zip_get {α : Type} {l : List α} {i : Nat} {z : α × Nat} (h : l.zipIdx[i]? = some z) : z.2 = i ∧ l[i]? = some z.1 := by
  rw [List.getElem?_zipIdx] at h
  cases hl : l[i]? with
  | none => rw [hl] at h; simp at h
  | some x => rw [hl] at h; simp at h; subst h; exact ⟨rfl, rfl⟩
/-- the numbers and flips of good bursts as data -/
theorem bu_good' {b : Bu} (h : BuOk b) : Good 5 b.pv := by
  have s : ∀ {z : Int}, n60 z = true → (PyData.int z).sm = true := fun {z} hz => by
    have := n60_iff.mp hz
    have hM : M60 = 1000000000000000000000000000000000000000000000000000000000000 := rfl
    have c : (1000000000000000000000000000000000000000000000000000000000001 : Nat) < 2 ^ 300 := by decide +kernel
    have h2 : z.natAbs < 2 ^ 300 := by omega
    rw [sm_int, decide_eq_true_eq]
    by_cases h0 : z.natAbs = 0
    · rw [h0]; decide
    · have := (Nat.log2_lt h0).mpr h2; omega
  refine ⟨rfl, ?_, by simp [Bu.pv], by simp [Bu.pv]⟩
  have a1 := s h.t
  have a2 := s h.o
  have a3 := s h.f
  have a4 := s h.n
  simp only [Bu.pv, PV.pd, PV.pds, PyData.sm, PyData.sms] at a1 a2 a3 a4 ⊢
  simp [a1, a2, a3, a4]
theorem bus_good {bs : List Bu} (h : ∀ b ∈ bs, BuOk b) : Good (5 * bs.length + 1) (.tup (bs.map Bu.pv)) := by
  have g := Goods.map (k := 5) Bu.pv bs fun b hb => bu_good' (h b hb)
  exact Good.tup g (by
    have := dps_map Bu.pv bs 1 fun b _ => by simp [Bu.pv]
    omega)
theorem order_ev (u : Option Int) {bs : List Bu} (h : ∀ b ∈ bs, BuOk b) (hl : bs.length ≤ 1000) (μ : Mem) : m_order_error [opt u, .tup (bs.map Bu.pv)] μ = .ok (tagV "order" ((List.range bs.length).find? (badO u bs)) .non) μ := by
  apply fn_sat_data (tagV_data _ _ (by simp))
  apply run_sat
  unfold b_order_error
  simp only [List.map_cons, List.map_nil, List.length_cons, List.length_nil, List.replicate, List.cons_append, List.nil_append, Nat.reduceAdd, Nat.reduceSub]
  refine seq_sat (fun e m => m = μ ∧ e = [some (opt u), some (.tup (bs.map Bu.pv)), some (opt u), none, none]) (by simp) ?_
  rintro e m ⟨rfl, rfl⟩
  refine seq_sat2 (fun e m' => m' = m ∧ (List.range bs.length).find? (badO u bs) = none) ?_ ?_
  · simp only [forS_ev]
    have hit : iEnum (v 1) [some (opt u), some (.tup (bs.map Bu.pv)), some (opt u), none, none] m = .ok ⟨((bs.map Bu.pv).zipIdx).map fun z => PV.tup [.int (z.2 : Nat), z.1], []⟩ m := by
      simp [iEnum, enumOf, getL, enum_tup]
    rw [hit]
    simp only [Out.of_ok]
    refine for_sat0 (fun z : PV × Nat => PV.tup [.int (z.2 : Nat), z.1]) (bs.map Bu.pv).zipIdx (fun i e m' => m' = m ∧ (∀ j, j < i → badO u bs j = false) ∧ ∃ q3 q4, e = [some (opt u), some (.tup (bs.map Bu.pv)), some (opt (aheadAt u bs i)), q3, q4]) (fun _ _ _ _ => locked_nil _) ⟨rfl, fun j hj => by omega, none, none, rfl⟩ ?_ ?_
    · rintro i z e m' hx ⟨rfl, hb, q3, q4, rfl⟩
      obtain ⟨z2, z1⟩ := zip_get hx
      rw [List.getElem?_map] at z1
      cases hbi : bs[i]? with
      | none => rw [hbi] at z1; simp at z1
      | some b =>
        rw [hbi] at z1
        simp at z1
        have hi := (List.getElem?_eq_some_iff.mp hbi).1
        have hbok := h b (List.mem_of_getElem? hbi)
        have e1 := fun μ => end_of_bu hbok μ
        have j0 : ∀ μ, fIx [b.pv, .int 0] μ = .ok (.int b.tick) μ := fun μ => by simp [Bu.pv]
        rcases z with ⟨q, j⟩
        simp only at z1 z2
        subst z1
        subst z2
        have hnx : aheadAt u bs (j + 1) = some b.end := by simp [aheadAt, hbi]
        cases ha : aheadAt u bs j with
        | none =>
          have hf : badO u bs j = false := by simp [badO, ha]
          generalize bs.map Bu.pv = BL at *
          generalize b.pv = pb at *
          simp [opt, e1, hnx]
          exact fun k hk => by
            by_cases hk2 : k < j
            · exact hb k hk2
            · have : k = j := by omega
              rw [this]; exact hf
        | some a =>
          by_cases c : b.tick ≤ a
          · have ht : badO u bs j = true := by simp [badO, ha, hbi, c]
            have hfi := find_first hi ht hb
            generalize bs.map Bu.pv = BL at *
            generalize b.pv = pb at *
            simp [opt, j0, c, hfi, tagV]
          · have hf : badO u bs j = false := by simp [badO, ha, hbi, c]
            generalize bs.map Bu.pv = BL at *
            generalize b.pv = pb at *
            simp [opt, j0, c, e1, hnx]
            exact fun k hk => by
              by_cases hk2 : k < j
              · exact hb k hk2
              · have : k = j := by omega
                rw [this]; exact hf
    · rintro e m' ⟨rfl, hb, q3, q4, rfl⟩
      exact ⟨rfl, find_no fun j hj => hb j (by simpa using hj)⟩
  rintro e m' ⟨rfl, hno⟩
  rw [hno]
  simp [tagV]
theorem tup_ne_nil {bs : List Bu} (h : ∀ b ∈ bs, BuOk b) (hl : bs.length ≤ 1000) (μ : Mem) : fNe [.tup (bs.map Bu.pv), .tup []] μ = .ok (.bl (!bs.isEmpty)) μ := by
  have g := bus_good h
  have d0 : D0 (.tup (bs.map Bu.pv)) := ⟨g.data, g.sm, by have := g.dp; omega, by have := g.wt; omega⟩
  have n0 : D0 (.tup []) := ⟨by simp, by simp, by simp, by simp⟩
  have := fNe_of (d0_eq (p := .tup (bs.map Bu.pv)) (q := .tup []) rfl d0 n0 μ)
  rw [this]
  cases bs with
  | nil => simp [PyData.eqv, PyData.eqvAll]
  | cons b bs => simp [PV.pd, PyData.eqv, PyData.eqvAll]
theorem ends_ev (u s : PV) {bs : List Bu} (h : ∀ b ∈ bs, BuOk b) (hl : bs.length ≤ 1000) (hu : u = opt (optZ u)) (μ : Mem) : m_ends_of [.tup [u, .tup (bs.map Bu.pv), s]] μ = .ok (opt (aheadAt (optZ u) bs bs.length)) μ := by
  have ne := fun μ => tup_ne_nil h hl μ
  apply fn_pure0
  rw [run_ev]
  unfold b_ends_of
  rcases List.eq_nil_or_concat bs with hb | ⟨A, b, hb⟩
  · subst hb
    have e0 : ∀ μ, fNe [.tup [], .tup []] μ = .ok (.bl false) μ := fun μ => by simpa using ne μ
    simp [e0, aheadAt]
    exact hu
  · rw [List.concat_eq_append] at hb
    have hne : bs.isEmpty = false := by rw [hb]; simp
    rw [hne] at ne
    have hbok := h b (by rw [hb]; simp)
    have ixL : ∀ μ, fIx [.tup (bs.map Bu.pv), .int (-1)] μ = .ok b.pv μ := fun μ => by rw [fIx_tup, hb, List.map_append]; exact ixOf_last _ _ _
    have e1 := fun μ => end_of_bu hbok μ
    have ha : aheadAt (optZ u) bs bs.length = some b.end := by
      rw [hb]
      simp [aheadAt]
    rw [ha]
    generalize bs.map Bu.pv = BL at *
    generalize b.pv = pb at *
    simp at ne
    simp [-fIx_tup, ne, ixL, e1, opt]
    simp [ne, ixL, e1]
end Law
end
section
set_option autoImplicit false
/-! What is wrong first with a value as a signal: the program's signal_error, run (k01, k19, k45). -/
namespace Law
open PySem PL
theorem errV_no {V : PV} (h : ∀ u B s, V ≠ .tup [u, B, s]) : errV V = .str "form" := by
  unfold errV
  split
  · exact absurd rfl (h _ _ _)
  · rfl
theorem errV_noB {u B s : PV} (h : ∀ l, B ≠ .tup l) : errV (.tup [u, B, s]) = .str "form" := by
  cases B with
  | tup l => exact absurd rfl (h l)
  | _ => rfl
/-- both ends are numbers or none, as the list of those that are not tells it -/
theorem ends_all (u s : PV) : (([u, s].filter fun q => !endB q).length = 0) = ((endB u && endB s) = true) := by
  rw [List.length_eq_zero_iff, List.filter_eq_nil_iff]
  simp
theorem joined_step {bs : List Bu} (h : ∀ b ∈ bs, BuOk b) {i : Nat} {b d : Bu} (h1 : bs[i]? = some b) (h2 : bs[i + 1]? = some d) : badJ bs i = takes b d.tick d.on := by
  unfold badJ
  rw [h1, h2]
theorem sig_good {u s : PV} {l : List PV} {bs : List Bu} (eu : endB u = true) (es : endB s = true) (hok : ∀ b ∈ bs, BuOk b) (hlb : l = bs.map Bu.pv) : Good (5 * bs.length + 10) (.tup [u, .tup l, s]) := by
  have ge : ∀ q : PV, endB q = true → Good 1 q := fun q hq => by
    obtain ⟨a, b⟩ := end_opt hq
    rw [a]
    cases hz : optZ q with
    | none => exact ⟨by simp [opt], by simp [opt], by simp [opt], by simp [opt]⟩
    | some z =>
      have := n60_iff.mp (b z hz)
      have hM : M60 = 1000000000000000000000000000000000000000000000000000000000000 := rfl
      have c : (1000000000000000000000000000000000000000000000000000000000001 : Nat) < 2 ^ 300 := by decide +kernel
      have h2 : z.natAbs < 2 ^ 300 := by omega
      have h3 : z.natAbs.log2 < 1920 := by
        by_cases h0 : z.natAbs = 0
        · rw [h0]; decide
        · have := (Nat.log2_lt h0).mpr h2; omega
      exact ⟨by simp [opt], by simp [opt, h3], by simp [opt], by simp [opt]⟩
  have gb := bus_good hok
  rw [← hlb] at gb
  have dpb : (PV.tup l).pd.depth ≤ 2 := by
    rw [hlb]
    have := dps_map Bu.pv bs 1 fun b _ => by simp [Bu.pv]
    simp
    omega
  have dpe : ∀ q : PV, endB q = true → q.pd.depth = 0 := fun q hq => by
    obtain ⟨a, b⟩ := end_opt hq
    rw [a]
    cases optZ q <;> simp [opt]
  have := Good.tup (Goods.cons (ge u eu) (Goods.cons gb (Goods.cons (ge s es) Goods.nil))) (by
    have := dpe u eu
    have := dpe s es
    simp only [PV.pds, dps_cons, dps_nil]
    omega)
  exact this.mono (by omega)
theorem signal_error_ev {m : Mem} {V : PV} (hV : S3 m V) : m_signal_error [V] m = .ok (errV V) m := by
  have hdat : (errV V).data = true := by
    unfold errV
    split
    · split
      · refine tagV_data _ _ ?_
        split
        · exact restV_data _ _ _ _
        · simp
      · simp
    · simp
  apply fn_sat_data hdat
  apply run_sat
  unfold b_signal_error
  simp only [List.map_cons, List.map_nil, List.length_cons, List.length_nil, List.replicate, List.cons_append, List.nil_append, Nat.reduceAdd, Nat.reduceSub]
  have ⟨i0, _, _⟩ := kd_isi hV.kd
  by_cases hn : ∀ u B s, V ≠ .tup [u, B, s]
  · rw [errV_no hn]
    cases V with
    | tup l =>
      have c3 : ¬ ((l.length : Int) = 3) := fun hc => by
        have hc : l.length = 3 := by omega
        match l, hc with
        | [u, B, s], _ => exact hn u B s rfl
      simp only [tyT] at i0
      simp [i0, c3]
    | _ => simp only [tyT] at i0; simp [i0]
  obtain ⟨u, B, s, rfl⟩ : ∃ u B s, V = .tup [u, B, s] := Classical.byContradiction fun h => hn fun u B s e => h ⟨u, B, s, e⟩
  clear hn
  simp only [tyT] at i0
  obtain ⟨hk, hb⟩ := hV.items _ rfl
  refine seq_sat (fun e m' => m' = m ∧ e = [some (.tup [u, B, s]), none, none, none, none, none, none, none, none, none]) (by simp [i0]) ?_
  rintro e m' ⟨rfl, rfl⟩
  refine seq_sat (fun e m => m = m' ∧ e = [some (.tup [u, B, s]), none, none, some u, some B, some s, none, none, none, none]) (by simp) ?_
  rintro e m ⟨rfl, rfl⟩
  -- the ends
  have key := lc_pure (it := iVal (app fTup (ac (v 3) (ac (v 5) an)))) (g := tn 9) (t := PL.and (app2 fNotN (v 9) (c .non)) (app1 fNot (app m_is_number (ac (v 9) an)))) (e := c (.int 1)) (vs := [9]) (env := [some (.tup [u, B, s]), none, none, some u, some B, some s, none, none, none, none]) (μ := m) (μ1 := m) (lk := []) (fun q : PV => q) (fun q => if (!endB q) = true then some (.int 1) else none) [u, s] (by simp) (fun _ => locked_nil _) (by show _ < 16777216; simp) (fun q hq L => by
    have hq' : q ∈ [u, B, s] := by simp at hq ⊢; rcases hq with h | h <;> simp [h]
    have := is_number_kd ((hk q hq').ext (Ext.app m L))
    refine ⟨_, rfl, ?_⟩
    cases q with
    | non => simp [wipe, endB, isNon]
    | int z =>
      cases hs : numB (.int z) with
      | true => rw [hs] at this; simp [wipe, endB, isNon, this, hs]
      | false => rw [hs] at this; simp [wipe, endB, isNon, this, hs]
    | _ => simp only [numB] at this; simp [wipe, endB, isNon, this, numB])
  rw [filterMap_if, onesL_map] at key
  obtain ⟨N, hN⟩ : ∃ N, N = ([u, s].filter fun q => !endB q).length := ⟨_, rfl⟩
  rw [← hN] at key
  obtain ⟨ne, _⟩ := onesL_cmp N m
  have hNn : (N = 0) = ((endB u && endB s) = true) := by rw [hN]; exact ends_all u s
  refine seq_sat2 (fun e m' => Ext m m' ∧ (endB u && endB s) = true ∧ e = [some (.tup [u, B, s]), none, none, some u, some B, some s, none, none, none, none]) ?_ ?_
  · generalize onesL N = ON at *
    generalize lc (iVal (app fTup (ac (v 3) (ac (v 5) an)))) (tn 9) (PL.and (app2 fNotN (v 9) (c .non)) (app1 fNot (app m_is_number (ac (v 9) an)))) (c (.int 1)) [9] = LC at *
    by_cases hz : N = 0
    · have hall := hNn ▸ hz
      simp [hz] at ne
      simp [key, ne]
      simpa using hall
    · have hall : (endB u && endB s) = false := by
        rw [Bool.eq_false_iff]
        exact fun h => hz (hNn.symm ▸ h)
      have he : errV (.tup [u, B, s]) = .str "form" := by
        cases B with
        | tup l => simp only [errV]; rw [if_neg (by simp [hall])]
        | _ => rfl
      rw [he]
      simp [hz] at ne
      simp [key, ne]
  clear key ne hNn hN
  rintro e m1 ⟨x1, hends, rfl⟩
  have hends2 := hends
  rw [Bool.and_eq_true] at hends2
  obtain ⟨eu, es⟩ := hends2
  have hBk := kd_isi ((hk B (by simp)).ext x1)
  -- the bursts
  by_cases hn : ∀ l, B ≠ .tup l
  · have he := errV_noB (u := u) (s := s) hn
    have tB := (noTup hn).1
    rw [tB] at hBk
    rw [he]
    obtain ⟨l, rfl⟩ := x1
    refine seq_sat2 (fun _ _ => False) ?_ (fun _ _ h => h.elim)
    simp [hBk.1]
  obtain ⟨l, rfl⟩ : ∃ l, B = .tup l := Classical.byContradiction fun h => hn fun l e => h ⟨l, e⟩
  clear hn
  obtain ⟨hl1, hb1⟩ := hb (.tup l) (by simp) l rfl
  simp only [tyT] at hBk
  refine seq_sat2 (fun e m' => m' = m1 ∧ l.length ≤ 100 ∧ e = [some (.tup [u, .tup l, s]), none, none, some u, some (.tup l), some s, none, none, none, none]) ?_ ?_
  · by_cases cl : l.length ≤ 100
    · have cl' : ¬ ((l.length : Int) > 100) := by omega
      simp [hBk.1, cl]
      omega
    · have cl' : (l.length : Int) > 100 := by omega
      have he : errV (.tup [u, .tup l, s]) = .str "form" := by
        simp only [errV]
        rw [if_neg (by simp [cl])]
      rw [he]
      obtain ⟨r, rfl⟩ := x1
      simp [hBk.1]
      omega
  rintro e m2 ⟨rfl, cl, rfl⟩
  have hcond : (endB u && endB s && decide (l.length ≤ 100)) = true := by rw [hends]; simp [cl]
  refine seq_sat2 (fun e m' => Ext m m' ∧ (∃ bs, busOf l = some bs) ∧ ∃ q6 q7, e = [some (.tup [u, .tup l, s]), none, none, some u, some (.tup l), some s, q6, q7, none, none]) ?_ ?_
  · simp only [forS_ev]
    have hit : iEnum (v 4) [some (.tup [u, .tup l, s]), none, none, some u, some (.tup l), some s, none, none, none, none] m2 = .ok ⟨(l.zipIdx).map fun z => PV.tup [.int (z.2 : Nat), z.1], []⟩ m2 := by
      simp [iEnum, enumOf, getL, enum_tup]
    rw [hit]
    simp only [Out.of_ok]
    refine for_sat0 (fun z : PV × Nat => PV.tup [.int (z.2 : Nat), z.1]) l.zipIdx (fun i e m' => Ext m m' ∧ (∀ j, j < i → badB l j = false) ∧ ∃ q6 q7, e = [some (.tup [u, .tup l, s]), none, none, some u, some (.tup l), some s, q6, q7, none, none]) (fun _ _ _ _ => locked_nil _) ⟨x1, fun j hj => by omega, none, none, rfl⟩ ?_ ?_
    · rintro i z e m3 hx ⟨x3, hbj, q6, q7, rfl⟩
      obtain ⟨z2, z1⟩ := zip_get hx
      rcases z with ⟨q, j⟩
      simp only at z1 z2
      subst z2
      have hj := (List.getElem?_eq_some_iff.mp z1).1
      have e1 := is_burst_b1 ((hb1 q (List.mem_of_getElem? z1)).ext x3)
      cases hbq : buOf q with
      | some b =>
        have hf : badB l j = false := by simp [badB, z1, hbq]
        rw [hbq] at e1
        simp at e1
        simp [e1]
        exact ⟨x3, fun k hk => by
          by_cases hk2 : k < j
          · exact hbj k hk2
          · have : k = j := by omega
            rw [this]; exact hf⟩
      | none =>
        have ht : badB l j = true := by simp [badB, z1, hbq]
        have hfi := find_first hj ht hbj
        have he : errV (.tup [u, .tup l, s]) = .tup [.str "burst", .int (j : Nat)] := by
          simp only [errV]
          rw [if_pos hcond, hfi]
          rfl
        rw [he]
        rw [hbq] at e1
        simp at e1
        obtain ⟨r, rfl⟩ := x3
        simp [e1]
    · rintro e m3 ⟨x3, hbj, q6, q7, rfl⟩
      exact ⟨x3, busOf_all fun i hi => hbj i (by simpa using hi), q6, q7, rfl⟩
  rintro e m3 ⟨x3, ⟨bs, hbs⟩, q6, q7, rfl⟩
  obtain ⟨hlb, hok⟩ := busOf_some hbs
  have hfb : (List.range l.length).find? (badB l) = none := find_no fun j _ => busOf_bad hbs j
  have hll : bs.length = l.length := by rw [hlb]; simp
  have he0 : errV (.tup [u, .tup l, s]) = restV (.tup [u, .tup l, s]) u s bs := by
    simp only [errV]
    rw [if_pos hcond, hfb, hbs]
    rfl
  rw [he0]
  unfold restV
  have hu := (end_opt eu).1
  have hs := (end_opt es).1
  have o1 := fun μ => order_ev (optZ u) hok (by omega) μ
  rw [← hu, ← hlb] at o1
  refine seq_sat (fun e m' => m' = m3 ∧ e = [some (.tup [u, .tup l, s]), some (tagV "order" ((List.range bs.length).find? (badO (optZ u) bs)) .non), none, some u, some (.tup l), some s, q6, q7, none, none]) (by simp [o1]) ?_
  rintro e m4 ⟨rfl, rfl⟩
  obtain ⟨r3, rfl⟩ := x3
  cases hord : (List.range bs.length).find? (badO (optZ u) bs) with
  | some i =>
    refine seq_sat2 (fun _ _ => False) ?_ (fun _ _ h => h.elim)
    simp [isNon, tagV]
  | none =>
    simp only [tagV]
    refine seq_sat (fun e m' => m' = m ++ r3 ∧ e = [some (.tup [u, .tup l, s]), some .non, none, some u, some (.tup l), some s, q6, q7, none, none]) (by simp [isNon]) ?_
    rintro e m5 ⟨rfl, rfl⟩
    have e2 := fun μ => ends_ev u s hok (by omega) hu μ
    rw [← hlb] at e2
    refine seq_sat (fun e m' => m' = m ++ r3 ∧ e = [some (.tup [u, .tup l, s]), some .non, some (opt (aheadAt (optZ u) bs bs.length)), some u, some (.tup l), some s, q6, q7, none, none]) (by simp [e2]) ?_
    rintro e m5 ⟨rfl, rfl⟩
    have gV : Good (5 * bs.length + 10) (.tup [u, .tup l, s]) := sig_good eu es hok hlb
    have dV : D0 (.tup [u, .tup l, s]) := ⟨gV.data, gV.sm, by have := gV.dp; omega, by have := gV.wt; omega⟩
    have dA : D0 (.tup [.int 0, .tup [], .int 0]) := ⟨by simp, by decide +kernel, by simp, by simp⟩
    have nA := fun μ => fNe_of (d0_eq (p := .tup [u, .tup l, s]) (q := .tup [.int 0, .tup [], .int 0]) rfl dV dA μ)
    refine seq_sat2 (fun e m' => m' = m ++ r3 ∧ sinceB (.tup [u, .tup l, s]) (optZ u) bs (optZ s) = false ∧ e = [some (.tup [u, .tup l, s]), some .non, some (opt (aheadAt (optZ u) bs bs.length)), some u, some (.tup l), some s, q6, q7, none, none]) ?_ ?_
    · have nA' : ∀ μ, fNe [.tup [u, .tup l, s], .tup [.int 0, .tup [], .int 0]] μ = .ok (.bl (!isAll (.tup [u, .tup l, s]))) μ := nA
      unfold sinceB
      generalize isAll (.tup [u, .tup l, s]) = al at *
      cases hso : optZ s with
      | none =>
        have hs' : s = .non := by rw [hs, hso]; rfl
        subst hs'
        simp [isNon]
      | some z =>
        have hs' : s = .int z := by rw [hs, hso]; rfl
        subst hs'
        cases hah : aheadAt (optZ u) bs bs.length with
        | none => simp [isNon, opt]
        | some a =>
          by_cases ca : z ≤ a
          · cases al
            · simp [isNon, opt, ca, nA']
            · simp [isNon, opt, ca, nA']
          · simp [isNon, opt, ca]
    rintro e m5 ⟨rfl, hsb, rfl⟩
    rw [hsb]
    simp only [Bool.false_eq_true, if_false]
    have sl1 : ∀ μ, fSl [.tup l, .int 1, .non] μ = .ok (.tup l.tail) μ := fun μ => by
      have : PL.cut l (some (1 : Int)) none = l.drop 1 := cut_from l 1
      rw [fSl_tup10, this, List.drop_one]
    refine seq_sat2 (fun e m' => m' = m ++ r3 ∧ (List.range (bs.length - 1)).find? (badJ bs) = none) ?_ ?_
    · simp only [forS_ev]
      have hit : iEnum (sl (v 4) (app1 fPart (c (.int 1))) (c .non)) [some (.tup [u, .tup l, s]), some .non, some (opt (aheadAt (optZ u) bs bs.length)), some u, some (.tup l), some s, q6, q7, none, none] (m ++ r3) = .ok ⟨((l.tail).zipIdx).map fun z => PV.tup [.int (z.2 : Nat), z.1], []⟩ (m ++ r3) := by
        simp [-fSl_tup10, iEnum, sl1, enumOf, getL, enum_tup]
      rw [hit]
      simp only [Out.of_ok]
      refine for_sat0 (fun z : PV × Nat => PV.tup [.int (z.2 : Nat), z.1]) (l.tail).zipIdx (fun i e m' => m' = m ++ r3 ∧ (∀ j, j < i → badJ bs j = false) ∧ ∃ q6 q8, e = [some (.tup [u, .tup l, s]), some .non, some (opt (aheadAt (optZ u) bs bs.length)), some u, some (.tup l), some s, q6, q7, q8, none]) (fun _ _ _ _ => locked_nil _) ⟨rfl, fun j hj => by omega, q6, none, rfl⟩ ?_ ?_
      · rintro i z e m' hx ⟨rfl, hbj, q6, q8, rfl⟩
        obtain ⟨z2, z1⟩ := zip_get hx
        rcases z with ⟨q, j⟩
        simp only at z1 z2
        subst z2
        rw [List.getElem?_tail, hlb, List.getElem?_map] at z1
        cases hd : bs[j + 1]? with
        | none => rw [hd] at z1; simp at z1
        | some d =>
          rw [hd] at z1
          simp at z1
          subst z1
          have hj1 := (List.getElem?_eq_some_iff.mp hd).1
          obtain ⟨b, hb⟩ : ∃ b, bs[j]? = some b := ⟨bs[j], List.getElem?_eq_getElem (by omega)⟩
          have hJ := joined_step hok hb hd
          have tk := fun μ => takes_on_bu (d := d) (hok b (List.mem_of_getElem? hb)) μ
          rw [← hJ] at tk
          have ix : ∀ μ, fIx [.tup l, .int (j : Nat)] μ = .ok b.pv μ := fun μ => by rw [fIx_tup, hlb]; exact ixOf_nat μ (by rw [List.getElem?_map, hb]; rfl)
          cases hjj : badJ bs j with
          | true =>
            have hfi := find_first (n := bs.length - 1) (by omega) hjj hbj
            rw [hjj] at tk
            generalize b.pv = pb at *
            generalize d.pv = pd at *
            simp [-fIx_tup, ix, tk, hfi, tagV]
          | false =>
            rw [hjj] at tk
            generalize b.pv = pb at *
            generalize d.pv = pd at *
            simp [-fIx_tup, ix, tk]
            exact fun k hk => by
              by_cases hk2 : k < j
              · exact hbj k hk2
              · have : k = j := by omega
                rw [this]; exact hjj
      · rintro e m' ⟨rfl, hbj, q6, q8, rfl⟩
        exact ⟨rfl, find_no fun j hj => hbj j (by simp; omega)⟩
    rintro e m' ⟨rfl, hno⟩
    rw [hno]
    simp
end Law
end
section
set_option autoImplicit false
/-! Signals and what is made of them by bending (k01, ..): kinds of values. -/
namespace Law
open PySem PL
/-- small data, or a list of such -/
def Q1 (a : Nat) (m : Mem) (q : PV) : Prop := Good 10 q ∨ ∃ k l, q = .ref k ∧ a < k ∧ m[k]? = some (.lst l) ∧ Goods 10 l
/-- what stands in the place of a burst -/
def BV (a : Nat) (m : Mem) (q : PV) : Prop := Q1 a m q ∨ ∃ l, q = .tup l ∧ l.length ≤ 5 ∧ ∀ x ∈ l, Q1 a m x
/-- what stands in the place of a signal; a signal among them has at most N bursts -/
inductive VV (N a : Nat) (m : Mem) (V : PV) : Prop
  | dat (h : Good 4000 V) (hs : errV V = .non → ∀ u l s, V = .tup [u, .tup l, s] → l.length ≤ N)
  | sig (u s : PV) (l : List PV) (h : V = .tup [u, .tup l, s]) (hu : Q1 a m u) (hs : Q1 a m s) (hl : l.length ≤ N) (hB : ∀ x ∈ l, BV a m x)
  | lst (k : Nat) (l : List PV) (h : V = .ref k) (hk : a < k) (hc : m[k]? = some (.lst l)) (g : Goods 200 l)
  | mid (u s : PV) (k : Nat) (l : List PV) (h : V = .tup [u, .ref k, s]) (hu : Good 10 u) (hs : Good 10 s) (hk : a < k) (hc : m[k]? = some (.lst l)) (g : Goods 200 l)
  | dct (k : Nat) (h : V = .ref k) (hk : a < k) (hc : m[k]? = some (.dct []))
/-- what there is above a stays -/
def Ab (a : Nat) (m m' : Mem) : Prop := ∀ k o, a < k → m[k]? = some o → m'[k]? = some o
theorem Ab.of_ext {a : Nat} {m m' : Mem} (e : Ext m m') : Ab a m m' := fun _ _ _ h => e.get h
theorem Q1.ab {a : Nat} {m m' : Mem} {q : PV} (h : Q1 a m q) (e : Ab a m m') : Q1 a m' q := by
  rcases h with h | ⟨k, l, r, b, d, g⟩
  · exact .inl h
  · exact .inr ⟨k, l, r, b, e _ _ b d, g⟩
theorem BV.ab {a : Nat} {m m' : Mem} {q : PV} (h : BV a m q) (e : Ab a m m') : BV a m' q := by
  rcases h with h | ⟨l, r, b, d⟩
  · exact .inl (h.ab e)
  · exact .inr ⟨l, r, b, fun x hx => (d x hx).ab e⟩
theorem VV.ab {N a : Nat} {m m' : Mem} {V : PV} (h : VV N a m V) (e : Ab a m m') : VV N a m' V := by
  cases h with
  | dat h hs => exact .dat h hs
  | sig u s l h hu hs hl hB => exact .sig u s l h (hu.ab e) (hs.ab e) hl fun x hx => (hB x hx).ab e
  | lst k l h hk hc g => exact .lst k l h hk (e _ _ hk hc) g
  | mid u s k l h hu hs hk hc g => exact .mid u s k l h hu hs hk (e _ _ hk hc) g
  | dct k h hk hc => exact .dct k h hk (e _ _ hk hc)
theorem VV.mono {N N' a : Nat} {m : Mem} {V : PV} (h : VV N a m V) (e : N ≤ N') : VV N' a m V := by
  cases h with
  | dat h hs => exact .dat h fun x u l s r => Nat.le_trans (hs x u l s r) e
  | sig u s l h hu hs hl hB => exact .sig u s l h hu hs (Nat.le_trans hl e) hB
  | lst k l h hk hc g => exact .lst k l h hk hc g
  | mid u s k l h hu hs hk hc g => exact .mid u s k l h hu hs hk hc g
  | dct k h hk hc => exact .dct k h hk hc
theorem unders_memX {n : Nat} : ∀ {l : List PV}, PV.unders n l = true → ∀ q ∈ l, q.under n = true
  | [], _, q, h => nomatch h
  | p :: l, h, q, hq => by
    simp only [PV.unders, Bool.and_eq_true] at h
    rcases List.mem_cons.mp hq with rfl | hq
    · exact h.1
    · exact unders_memX h.2 q hq
theorem Q1.take {a : Nat} {m : Mem} {q : PV} {n : Nat} (h : Q1 a m q) (hn : q.under n = true) : Q1 a (m.take n) q := by
  rcases h with h | ⟨k, l, rfl, b, d, e⟩
  · exact .inl h
  · have : k < n := by simpa [PV.under] using hn
    exact .inr ⟨k, l, rfl, b, by rw [List.getElem?_take, if_pos this]; exact d, e⟩
theorem BV.take {a : Nat} {m : Mem} {q : PV} {n : Nat} (h : BV a m q) (hn : q.under n = true) : BV a (m.take n) q := by
  rcases h with h | ⟨l, rfl, b, d⟩
  · exact .inl (h.take hn)
  · exact .inr ⟨l, rfl, b, fun x hx => (d x hx).take (unders_memX (by simpa [PV.under] using hn) x hx)⟩
theorem VV.take {N a : Nat} {m : Mem} {V : PV} {n : Nat} (h : VV N a m V) (hn : V.under n = true) : VV N a (m.take n) V := by
  cases h with
  | dat h hs => exact .dat h hs
  | sig u s l h hu hs hl hB =>
    subst h
    have hm := unders_memX (n := n) (l := [u, .tup l, s]) (by simpa [PV.under] using hn)
    exact .sig u s l rfl (hu.take (hm u (by simp))) (hs.take (hm s (by simp))) hl fun x hx => (hB x hx).take (unders_memX (by simpa [PV.under] using hm (.tup l) (by simp)) x hx)
  | lst k l h hk hc g =>
    subst h
    have : k < n := by simpa [PV.under] using hn
    exact .lst k l rfl hk (by rw [List.getElem?_take, if_pos this]; exact hc) g
  | mid u s k l h hu hs hk hc g =>
    subst h
    have hm := unders_memX (n := n) (l := [u, .ref k, s]) (by simpa [PV.under] using hn)
    have : k < n := by simpa [PV.under] using hm (.ref k) (by simp)
    exact .mid u s k l rfl hu hs hk (by rw [List.getElem?_take, if_pos this]; exact hc) g
  | dct k h hk hc =>
    subst h
    have : k < n := by simpa [PV.under] using hn
    exact .dct k rfl hk (by rw [List.getElem?_take, if_pos this]; exact hc)
/-! what they are to the program and to the law -/
theorem good_d0X {k : Nat} {q : PV} (h : Good k q) (hk : k ≤ 100000) : D0 q := ⟨h.data, h.sm, by have := h.dp; omega, by have := h.wt; omega⟩
theorem Q1.p0 {a : Nat} {m : Mem} {q : PV} (h : Q1 a m q) : P0 m q := by
  rcases h with h | ⟨k, l, r, _, d, e⟩
  · exact .inl (good_d0X h (by omega))
  · exact .inr ⟨k, l, r, d, e.data, e.sm, by have := e.dp; omega⟩
theorem Kd.p0' {m : Mem} {q : PV} (h : P0 m q) : Kd m q := .inl h
theorem BV.b1 {a : Nat} {m : Mem} {q : PV} (h : BV a m q) : B1 m q := by
  rcases h with h | ⟨l, r, b, d⟩
  · exact .inl h.p0
  · exact .inr ⟨l, r, by omega, fun x hx => Kd.p0' (d x hx).p0⟩
theorem d0_b1 {m : Mem} {q : PV} (h : D0 q) : B1 m q := .inl (.inl h)
theorem d0_s3 {m : Mem} {V : PV} (h : D0 V) : S3 m V := by
  refine ⟨.inl (.inl h), fun l e => ?_⟩
  subst e
  have hi := h.items
  refine ⟨fun x hx => .inl (.inl (hi x hx)), fun x hx bl e => ?_⟩
  subst e
  have hx' := hi _ hx
  exact ⟨hx'.few, fun b hb => d0_b1 (hx'.items b hb)⟩
theorem VV.s3 {N a : Nat} {m : Mem} {V : PV} (h : VV N a m V) (hN : N ≤ 20) (hd : ∀ k, V = .ref k → m[k]? ≠ some (.dct [])) : S3 m V := by
  cases h with
  | dat h hs => exact d0_s3 (good_d0X h (by omega))
  | sig u s l h hu hs hl hB =>
    subst h
    refine ⟨.inr ⟨_, rfl⟩, fun l' e => ?_⟩
    cases e
    refine ⟨fun x hx => ?_, fun x hx bl e => ?_⟩
    · simp only [List.mem_cons, List.not_mem_nil, or_false] at hx
      rcases hx with rfl | rfl | rfl
      · exact Kd.p0' hu.p0
      · exact .inr ⟨_, rfl⟩
      · exact Kd.p0' hs.p0
    · simp only [List.mem_cons, List.not_mem_nil, or_false] at hx
      have d0t : ∀ {q : PV}, Q1 a m q → q = .tup bl → bl.length ≤ 100000 ∧ ∀ b ∈ bl, B1 m b := fun hq e => by
        subst e
        rcases hq with hq | ⟨_, _, r, _⟩
        · have := good_d0X hq (by omega)
          exact ⟨this.few, fun b hb => d0_b1 (this.items b hb)⟩
        · nomatch r
      rcases hx with rfl | rfl | rfl
      · exact d0t hu e
      · cases e; exact ⟨by omega, fun b hb => (hB b hb).b1⟩
      · exact d0t hs e
  | lst k l h hk hc g =>
    subst h
    exact ⟨.inl (.inr ⟨k, l, rfl, hc, g.data, g.sm, by have := g.dp; omega⟩), fun l e => nomatch e⟩
  | mid u s k l h hu hs hk hc g =>
    subst h
    refine ⟨.inr ⟨_, rfl⟩, fun l' e => ?_⟩
    cases e
    refine ⟨fun x hx => ?_, fun x hx bl e => ?_⟩
    · simp only [List.mem_cons, List.not_mem_nil, or_false] at hx
      rcases hx with rfl | rfl | rfl
      · exact .inl (.inl (good_d0X hu (by omega)))
      · exact .inl (.inr ⟨k, l, rfl, hc, g.data, g.sm, by have := g.dp; omega⟩)
      · exact .inl (.inl (good_d0X hs (by omega)))
    · simp only [List.mem_cons, List.not_mem_nil, or_false] at hx
      have d0t : ∀ {q : PV}, Good 10 q → q = .tup bl → bl.length ≤ 100000 ∧ ∀ b ∈ bl, B1 m b := fun hq e => by
        subst e
        have := good_d0X hq (by omega)
        exact ⟨this.few, fun b hb => d0_b1 (this.items b hb)⟩
      rcases hx with rfl | rfl | rfl
      · exact d0t hu e
      · nomatch e
      · exact d0t hs e
  | dct k h hk hc => exact absurd hc (hd k h)
theorem err_dct1 {m : Mem} {k : Nat} (hc : m[k]? = some (.dct [])) : m_signal_error [.ref k] m = .ok (.str "form") m := by
  have ht : fIsi .tuple [.ref k] m = .ok (.bl false) m := by simp [fIsi, isTy, hc, Ty.isD]
  apply fn_sat_data rfl
  apply run_sat
  unfold b_signal_error
  simp [ht]
theorem VV.err1 {N a : Nat} {m : Mem} {V : PV} (h : VV N a m V) (hN : N ≤ 20) : m_signal_error [V] m = .ok (errV V) m := by
  by_cases hd : ∃ k, V = .ref k ∧ m[k]? = some (.dct [])
  · obtain ⟨k, rfl, hc⟩ := hd
    exact err_dct1 hc
  · exact signal_error_ev (h.s3 hN fun k e hc => hd ⟨k, e, hc⟩)
/-! what repr reads of them -/
structure Cw (m : Mem) (w e : Nat) (p : PV) (d : PyData) : Prop where
  cv : ∀ m' n, Ext m m' → PV.conv (fun j => toDn m' (n + 1) (.ref j)) p = some d
  sm : d.sm = true
  wt : d.wt ≤ w
  dp : d.depth ≤ e
theorem Cw.mono {m : Mem} {w e w' e' : Nat} {p : PV} {d : PyData} (h : Cw m w e p d) (a : w ≤ w') (b : e ≤ e') : Cw m w' e' p d := ⟨h.cv, h.sm, Nat.le_trans h.wt a, Nat.le_trans h.dp b⟩
theorem Cw.data {m : Mem} {k : Nat} {p : PV} (h : Good k p) : Cw m k 10 p p.pd := ⟨fun _ _ _ => conv_pd _ p h.data, h.sm, h.wt, h.dp⟩
theorem Cw.lst {m : Mem} {k w : Nat} {l : List PV} (h : m[k]? = some (.lst l)) (g : Goods w l) : Cw m (w + 1) 11 (.ref k) (.list (PV.pds l)) := ⟨fun m' n x => by
  show toDn m' (n + 1) (.ref k) = _
  exact toDn_lst (x.get h) g.data, by simp [g.sm], by have := g.wt; simp; omega, by have := g.dp; simp; omega⟩
theorem Cw.tup {m : Mem} {w e : Nat} : ∀ {l : List PV}, (∀ q ∈ l, ∃ d, Cw m w e q d) → ∃ ds, (∀ m' n, Ext m m' → PV.convs (fun j => toDn m' (n + 1) (.ref j)) l = some ds) ∧ PyData.sms ds = true ∧ PyData.wts ds ≤ w * l.length ∧ PyData.depthAll ds ≤ e
  | [], _ => ⟨[], fun _ _ _ => rfl, by simp, by simp, by simp⟩
  | q :: l, h => by
    obtain ⟨d, hd⟩ := h q (by simp)
    obtain ⟨ds, a, b, c, f⟩ := Cw.tup (l := l) fun x hx => h x (by simp [hx])
    refine ⟨d :: ds, fun m' n x => ?_, by simp [hd.sm, b], ?_, ?_⟩
    · simp only [PV.convs, hd.cv m' n x, a m' n x, Option.bind_some, Option.map_some]
    · have := hd.wt
      simp only [wts_cons, List.length_cons, Nat.mul_add, Nat.mul_one]
      omega
    · have := hd.dp
      simp only [dps_cons]
      omega
theorem Cw.tuple {m : Mem} {w e : Nat} {l : List PV} (h : ∀ q ∈ l, ∃ d, Cw m w e q d) : ∃ d, Cw m (w * l.length + 1) (e + 1) (.tup l) d := by
  obtain ⟨ds, a, b, c, f⟩ := Cw.tup h
  exact ⟨.tuple ds, fun m' n x => by simp only [PV.conv, a m' n x, Option.map_some], by simpa [PyData.sm] using b, by simp; omega, by simp; omega⟩
/-- one text, now and later -/
def Rp1 (m : Mem) (p : PV) : Prop := ∃ S : Str, ∀ m', Ext m m' → fRepr [p] m' = .ok (.str S) m'
theorem toD_tup (μ : Mem) (l : List PV) : toD μ (.tup l) = PV.conv (fun j => toDn μ 5 (.ref j)) (.tup l) := by
  have e : (fun j => toDn μ 5 (.ref j)) = fun k => match μ[k]? with
    | some (.lst l) => (PV.convs (fun j => toDn μ 4 (.ref j)) l).map .list
    | some (.ro l) => (PV.convs (fun j => toDn μ 4 (.ref j)) l).map .list
    | _ => none := by
    funext k
    exact toD_ref μ k
  rw [e]
  unfold toD
  rw [toDn]
  all_goals congr 1
theorem rp_tup {m : Mem} {w e : Nat} {l : List PV} {d : PyData} (h : Cw m w e (.tup l) d) (hw : w ≤ 8000) (he : e ≤ 60) : Rp1 m (.tup l) :=
  ⟨d.shown, fun m' x => repr_ok ((toD_tup m' l).trans (h.cv m' 4 x)) h.sm (Nat.le_trans h.wt hw) (Nat.le_trans h.dp he)⟩
theorem rp_dct {m : Mem} {j : Nat} (hj : m[j]? = some (.dct [])) : Rp1 m (.ref j) := by
  refine ⟨(PyData.dict []).shown, fun m' x => ?_⟩
  have hj' := x.get hj
  have e1 : toD m' (.ref j) = none := by
    show toDn m' 5 (.ref j) = none
    unfold toDn PV.conv
    rw [hj']
  have e2 : toX m' (.ref j) = some (.dict []) := by
    unfold toX
    simp only [hj']
  simp only [fRepr, e1, e2]
  rw [if_pos ⟨by decide +kernel, by decide +kernel, by decide +kernel⟩]
theorem Q1.cw {a : Nat} {m : Mem} {q : PV} (h : Q1 a m q) : ∃ d, Cw m 11 11 q d := by
  rcases h with h | ⟨k, l, rfl, _, d, e⟩
  · exact ⟨_, (Cw.data h).mono (by omega) (by omega)⟩
  · exact ⟨_, Cw.lst d e⟩
theorem BV.cw {a : Nat} {m : Mem} {q : PV} (h : BV a m q) : ∃ d, Cw m 60 12 q d := by
  rcases h with h | ⟨l, rfl, b, c⟩
  · obtain ⟨d, hd⟩ := h.cw
    exact ⟨d, hd.mono (by omega) (by omega)⟩
  · obtain ⟨d, hd⟩ := Cw.tuple (w := 11) (e := 11) fun q hq => (c q hq).cw
    exact ⟨d, hd.mono (by omega) (by omega)⟩
theorem VV.rp {N a : Nat} {m : Mem} {V : PV} (h : VV N a m V) (hN : N ≤ 20) : Rp1 m V := by
  cases h with
  | dat h hs => exact ⟨V.pd.shown, fun m' _ => repr_good (h.mono (by omega))⟩
  | sig u s l h hu hs hl hB =>
    subst h
    obtain ⟨db, hb⟩ := Cw.tuple (w := 60) (e := 12) fun q hq => (hB q hq).cw
    have : 60 * l.length ≤ 1200 := by omega
    obtain ⟨d, hd⟩ := Cw.tuple (m := m) (w := 1201) (e := 13) (l := [u, .tup l, s]) fun q hq => by
      simp only [List.mem_cons, List.not_mem_nil, or_false] at hq
      rcases hq with rfl | rfl | rfl
      · obtain ⟨d, hd⟩ := hu.cw; exact ⟨d, hd.mono (by omega) (by omega)⟩
      · exact ⟨db, hb.mono (by omega) (by omega)⟩
      · obtain ⟨d, hd⟩ := hs.cw; exact ⟨d, hd.mono (by omega) (by omega)⟩
    exact rp_tup hd (by simp) (by omega)
  | lst k l h hk hc g =>
    subst h
    exact ⟨(PyData.list (PV.pds l)).shown, fun m' x => repr_goods (x.get hc) (g.mono (by omega))⟩
  | mid u s k l h hu hs hk hc g =>
    subst h
    obtain ⟨d, hd⟩ := Cw.tuple (m := m) (w := 201) (e := 11) (l := [u, .ref k, s]) fun q hq => by
      simp only [List.mem_cons, List.not_mem_nil, or_false] at hq
      rcases hq with rfl | rfl | rfl
      · exact ⟨_, (Cw.data hu).mono (by omega) (by omega)⟩
      · exact ⟨_, (Cw.lst hc g).mono (by omega) (by omega)⟩
      · exact ⟨_, (Cw.data hs).mono (by omega) (by omega)⟩
    exact rp_tup hd (by simp) (by omega)
  | dct k h hk hc => subst h; exact rp_dct hc
end Law
end
section
set_option autoImplicit false
/-! The law's own looks at numbers and bursts (k01): run. -/
namespace Law
open PySem PL
theorem law_is_number_kd {m : Mem} {q : PV} (h : Kd m q) : m__law_is_number [q] m = .ok (.bl (numB q)) m := by
  obtain ⟨_, i3, i4⟩ := kd_isi h
  apply fn_pure0
  rw [run_ev]
  unfold b__law_is_number
  cases q with
  | int z =>
    simp only [tyB, tyI] at i3 i4
    have hM : M60 = 1000000000000000000000000000000000000000000000000000000000000 := rfl
    have e : decide ((if z < 0 then -z else z) ≤ 1000000000000000000000000000000000000000000000000000000000000) = n60 z := by
      unfold n60
      rw [Bool.eq_iff_iff]
      simp only [decide_eq_true_eq, Bool.and_eq_true, hM]
      split <;> omega
    simp only [numB]
    rw [← e]
    simp [i3, i4]
  | _ => simp only [tyB, tyI] at i3 i4; simp [i3, i4, numB]
theorem law_is_burst_b1 {m : Mem} {q : PV} (h : B1 m q) : m__law_is_burst [q] m = .ok (.bl (buOf q).isSome) m := by
  have ⟨i0, _, _⟩ := kd_isi h.kd
  apply fn_sat_data rfl
  apply run_sat
  unfold b__law_is_burst
  simp only [List.map_cons, List.map_nil, List.length_cons, List.length_nil, List.replicate, List.cons_append, List.nil_append, Nat.reduceAdd, Nat.reduceSub]
  by_cases ht : ∃ l, q = .tup l
  · obtain ⟨l, rfl⟩ := ht
    obtain ⟨h1, h2⟩ := h.items
    simp only [tyT] at i0
    by_cases h4 : l.length = 4
    · match l, h4 with
      | [a, b, d, e], _ =>
        have key := lc_pure (it := iVal (v 0)) (g := tn 5) (t := app1 fNot (app m__law_is_number (ac (v 5) an))) (e := c (.int 1)) (vs := [5]) (env := [some (.tup [a, b, d, e]), none, none, none, none, none]) (μ := m) (μ1 := m) (lk := []) (fun q : PV => q) (fun q => if (!numB q) = true then some (.int 1) else none) [a, b, d, e] (by simp) (fun _ => locked_nil _) (by show _ < 16777216; simp) (fun q hq L => by
          have := law_is_number_kd ((h1 q hq).ext (Ext.app m L))
          refine ⟨_, rfl, ?_⟩
          cases hs : numB q with
          | true => rw [hs] at this; simp [wipe, this]
          | false => rw [hs] at this; simp [wipe, this])
        rw [filterMap_if, onesL_map] at key
        obtain ⟨N, hN⟩ : ∃ N, N = ([a, b, d, e].filter fun q => !numB q).length := ⟨_, rfl⟩
        rw [← hN] at key
        obtain ⟨ne, _⟩ := onesL_cmp N m
        have hNn : (N = 0) = (([a, b, d, e].all numB) = true) := by rw [hN]; exact nums_all
        generalize onesL N = ON at *
        generalize lc (iVal (v 0)) (tn 5) (app1 fNot (app m__law_is_number (ac (v 5) an))) (c (.int 1)) [5] = LC at *
        by_cases hz : N = 0
        · have hall := hNn ▸ hz
          simp only [List.all_cons, List.all_nil, Bool.and_true, Bool.and_eq_true] at hall
          obtain ⟨n1, n2, n3, n4⟩ := hall
          cases a with
          | int a =>
            cases b with
            | int b =>
              cases d with
              | int d =>
                cases e with
                | int e =>
                  rw [bu_four]
                  simp only [numB] at n1 n2 n3 n4
                  rw [n1, n2, n3, n4]
                  simp only [Bool.and_self, Bool.true_and]
                  simp [hz] at ne
                  refine seq_sat (fun e' m2 => Ext m m2 ∧ e' = [some (.tup [.int a, .int b, .int d, .int e]), none, none, none, none, none]) ?_ ?_
                  · simp [i0, key, ne]
                  rintro e' m2 ⟨x2, rfl⟩
                  refine seq_sat (fun e' m3 => m3 = m2 ∧ e' = [some (.tup [.int a, .int b, .int d, .int e]), some (.int a), some (.int b), some (.int d), some (.int e), none]) (by simp) ?_
                  rintro e' m3 ⟨rfl, rfl⟩
                  obtain ⟨l, rfl⟩ := x2
                  by_cases c1 : 0 < b
                  · by_cases c2 : 0 < e
                    · have h1 : 1 ≤ b := by omega
                      have h2 : 1 ≤ e := by omega
                      by_cases c3 : e = 1
                      · subst c3
                        simp [four, c1, h1]
                        intro _
                        omega
                      · have c4 : 1 < e := by omega
                        simp [four, c1, c2, c3, c4, h1, h2]
                    · have : four b d e = false := by rw [Bool.eq_false_iff, ne_eq, four_iff]; omega
                      rw [this]
                      simp [c1, c2]
                  · have : four b d e = false := by rw [Bool.eq_false_iff, ne_eq, four_iff]; omega
                    rw [this]
                    simp [c1]
                | _ => simp [numB] at n4
              | _ => simp [numB] at n3
            | _ => simp [numB] at n2
          | _ => simp [numB] at n1
        · have hb : buOf (.tup [a, b, d, e]) = none := by
            cases hbb : buOf (.tup [a, b, d, e]) with
            | none => rfl
            | some bb =>
              obtain ⟨e1, e2⟩ := buOf_some hbb
              simp only [Bu.pv, PV.tup.injEq, List.cons.injEq, and_true] at e1
              obtain ⟨rfl, rfl, rfl, rfl⟩ := e1
              exact absurd (hNn ▸ (by simp [numB, e2.t, e2.o, e2.f, e2.n])) hz
          rw [hb]
          simp [hz] at ne
          simp [i0, key, ne]
    · have hb : buOf (.tup l) = none := bu_none fun a b d e hh => h4 (by rw [hh]; rfl)
      have c4 : ¬ ((l.length : Int) = 4) := by omega
      rw [hb]
      simp [i0, c4]
  · obtain ⟨t0, hb⟩ := noTup fun l hh => ht ⟨l, hh⟩
    rw [t0] at i0
    rw [hb]
    simp [i0]
end Law
end
section
set_option autoImplicit false
/-! What is wrong first with a value as a signal: the law's own look, run (k01). -/
namespace Law
open PySem PL
def formedB (V : PV) : Bool := match V with
  | .tup [u, .tup l, s] => endB u && endB s && decide (l.length ≤ 100)
  | _ => false
theorem law_formed_ev {m : Mem} {V : PV} (hV : S3 m V) : m__law_is_formed [V] m = .ok (.bl (formedB V)) m := by
  apply fn_sat_data rfl
  apply run_sat
  unfold b__law_is_formed
  simp only [List.map_cons, List.map_nil, List.length_cons, List.length_nil, List.replicate, List.cons_append, List.nil_append, Nat.reduceAdd, Nat.reduceSub]
  have ⟨i0, _, _⟩ := kd_isi hV.kd
  by_cases hn : ∀ u B s, V ≠ .tup [u, B, s]
  · have hf : formedB V = false := by
      unfold formedB
      split
      · exact absurd rfl (hn _ _ _)
      · rfl
    rw [hf]
    cases V with
    | tup l =>
      have c3 : ¬ ((l.length : Int) = 3) := fun hc => by
        have hc : l.length = 3 := by omega
        match l, hc with
        | [u, B, s], _ => exact hn u B s rfl
      simp only [tyT] at i0
      simp [i0, c3]
    | _ => simp only [tyT] at i0; simp [i0]
  obtain ⟨u, B, s, rfl⟩ : ∃ u B s, V = .tup [u, B, s] := Classical.byContradiction fun h => hn fun u B s e => h ⟨u, B, s, e⟩
  clear hn
  simp only [tyT] at i0
  obtain ⟨hk, hb⟩ := hV.items _ rfl
  have hBk := kd_isi (hk B (by simp))
  by_cases hn : ∀ l, B ≠ .tup l
  · have hf : formedB (.tup [u, B, s]) = false := by
      cases B with
      | tup l => exact absurd rfl (hn l)
      | _ => rfl
    have tB := (noTup hn).1
    rw [tB] at hBk
    rw [hf]
    simp [i0, hBk.1]
  obtain ⟨l, rfl⟩ : ∃ l, B = .tup l := Classical.byContradiction fun h => hn fun l e => h ⟨l, e⟩
  clear hn
  simp only [tyT] at hBk
  have key := lc_pure (it := iVal (app fTup (ac (app2 fIx (v 0) (c (.int 0))) (ac (app2 fIx (v 0) (c (.int 2))) an)))) (g := tn 1) (t := PL.and (app2 fNotN (v 1) (c .non)) (app1 fNot (app m__law_is_number (ac (v 1) an)))) (e := c (.int 1)) (vs := [1]) (env := [some (.tup [u, .tup l, s]), none]) (μ := m) (μ1 := m) (lk := []) (fun q : PV => q) (fun q => if (!endB q) = true then some (.int 1) else none) [u, s] (by simp) (fun _ => locked_nil _) (by show _ < 16777216; simp) (fun q hq L => by
    have hq' : q ∈ [u, .tup l, s] := by simp at hq ⊢; rcases hq with h | h <;> simp [h]
    have := law_is_number_kd ((hk q hq').ext (Ext.app m L))
    refine ⟨_, rfl, ?_⟩
    cases q with
    | non => simp [wipe, endB, isNon]
    | int z =>
      cases hs : numB (.int z) with
      | true => rw [hs] at this; simp [wipe, endB, isNon, this, hs]
      | false => rw [hs] at this; simp [wipe, endB, isNon, this, hs]
    | _ => simp only [numB] at this; simp [wipe, endB, isNon, this, numB])
  rw [filterMap_if, onesL_map] at key
  obtain ⟨N, hN⟩ : ∃ N, N = ([u, s].filter fun q => !endB q).length := ⟨_, rfl⟩
  rw [← hN] at key
  obtain ⟨_, eq⟩ := onesL_cmp N m
  have hNn : (N = 0) = ((endB u && endB s) = true) := by rw [hN]; exact ends_all u s
  have hd : decide (N = 0) = (endB u && endB s) := by rw [Bool.eq_iff_iff, decide_eq_true_eq, hNn]
  rw [hd] at eq
  have hf : formedB (.tup [u, .tup l, s]) = (endB u && endB s && decide (l.length ≤ 100)) := rfl
  rw [hf]
  generalize onesL N = ON at *
  generalize lc (iVal (app fTup (ac (app2 fIx (v 0) (c (.int 0))) (ac (app2 fIx (v 0) (c (.int 2))) an)))) (tn 1) (PL.and (app2 fNotN (v 1) (c .non)) (app1 fNot (app m__law_is_number (ac (v 1) an)))) (c (.int 1)) [1] = LC at *
  by_cases cl : l.length ≤ 100
  · have cl' : ¬ (100 : Int) < l.length := by omega
    simp [i0, hBk.1, cl, cl', key, eq]
  · have cl' : (100 : Int) < l.length := by omega
    simp [i0, hBk.1, cl, cl']
theorem law_due_ev {m : Mem} {V : PV} (hV : S3 m V) : m__law_due [V] m = .ok (errV V) m := by
  have hdat : (errV V).data = true := by
    unfold errV
    split
    · split
      · refine tagV_data _ _ ?_
        split
        · exact restV_data _ _ _ _
        · simp
      · simp
    · simp
  apply fn_sat_data hdat
  apply run_sat
  unfold b__law_due
  simp only [List.map_cons, List.map_nil, List.length_cons, List.length_nil, List.replicate, List.cons_append, List.nil_append, Nat.reduceAdd, Nat.reduceSub]
  have e0 := law_formed_ev hV
  by_cases hf : formedB V = false
  · have he : errV V = .str "form" := by
      unfold errV
      split
      · rename_i u l s
        have : (endB u && endB s && decide (l.length ≤ 100)) = false := hf
        rw [if_neg (by rw [this]; simp)]
      · rfl
    rw [hf] at e0
    rw [he]
    simp [e0]
  have hf : formedB V = true := by simpa using hf
  rw [hf] at e0
  obtain ⟨u, l, s, rfl⟩ : ∃ u l s, V = .tup [u, .tup l, s] := by
    unfold formedB at hf
    split at hf
    · exact ⟨_, _, _, rfl⟩
    · nomatch hf
  have hcond : (endB u && endB s && decide (l.length ≤ 100)) = true := hf
  have hc2 := hcond
  simp only [Bool.and_eq_true, decide_eq_true_eq] at hc2
  obtain ⟨⟨eu, es⟩, cl⟩ := hc2
  obtain ⟨hk, hb⟩ := hV.items _ rfl
  obtain ⟨hl1, hb1⟩ := hb (.tup l) (by simp) l rfl
  refine seq_sat (fun e m' => m' = m ∧ e = [some (.tup [u, .tup l, s]), none, none, none, none, none, none, none, none, none, none, none]) (by simp [e0]) ?_
  rintro e m' ⟨rfl, rfl⟩
  refine seq_sat (fun e m => m = m' ∧ e = [some (.tup [u, .tup l, s]), none, none, some u, some (.tup l), some s, none, none, none, none, none, none]) (by simp) ?_
  rintro e m ⟨rfl, rfl⟩
  refine seq_sat2 (fun e m' => m' = m ∧ (∃ bs, busOf l = some bs) ∧ ∃ q2 q6, e = [some (.tup [u, .tup l, s]), none, q2, some u, some (.tup l), some s, q6, none, none, none, none, none]) ?_ ?_
  · simp only [forS_ev]
    have hit : iEnum (v 4) [some (.tup [u, .tup l, s]), none, none, some u, some (.tup l), some s, none, none, none, none, none, none] m = .ok ⟨(l.zipIdx).map fun z => PV.tup [.int (z.2 : Nat), z.1], []⟩ m := by
      simp [iEnum, enumOf, getL, enum_tup]
    rw [hit]
    simp only [Out.of_ok]
    refine for_sat0 (fun z : PV × Nat => PV.tup [.int (z.2 : Nat), z.1]) l.zipIdx (fun i e m' => m' = m ∧ (∀ j, j < i → badB l j = false) ∧ ∃ q2 q6, e = [some (.tup [u, .tup l, s]), none, q2, some u, some (.tup l), some s, q6, none, none, none, none, none]) (fun _ _ _ _ => locked_nil _) ⟨rfl, fun j hj => by omega, none, none, rfl⟩ ?_ ?_
    · rintro i z e m3 hx ⟨rfl, hbj, q2, q6, rfl⟩
      obtain ⟨z2, z1⟩ := zip_get hx
      rcases z with ⟨q, j⟩
      simp only at z1 z2
      subst z2
      have hj := (List.getElem?_eq_some_iff.mp z1).1
      have e1 := law_is_burst_b1 (hb1 q (List.mem_of_getElem? z1))
      cases hbq : buOf q with
      | some b =>
        have hf : badB l j = false := by simp [badB, z1, hbq]
        rw [hbq] at e1
        simp at e1
        simp [e1]
        exact fun k hk => by
          by_cases hk2 : k < j
          · exact hbj k hk2
          · have : k = j := by omega
            rw [this]; exact hf
      | none =>
        have ht : badB l j = true := by simp [badB, z1, hbq]
        have hfi := find_first hj ht hbj
        have he : errV (.tup [u, .tup l, s]) = .tup [.str "burst", .int (j : Nat)] := by
          simp only [errV]
          rw [if_pos hcond, hfi]
          rfl
        rw [he]
        rw [hbq] at e1
        simp at e1
        simp [e1]
    · rintro e m3 ⟨rfl, hbj, q2, q6, rfl⟩
      exact ⟨rfl, busOf_all fun i hi => hbj i (by simpa using hi), q2, q6, rfl⟩
  rintro e m3 ⟨rfl, ⟨bs, hbs⟩, q2, q6, rfl⟩
  obtain ⟨hlb, hok⟩ := busOf_some hbs
  have hfb : (List.range l.length).find? (badB l) = none := find_no fun j _ => busOf_bad hbs j
  have hll : bs.length = l.length := by rw [hlb]; simp
  have he0 : errV (.tup [u, .tup l, s]) = restV (.tup [u, .tup l, s]) u s bs := by
    simp only [errV]
    rw [if_pos hcond, hfb, hbs]
    rfl
  rw [he0]
  unfold restV
  have hu := (end_opt eu).1
  have hs := (end_opt es).1
  refine seq_sat (fun e m' => m' = m3 ∧ e = [some (.tup [u, .tup l, s]), some u, q2, some u, some (.tup l), some s, q6, none, none, none, none, none]) (by simp) ?_
  rintro e m4 ⟨rfl, rfl⟩
  have hu' : some u = some (opt (aheadAt (optZ u) bs 0)) := by rw [← show u = opt (aheadAt (optZ u) bs 0) from hu]
  refine seq_sat2 (fun e m' => m' = m4 ∧ (List.range bs.length).find? (badO (optZ u) bs) = none ∧ ∃ q2 q8 q9 q10 q11, e = [some (.tup [u, .tup l, s]), some (opt (aheadAt (optZ u) bs bs.length)), q2, some u, some (.tup l), some s, q6, none, q8, q9, q10, q11]) ?_ ?_
  · simp only [forS_ev]
    have hit : iEnum (v 4) [some (.tup [u, .tup l, s]), some u, q2, some u, some (.tup l), some s, q6, none, none, none, none, none] m4 = .ok ⟨(l.zipIdx).map fun z => PV.tup [.int (z.2 : Nat), z.1], []⟩ m4 := by
      simp [iEnum, enumOf, getL, enum_tup]
    rw [hit]
    simp only [Out.of_ok]
    refine for_sat0 (fun z : PV × Nat => PV.tup [.int (z.2 : Nat), z.1]) l.zipIdx (fun i e m' => m' = m4 ∧ (∀ j, j < i → badO (optZ u) bs j = false) ∧ ∃ q2 q8 q9 q10 q11, e = [some (.tup [u, .tup l, s]), some (opt (aheadAt (optZ u) bs i)), q2, some u, some (.tup l), some s, q6, none, q8, q9, q10, q11]) (fun _ _ _ _ => locked_nil _) ⟨rfl, fun j hj => by omega, q2, none, none, none, none, by rw [← hu']⟩ ?_ ?_
    · rintro i z e m' hx ⟨rfl, hbj, q2, q8, q9, q10, q11, rfl⟩
      obtain ⟨z2, z1⟩ := zip_get hx
      rw [hlb, List.getElem?_map] at z1
      cases hbi : bs[i]? with
      | none => rw [hbi] at z1; simp at z1
      | some b =>
        rw [hbi] at z1
        simp at z1
        have hi := (List.getElem?_eq_some_iff.mp hbi).1
        have hbok := hok b (List.mem_of_getElem? hbi)
        have m1 := hbok.m1
        have m2 := hbok.m2
        rcases z with ⟨q, j⟩
        simp only at z1 z2
        subst z1
        subst z2
        have hnx : aheadAt (optZ u) bs (j + 1) = some b.end := by simp [aheadAt, hbi]
        have go : ∀ k, (badO (optZ u) bs j = false) → k < j + 1 → badO (optZ u) bs k = false := fun k hf hk => by
          by_cases hk2 : k < j
          · exact hbj k hk2
          · have : k = j := by omega
            rw [this]; exact hf
        have bend : b.end = b.tick + b.times * b.on + (b.times - 1) * b.off := rfl
        cases ha : aheadAt (optZ u) bs j with
        | none =>
          have hf : badO (optZ u) bs j = false := by simp [badO, ha]
          simp [opt, Bu.pv, m1, m2, hnx, bend, isNon]
          exact fun k hk => go k hf hk
        | some a =>
          by_cases c : b.tick ≤ a
          · have ht : badO (optZ u) bs j = true := by simp [badO, ha, hbi, c]
            have hfi := find_first hi ht hbj
            simp [opt, Bu.pv, c, hfi, tagV, isNon]
          · have hf : badO (optZ u) bs j = false := by simp [badO, ha, hbi, c]
            simp [opt, Bu.pv, c, m1, m2, hnx, bend, isNon]
            exact fun k hk => go k hf hk
    · rintro e m' ⟨rfl, hbj, q2, q8, q9, q10, q11, rfl⟩
      have hlz : l.zipIdx.length = bs.length := by simp [hll]
      rw [hlz] at hbj ⊢
      exact ⟨rfl, find_no hbj, q2, q8, q9, q10, q11, rfl⟩
  rintro e m5 ⟨rfl, hno, q2, q8, q9, q10, q11, rfl⟩
  rw [hno]
  simp only [tagV]
  have gV : Good (5 * bs.length + 10) (.tup [u, .tup l, s]) := sig_good eu es hok hlb
  have dV : D0 (.tup [u, .tup l, s]) := ⟨gV.data, gV.sm, by have := gV.dp; omega, by have := gV.wt; omega⟩
  have dA : D0 (.tup [.int 0, .tup [], .int 0]) := ⟨by simp, by decide +kernel, by simp, by simp⟩
  have nA := fun μ => fNe_of (d0_eq (p := .tup [u, .tup l, s]) (q := .tup [.int 0, .tup [], .int 0]) rfl dV dA μ)
  refine seq_sat2 (fun e m' => m' = m5 ∧ sinceB (.tup [u, .tup l, s]) (optZ u) bs (optZ s) = false ∧ e = [some (.tup [u, .tup l, s]), some (opt (aheadAt (optZ u) bs bs.length)), q2, some u, some (.tup l), some s, q6, none, q8, q9, q10, q11]) ?_ ?_
  · have nA' : ∀ μ, fNe [.tup [u, .tup l, s], .tup [.int 0, .tup [], .int 0]] μ = .ok (.bl (!isAll (.tup [u, .tup l, s]))) μ := nA
    unfold sinceB
    generalize isAll (.tup [u, .tup l, s]) = al at *
    cases hso : optZ s with
    | none =>
      have hs' : s = .non := by rw [hs, hso]; rfl
      subst hs'
      simp [isNon]
    | some z =>
      have hs' : s = .int z := by rw [hs, hso]; rfl
      subst hs'
      cases hah : aheadAt (optZ u) bs bs.length with
      | none => simp [isNon, opt]
      | some a =>
        by_cases ca : z ≤ a
        · cases al
          · simp [isNon, opt, ca, nA']
          · simp [isNon, opt, ca, nA']
        · simp [isNon, opt, ca]
  rintro e m6 ⟨rfl, hsb, rfl⟩
  rw [hsb]
  simp only [Bool.false_eq_true, if_false]
  refine seq_sat2 (fun e m' => m' = m6 ∧ (List.range (bs.length - 1)).find? (badJ bs) = none) ?_ ?_
  · simp only [forS_ev]
    have hit : iRng1 (app2 fSub (app fLen (ac (v 4) an)) (c (.int 1))) [some (.tup [u, .tup l, s]), some (opt (aheadAt (optZ u) bs bs.length)), q2, some u, some (.tup l), some s, q6, none, q8, q9, q10, q11] m6 = .ok ⟨(List.range (bs.length - 1)).map (fun k : Nat => PV.int ((k : Nat) : Int)), []⟩ m6 := by
      have hz : ((l.length : Int) - 1).toNat = bs.length - 1 := by omega
      simp [iRng1, big62, rangeL, hz]
      omega
    rw [hit]
    simp only [Out.of_ok]
    refine for_sat0 (fun k : Nat => PV.int ((k : Nat) : Int)) (List.range (bs.length - 1)) (fun i e m' => m' = m6 ∧ (∀ j, j < i → badJ bs j = false) ∧ ∃ q2 q7 q8 q9 q10 q11, e = [some (.tup [u, .tup l, s]), some (opt (aheadAt (optZ u) bs bs.length)), q2, some u, some (.tup l), some s, q6, q7, q8, q9, q10, q11]) (fun _ _ _ _ => locked_nil _) ⟨rfl, fun j hj => by omega, q2, none, q8, q9, q10, q11, rfl⟩ ?_ ?_
    · rintro i x e m' hx ⟨rfl, hbj, q2, q7, q8, q9, q10, q11, rfl⟩
      have hi : i < bs.length - 1 := by have := (List.getElem?_eq_some_iff.mp hx).1; simpa using this
      have hxi : x = i := by
        rw [List.getElem?_range hi] at hx
        injection hx with hx
        exact hx.symm
      subst hxi
      obtain ⟨b, hb⟩ : ∃ b, bs[x]? = some b := ⟨bs[x], List.getElem?_eq_getElem (by omega)⟩
      obtain ⟨d, hd⟩ : ∃ d, bs[x + 1]? = some d := ⟨bs[x + 1], List.getElem?_eq_getElem (by omega)⟩
      have hJ := joined_step hok hb hd
      have hbok := hok b (List.mem_of_getElem? hb)
      have m1 := hbok.m1
      have m2 := hbok.m2
      have ix : ∀ μ, fIx [.tup l, .int (x : Nat)] μ = .ok b.pv μ := fun μ => by rw [fIx_tup, hlb]; exact ixOf_nat μ (by rw [List.getElem?_map, hb]; rfl)
      have ix1 : ∀ μ, fIx [.tup l, .int ((x : Int) + 1)] μ = .ok d.pv μ := fun μ => by
        have e1 : (x : Int) + 1 = ((x + 1 : Nat) : Int) := by omega
        rw [fIx_tup, hlb, e1]; exact ixOf_nat μ (by rw [List.getElem?_map, hd]; rfl)
      have j0 : ∀ μ, fIx [d.pv, .int 0] μ = .ok (.int d.tick) μ := fun μ => by simp [Bu.pv]
      have j1 : ∀ μ, fIx [d.pv, .int 1] μ = .ok (.int d.on) μ := fun μ => by simp [Bu.pv]
      have bend : b.end = b.tick + b.times * b.on + (b.times - 1) * b.off := rfl
      refine seq_sat (fun e m2 => m2 = m' ∧ e = [some (.tup [u, .tup l, s]), some (opt (aheadAt (optZ u) bs bs.length)), some (.int (x : Nat)), some u, some (.tup l), some s, q6, q7, some (.int b.tick), some (.int b.on), some (.int b.off), some (.int b.times)]) ?_ ?_
      · have bpv : b.pv = .tup [.int b.tick, .int b.on, .int b.off, .int b.times] := rfl
        simp [-fIx_tup, ix, bpv]
      rintro e m7 ⟨rfl, rfl⟩
      obtain ⟨gap, hgap⟩ : ∃ gap, gap = d.tick - b.tick - b.times * b.on - (b.times - 1) * b.off := ⟨_, rfl⟩
      refine seq_sat (fun e m2 => m2 = m7 ∧ e = [some (.tup [u, .tup l, s]), some (opt (aheadAt (optZ u) bs bs.length)), some (.int (x : Nat)), some u, some (.tup l), some s, q6, some (.int gap), some (.int b.tick), some (.int b.on), some (.int b.off), some (.int b.times)]) ?_ ?_
      · generalize d.pv = pd at *
        simp [-fIx_tup, ix1, j0, m1, m2, hgap]
      rintro e m8 ⟨rfl, rfl⟩
      have htk : badJ bs x = (decide (b.on = d.on) && (decide (b.times = 1) || decide (b.off = gap))) := by
        rw [hJ]
        unfold takes
        congr 3
        rw [bend, hgap]
        apply propext
        constructor <;> intro <;> omega
      have go : ∀ k, (badJ bs x = false) → k < x + 1 → badJ bs k = false := fun k hf hk => by
        by_cases hk2 : k < x
        · exact hbj k hk2
        · have : k = x := by omega
          rw [this]; exact hf
      generalize d.pv = pd at *
      by_cases c1 : b.on = d.on
      · by_cases c2 : b.times = 1
        · have ht : badJ bs x = true := by rw [htk]; simp [c1, c2]
          have hfi := find_first (n := bs.length - 1) hi ht hbj
          simp [-fIx_tup, ix1, j1, c1, c2, hfi]
        · by_cases c3 : b.off = gap
          · have ht : badJ bs x = true := by rw [htk]; simp [c1, c3]
            have hfi := find_first (n := bs.length - 1) hi ht hbj
            simp [-fIx_tup, ix1, j1, c1, c2, c3, hfi]
          · have hf : badJ bs x = false := by rw [htk]; simp [c2, c3]
            simp [-fIx_tup, ix1, j1, c1, c2, c3]
            exact fun k hk => go k hf hk
      · have hf : badJ bs x = false := by rw [htk]; simp [c1]
        simp [-fIx_tup, ix1, j1, c1]
        exact fun k hk => go k hf hk
    · rintro e m' ⟨rfl, hbj, _⟩
      exact ⟨rfl, find_no fun j hj => hbj j (by simpa using hj)⟩
  rintro e m' ⟨rfl, hno2⟩
  rw [hno2]
  simp
end Law
end
section
set_option autoImplicit false
/-! The deck of k01 to k09. -/
namespace Law
open PySem PL
abbrev deckD (a : Nat) (s : Int) : PO := .dct [(.inr ("deep" : Str), .ref a), (.inr ("state" : Str), .int s)]
/-- a dict that is drawn from, with a list of great numbers somewhere behind it -/
def deckF (j a : Nat) : Fam where
  cs := [j, a]
  top := max j a
  inv m := j < a ∧ ∃ (bs : List Int) (s : Int), m[j]? = some (deckD a s) ∧ m[a]? = some (.lst (bs.map .int)) ∧ bs.length ≤ 100
  le i hi := by simp at hi; omega
  loc m m' h e := by
    obtain ⟨h0, bs, s, h1, h2, h3⟩ := h
    exact ⟨h0, bs, s, by rw [e j (by simp)]; exact h1, by rw [e a (by simp)]; exact h2, h3⟩
  lt m h := by
    obtain ⟨h0, bs, s, h1, h2, h3⟩ := h
    have := (List.getElem?_eq_some_iff.mp h2).1
    omega
theorem deckF_top {j a : Nat} {m : Mem} (h : (deckF j a).inv m) : (deckF j a).top = a := by
  have := h.1
  show max j a = a
  omega
theorem ddraw_ev {j a : Nat} (m : Mem) (hp : (deckF j a).inv m) (many : Int) (h1 : many < 2 ^ 400) : (m__law_draw [.ref j, .int many] m).sat fun p m' => (∃ r, p = .int r ∧ 0 ≤ r ∧ (r < many ∨ r = 0)) ∧ (deckF j a).Go m m' := by
  apply Fam.fn_go hp
  apply run_sat
  have hp' := hp
  obtain ⟨hja, bs, s, e1, e2, e3⟩ := hp'
  have l2 := (List.getElem?_eq_some_iff.mp e2).1
  unfold b__law_draw
  simp only [List.map_cons, List.map_nil, List.length_cons, List.length_nil, List.replicate, List.cons_append, List.nil_append, Nat.reduceAdd, Nat.reduceSub]
  by_cases c0 : many < 2
  · simp [c0]
    exact Fam.refl hp
  have c2m : 2 ≤ many := by omega
  have hd : divOk many := by
    refine ⟨by omega, ?_⟩
    have : many.natAbs < 2 ^ 400 := by omega
    have := (Nat.log2_lt (by omega)).mpr this
    omega
  have hr := fun i : Int => And.intro (Int.emod_nonneg i (by omega : many ≠ 0)) (Int.emod_lt_of_pos i (by omega : 0 < many))
  have h0 : 0 < many := by omega
  have en : fNe [.ref a, .ref m.length] (m ++ [.lst []]) = .ok (.bl (!bs.isEmpty)) (m ++ [.lst []]) := fNe_ints (get_some e2) (by simp)
  have dg : fDGet [.ref j, .str ("deep" : Str)] m = .ok (.ref a) m := fDGet_ok e1 rfl (by simp)
  refine seq_sat (fun e m' => m' = m ∧ e = [some (.ref j), some (.int many), none, none, none]) (by simp [c0]) ?_
  rintro e m' ⟨rfl, rfl⟩
  rcases List.eq_nil_or_concat bs with rfl | ⟨bs', x, rfl⟩
  · have g0 := Fam.go_app hp [PO.lst []]
    have e1' : (m' ++ [PO.lst []])[j]? = some (deckD a s) := get_some e1
    have e2' : (m' ++ [PO.lst []])[a]? = some (.lst (([] : List Int).map PV.int)) := get_some e2
    refine seq_sat (fun e m => m = m' ++ [.lst []] ∧ e = [some (.ref j), some (.int many), none, none, none]) (by simp [dg, en]) ?_
    rintro e m'' ⟨rfl, rfl⟩
    generalize m' ++ [PO.lst []] = M at *
    have z : ∀ o, (M.set j o)[j]? = some o := fun o => get_set_same e1'
    have ga : ∀ t', (deckF j a).Go m' (M.set j (deckD a t')) := fun t' =>
      Fam.Go.put g0 (k := j) (by simp [deckF]) ⟨hja, [], t', z _, by rw [List.getElem?_set_ne (by omega)]; exact e2', by simp⟩
    have ds : fDGet [.ref j, .str ("state" : Str)] M = .ok (.int s) M := fDGet_ok e1' rfl (by simp)
    have dp : ∀ t', fDPut [.ref j, .str ("state" : Str), .int t'] M = .ok .non (M.set j (deckD a t')) := fun t' => by
      have := fDPut_ok (μ := M) (q := .str ("state" : Str)) (p := .int t') e1' rfl (by show 2 < 16777216; decide)
      simpa [putD] using this
    have q1 : mulOk s 1181783497276652981 := .inr (.inl (by decide))
    have q2 : ∀ i k : Int, mulOk (i % 2305843009213693951) k := fun i k => .inl (by omega)
    have q3 : ∀ i : Int, mulOk 374761393 i := fun i => .inl (by decide)
    have q6 : divOk 1048576 := divOk_small (by decide) (by decide)
    refine seq_sat (fun e m => m = M ∧ ∃ t, e = [some (.ref j), some (.int many), some (.int (t % 2305843009213693951)), none, none]) ?_ ?_
    · simp [ds, q1]
      exact ⟨_, rfl⟩
    rintro e m3 ⟨rfl, t, rfl⟩
    have ga := ga (t % 2305843009213693951)
    have dp := dp (t % 2305843009213693951)
    simp [dp, q2, q3, q6, h0, hr]
    exact ga
  · have hb : bs'.length ≤ 99 := by simp at e3; omega
    have hb' : bs'.length < 16777216 := by omega
    have e2' : (m' ++ [PO.lst []])[a]? = some (.lst ((bs' ++ [x]).map PV.int)) := get_some (by rw [List.concat_eq_append] at e2; exact e2)
    have g0 := Fam.go_app hp [PO.lst []]
    have g1 : ∀ l : List Int, l.length ≤ 100 → (deckF j a).Go m' ((m' ++ [PO.lst []]).set a (.lst (l.map .int))) := fun l hl =>
      Fam.Go.put g0 (k := a) (by simp [deckF]) ⟨hja, l, s, by rw [List.getElem?_set_ne (by omega)]; exact get_some e1, get_set_same e2', hl⟩
    have ga := g1 bs' (by omega)
    have gb := g1 (bs' ++ [x / many]) (by simp; omega)
    have e1' : (m' ++ [PO.lst []])[j]? = some (deckD a s) := get_some e1
    have hja' : j ≠ a := by omega
    have ht : (app2 fNe (app2 fDGet (v 0) (c (.str ("deep" : Str)))) (app fLst an)) [some (.ref j), some (.int many), none, none, none] m' = .ok (.bl true) (m' ++ [.lst []]) := by
      simp [dg, en]
    refine seq_sat2 (fun _ _ => False) ?_ (by rintro e m h; exact h.elim)
    simp only [cond_ev]
    rw [ht]
    simp only [Out.of_ok, onS_true]
    generalize m' ++ [PO.lst []] = M at *
    have dgM : ∀ o, fDGet [.ref j, .str ("deep" : Str)] (M.set a o) = .ok (.ref a) (M.set a o) := fun o => fDGet_ok (by rw [List.getElem?_set_ne (by omega)]; exact e1') rfl (by simp)
    have dg0 : fDGet [.ref j, .str ("deep" : Str)] M = .ok (.ref a) M := fDGet_ok e1' rfl (by simp)
    have z : ∀ o, (M.set a o)[a]? = some o := fun o => get_set_same e2'
    have kd0 : isKd .list M (.ref a) = true := by simp [isKd, e2']
    have kd1 : ∀ l, isKd .list (M.set a (.lst l)) (.ref a) = true := fun l => by simp [isKd, z]
    simp only [List.map_append, List.map_cons, List.map_nil] at e2'
    have po : fPop [.ref a] M = .ok (.int x) (M.set a (.lst (bs'.map .int))) := by simp [e2']
    refine seq_sat (fun e m => m = M.set a (.lst (bs'.map .int)) ∧ e = [some (.ref j), some (.int many), none, none, some (.int x)]) ?_ ?_
    · simp only [setv_ev, mth_ev, app2_ev, v0, vS, c_ev, Res.bind_ok, dg0, kd0, if_true, an_ev, po, Out.of_ok, sat_nx, List.set, and_self]
    rintro e m ⟨rfl, rfl⟩
    refine seq_sat (fun e m => (deckF j a).Go m' m ∧ e = [some (.ref j), some (.int many), none, none, some (.int x)]) ?_ ?_
    · have ap : fAppend [.ref a, .int (x / many)] (M.set a (.lst (bs'.map .int))) = .ok .non ((M.set a (.lst (bs'.map .int))).set a (.lst (bs'.map .int ++ [.int (x / many)]))) := append_ok _ (z _) (by show _ < 16777216; simp; omega)
      rw [List.set_set] at ap
      simp only [List.map_append, List.map_cons, List.map_nil] at gb
      by_cases c1 : x ≥ many
      · simp [c1, dgM, kd1, hd, ap, -fAppend_ref]
        exact gb
      · simp [c1]
        exact ga
    rintro e m ⟨g, rfl⟩
    simp [h0, hr]
    exact g
theorem dpick_ev {j a : Nat} (m : Mem) (hp : (deckF j a).inv m) (k : Nat) (l : List PV) (hk : a < k) (h : m[k]? = some (.lst l)) (h0 : 0 < l.length) (h1 : l.length < 1000000) : (m__law_pick [.ref j, .ref k] m).sat fun p m' => p ∈ l ∧ (deckF j a).Go m m' := by
  apply Fam.fn_go hp
  apply run_sat
  unfold b__law_pick
  simp [h]
  obtain ⟨p, m2, e, ⟨r, rfl, r0, r1⟩, g⟩ := rsat_ex (ddraw_ev m hp l.length (by omega))
  rw [e]
  have hg := g.get h (by rw [deckF_top hp]; exact hk)
  have hr : r.toNat < l.length := by omega
  simp [hg]
  rw [ixOf_int _ r0 (List.getElem?_eq_getElem hr)]
  simp
  exact g
theorem dpick_tup {j a : Nat} (m : Mem) (hp : (deckF j a).inv m) (l : List PV) (h0 : 0 < l.length) (h1 : l.length < 1000000) : (m__law_pick [.ref j, .tup l] m).sat fun p m' => p ∈ l ∧ (deckF j a).Go m m' := by
  apply Fam.fn_go hp
  apply run_sat
  unfold b__law_pick
  have hl : fLen [.tup l] m = .ok (.int l.length) m := rfl
  simp [hl]
  obtain ⟨p, m2, e, ⟨r, rfl, r0, r1⟩, g⟩ := rsat_ex (ddraw_ev m hp l.length (by omega))
  rw [e]
  have hr : r.toNat < l.length := by omega
  simp
  rw [ixOf_int _ r0 (List.getElem?_eq_getElem hr)]
  simp
  exact g
theorem dpick_lit {j a : Nat} (m : Mem) (hp : (deckF j a).inv m) (l : List PV) (h0 : 0 < l.length) (h1 : l.length < 1000000) : (m__law_pick [.ref j, .ref m.length] (m ++ [.lst l])).sat fun p m' => p ∈ l ∧ (deckF j a).Go m m' :=
  rsat_imp (dpick_ev _ (Fam.app hp _) m.length l (by have := (deckF j a).lt m hp; rw [deckF_top hp] at this; exact this) (by simp) h0 h1) fun _ _ h => ⟨h.1, (Fam.go_app hp _).trans h.2⟩
end Law
end
section
set_option autoImplicit false
/-! Runs grouped by the laws of the deck, run. -/
namespace Law
open PySem PL
def runP (r : Run) : PV := .tup [.int r.1, .int r.2]
theorem group_snoc (R : List Run) (r : Run) : group (R ++ [r]) = add (group R) r := by
  unfold group; rw [adds_app]; rfl
theorem take_one {α : Type} {l : List α} {i : Nat} {x : α} (h : l[i]? = some x) : l.take (i + 1) = l.take i ++ [x] := take_succ' h
theorem dgrouped_ev (u s : Option Int) (R : List Run) (hR : R.length ≤ 1000000) (k : Nat) (m : Mem) (hk : m[k]? = some (.lst (R.map runP))) : m__law_grouped [opt u, .ref k, opt s] m = .ok (sigP u (group R) s) m := by
  apply fn_sat_data (by
    have hb : ∀ b : Bu, b.pv.data = true := fun b => by simp [Bu.pv]
    have ho : ∀ o : Option Int, (opt o).data = true := fun o => by cases o <;> simp [opt]
    simp [sigP, ho, datas_map _ hb])
  apply run_sat
  unfold b__law_grouped
  simp only [List.map_cons, List.map_nil, List.length_cons, List.length_nil, List.replicate, List.cons_append, List.nil_append, Nat.reduceAdd, Nat.reduceSub]
  have hkl := (List.getElem?_eq_some_iff.mp hk).1
  refine seq_sat (fun e m' => m' = m ++ [.lst []] ∧ e = [some (opt u), some (.ref k), some (opt s), some (.ref m.length), some (.int 0), none, none, none, none, none, none]) (by simp) ?_
  rintro e m' ⟨rfl, rfl⟩
  simp only [seq_ev, whileS_ev]
  refine while_sat (fun n e m' => ∃ (at' : Nat) (acc : List Bu) (q5 q6 q7 q8 q9 q10 : Option PV), at' + n = R.length ∧ group (R.take at') = acc ∧ acc.length ≤ at' ∧ (∀ r, R[at']? = some r → ∀ b, acc.getLast? = some b → takes b r.1 (r.2 - r.1) = false) ∧ Ext m m' ∧ m'[m.length]? = some (.lst (acc.map Bu.pv)) ∧ e = [some (opt u), some (.ref k), some (opt s), some (.ref m.length), some (.int at'), q5, q6, q7, q8, q9, q10]) R.length (by unfold fuel; omega) ⟨0, [], none, none, none, none, none, none, by simp, rfl, by simp, by simp, Ext.app _ _, by simp, rfl⟩ ?_
  rintro n e m1 ⟨at', acc, q5, q6, q7, q8, q9, q10, hn, hg, hal, hlast, hx, hc, rfl⟩
  have hk1 := hx.get hk
  have ln : ∀ l, fLen [.ref k] (m1 ++ l) = .ok (.int R.length) (m1 ++ l) := fun l => by
    have := get_some (l := l) hk1
    simp [this]
  have ln0 := ln []
  simp only [List.append_nil] at ln0
  have ix : ∀ (i : Nat) (r : Run), R[i]? = some r → fIx [.ref k, .int i] m1 = .ok (runP r) m1 := fun i r h => by
    rw [fIx_lst _ _ hk1]
    exact ixOf_int _ (by omega) (by rw [List.getElem?_map]; simp [h])
  have r0 : ∀ (r : Run) (μ : Mem), fIx [runP r, .int 0] μ = .ok (.int r.1) μ := fun r μ => by simp [runP]
  have r1 : ∀ (r : Run) (μ : Mem), fIx [runP r, .int 1] μ = .ok (.int r.2) μ := fun r μ => by simp [runP]
  have hcond : (app2 fLt (v 4) (app fLen (ac (v 1) an))) [some (opt u), some (.ref k), some (opt s), some (.ref m.length), some (.int at'), q5, q6, q7, q8, q9, q10] m1 = .ok (.bl (decide (at' < R.length))) m1 := by
    simp [ln0, -fLen_ref]
  rw [hcond, rsat_ok]
  refine ⟨_, rfl, ?_, ?_⟩
  · intro hlt
    have hlt : at' < R.length := of_decide_eq_true hlt
    obtain ⟨r, hr⟩ : ∃ r, R[at']? = some r := ⟨_, List.getElem?_eq_getElem hlt⟩
    have ixr := ix at' r hr
    refine seq_sat (fun e m' => m' = m1 ∧ e = [some (opt u), some (.ref k), some (opt s), some (.ref m.length), some (.int at'), some (runP r), some (.int (r.2 - r.1)), some (.int 1), some (.int 0), q9, q10]) (by simp [ixr, r0, r1, -fIx_ref]) ?_
    rintro e m2 ⟨rfl, rfl⟩
    have g1 : group (R.take (at' + 1)) = acc ++ [⟨r.1, r.2 - r.1, 0, 1⟩] := by
      rw [take_one hr, group_snoc, hg]
      unfold add
      cases ha : acc.getLast? with
      | none => rfl
      | some b => simp only; rw [hlast r hr b ha]; rfl
    simp only [seq_ev, whileS_ev]
    obtain ⟨P, hP⟩ : ∃ P : PL.Env → Mem → Prop, P = fun e m' => ∃ (t : Nat) (off : Int) (q9 q10 : Option PV), 1 ≤ t ∧ at' + t ≤ R.length ∧ group (R.take (at' + t)) = acc ++ [⟨r.1, r.2 - r.1, off, t⟩] ∧ (∀ r', R[at' + t]? = some r' → takes ⟨r.1, r.2 - r.1, off, t⟩ r'.1 (r'.2 - r'.1) = false) ∧ m' = m2 ∧ e = [some (opt u), some (.ref k), some (opt s), some (.ref m.length), some (.int at'), some (runP r), some (.int (r.2 - r.1)), some (.int t), some (.int off), q9, q10] := ⟨_, rfl⟩
    have fin : ∀ e m', P e m' → ((seq (PL.exp (mth .list fAppend (v 3) (ac (app fTup (ac (app2 fIx (v 5) (c (.int 0))) (ac (v 6) (ac (v 8) (ac (v 7) an))))) an))) (setv 4 (app2 fAdd (v 4) (v 7)))) e m').sat { nx := fun e m' => ∃ n', n' < n ∧ ∃ (at' : Nat) (acc : List Bu) (q5 q6 q7 q8 q9 q10 : Option PV), at' + n' = R.length ∧ group (R.take at') = acc ∧ acc.length ≤ at' ∧ (∀ r, R[at']? = some r → ∀ b, acc.getLast? = some b → takes b r.1 (r.2 - r.1) = false) ∧ Ext m m' ∧ m'[m.length]? = some (.lst (acc.map Bu.pv)) ∧ e = [some (opt u), some (.ref k), some (opt s), some (.ref m.length), some (.int at'), q5, q6, q7, q8, q9, q10] } := by
      intro e m' h
      rw [hP] at h
      obtain ⟨t, off, q9, q10, ht, htl, hgt, htk, rfl, rfl⟩ := h
      have ap : fAppend [.ref m.length, .tup [.int r.1, .int (r.2 - r.1), .int off, .int t]] m' = .ok .non (m'.set m.length (.lst (acc.map Bu.pv ++ [.tup [.int r.1, .int (r.2 - r.1), .int off, .int t]]))) := append_ok _ hc (by show _ < 16777216; simp; omega)
      have kd : isKd .list m' (.ref m.length) = true := by simp [isKd, hc]
      have fl : (acc ++ [(⟨r.1, r.2 - r.1, off, t⟩ : Bu)]).map Bu.pv = acc.map Bu.pv ++ [.tup [.int r.1, .int (r.2 - r.1), .int off, .int t]] := by simp [Bu.pv]
      have hx2 : Ext m (m'.set m.length (.lst (acc.map Bu.pv ++ [.tup [.int r.1, .int (r.2 - r.1), .int off, .int t]]))) := hx.set (Nat.le_refl _) _
      have hc2 : (m'.set m.length (.lst (acc.map Bu.pv ++ [.tup [.int r.1, .int (r.2 - r.1), .int off, .int t]])))[m.length]? = some (.lst ((acc ++ [(⟨r.1, r.2 - r.1, off, t⟩ : Bu)]).map Bu.pv)) := by rw [fl]; exact get_set_same hc
      simp only [seq_ev, exp_ev, mth_ev, v0, vS, Res.bind_ok, kd, if_true, ac_ev, an_ev, app_ev, app2_ev, c_ev, r0, fTup4, ap, Out.of_ok, Out.then_nx, setv_ev, sat_nx, List.set, fAdd_int]
      refine ⟨n - t, by omega, at' + t, acc ++ [⟨r.1, r.2 - r.1, off, t⟩], _, _, _, _, _, _, by omega, hgt, by simp; omega, ?_, hx2, hc2, by push_cast; rfl⟩
      intro r' hr' b hb
      simp at hb
      subst hb
      exact htk r' hr'
    refine while_sat (fun n' e m' => ∃ (t : Nat) (off : Int) (h : Run) (q9 q10 : Option PV), 1 ≤ t ∧ at' + t + n' = R.length ∧ group (R.take (at' + t)) = acc ++ [⟨r.1, r.2 - r.1, off, t⟩] ∧ R[at' + t - 1]? = some h ∧ (⟨r.1, r.2 - r.1, off, t⟩ : Bu).end = h.2 ∧ m' = m2 ∧ e = [some (opt u), some (.ref k), some (opt s), some (.ref m.length), some (.int at'), some (runP r), some (.int (r.2 - r.1)), some (.int t), some (.int off), q9, q10]) (R.length - at' - 1) (by unfold fuel; omega) ⟨1, 0, r, q9, q10, by omega, by omega, by simpa using g1, by simpa using hr, by simp [Bu.end]; omega, rfl, by simp⟩ ?_
    rintro n' e m3 ⟨t, off, h, q9, q10, ht, hn', hgt, hh, he, rfl, rfl⟩
    have hcond2 : (app2 fLt (app2 fAdd (v 4) (v 7)) (app fLen (ac (v 1) an))) [some (opt u), some (.ref k), some (opt s), some (.ref m.length), some (.int at'), some (runP r), some (.int (r.2 - r.1)), some (.int t), some (.int off), q9, q10] m3 = .ok (.bl (decide (at' + t < R.length))) m3 := by
      simp [ln0, -fLen_ref]
      omega
    rw [hcond2, rsat_ok]
    refine ⟨_, rfl, ?_, ?_⟩
    · intro hlt2
      have hlt2 : at' + t < R.length := of_decide_eq_true hlt2
      obtain ⟨far, hfar⟩ : ∃ far, R[at' + t]? = some far := ⟨_, List.getElem?_eq_getElem hlt2⟩
      have ixf := ix (at' + t) far hfar
      have ixh := ix (at' + t - 1) h hh
      have c1 : ((at' + t : Nat) : Int) = (at' : Int) + t := by push_cast; rfl
      have c2 : ((at' + t - 1 : Nat) : Int) = (at' : Int) + t - 1 := by omega
      rw [c1] at ixf
      rw [c2] at ixh
      refine seq_sat2 (fun e m' => m' = m3 ∧ e = [some (opt u), some (.ref k), some (opt s), some (.ref m.length), some (.int at'), some (runP r), some (.int (r.2 - r.1)), some (.int t), some (.int off), some (runP h), some (runP far)]) (by simp [ixf, ixh, -fIx_ref]) ?_
      rintro e m4 ⟨rfl, rfl⟩
      have htake : takes ⟨r.1, r.2 - r.1, off, t⟩ far.1 (far.2 - far.1) = (decide (r.2 - r.1 = far.2 - far.1) && (decide ((t : Int) = 1) || decide (off = far.1 - h.2))) := by
        unfold takes
        rw [he]
      cases htk : takes ⟨r.1, r.2 - r.1, off, t⟩ far.1 (far.2 - far.1)
      · have hbk : P [some (opt u), some (.ref k), some (opt s), some (.ref m.length), some (.int at'), some (runP r), some (.int (r.2 - r.1)), some (.int t), some (.int off), some (runP h), some (runP far)] m4 := by
          rw [hP]
          exact ⟨t, off, _, _, ht, by omega, hgt, fun r' hr' => by rw [hfar] at hr'; cases hr'; exact htk, rfl, rfl⟩
        rw [htake] at htk
        have htest : (PL.or (app2 fNe (app2 fSub (app2 fIx (v 10) (c (.int 1))) (app2 fIx (v 10) (c (.int 0)))) (v 6)) (PL.and (app2 fGt (v 7) (c (.int 1))) (app2 fNe (app2 fSub (app2 fIx (v 10) (c (.int 0))) (app2 fIx (v 9) (c (.int 1)))) (v 8)))) [some (opt u), some (.ref k), some (opt s), some (.ref m.length), some (.int at'), some (runP r), some (.int (r.2 - r.1)), some (.int t), some (.int off), some (runP h), some (runP far)] m4 = .ok (.bl true) m4 := by
          by_cases d1 : far.2 - far.1 = r.2 - r.1
          · have d1' : r.2 - r.1 = far.2 - far.1 := d1.symm
            simp [d1'] at htk
            have d2 : (t : Int) > 1 := by omega
            have d3 : ¬ far.1 - h.2 = off := fun e => htk.2 e.symm
            simp [r0, r1, d1, d2, d3]
          · simp [r0, r1, d1]
        simp only [seq_ev, cond_ev, htest, Out.of_ok, onS_true, brk_ev, Out.then_bk, sat_bk]
        exact nx_only (fin _ _ hbk) (fun _ _ h => h)
      · rw [htake] at htk
        have htest : (PL.or (app2 fNe (app2 fSub (app2 fIx (v 10) (c (.int 1))) (app2 fIx (v 10) (c (.int 0)))) (v 6)) (PL.and (app2 fGt (v 7) (c (.int 1))) (app2 fNe (app2 fSub (app2 fIx (v 10) (c (.int 0))) (app2 fIx (v 9) (c (.int 1)))) (v 8)))) [some (opt u), some (.ref k), some (opt s), some (.ref m.length), some (.int at'), some (runP r), some (.int (r.2 - r.1)), some (.int t), some (.int off), some (runP h), some (runP far)] m4 = .ok (.bl false) m4 := by
          simp only [Bool.and_eq_true, decide_eq_true_eq, Bool.or_eq_true] at htk
          have d1 : far.2 - far.1 = r.2 - r.1 := htk.1.symm
          by_cases d2 : (t : Int) > 1
          · have d3 : far.1 - h.2 = off := by
              rcases htk.2 with e | e
              · omega
              · exact e.symm
            simp [r0, r1, d1, d2, d3]
          · simp [r0, r1, d1, d2]
        have hgt2 : group (R.take (at' + (t + 1))) = acc ++ [⟨r.1, r.2 - r.1, far.1 - h.2, ((t + 1 : Nat) : Int)⟩] := by
          have e1 : at' + (t + 1) = at' + t + 1 := by omega
          rw [e1, take_one hfar, group_snoc, hgt, add_snoc, htake, if_pos htk, he]
          push_cast
          rfl
        have he2 : (⟨r.1, r.2 - r.1, far.1 - h.2, ((t + 1 : Nat) : Int)⟩ : Bu).end = far.2 := by
          simp only [Bool.and_eq_true, decide_eq_true_eq, Bool.or_eq_true] at htk
          obtain ⟨h1, h2⟩ := htk
          unfold Bu.end at he ⊢
          simp only at he ⊢
          push_cast
          have e1 : ((t : Int) + 1) * (r.2 - r.1) = t * (r.2 - r.1) + (r.2 - r.1) := by rw [Int.add_mul, Int.one_mul]
          have e2 : ((t : Int) + 1 - 1) * (far.1 - h.2) = (t - 1) * (far.1 - h.2) + (far.1 - h.2) := by rw [show (t : Int) + 1 - 1 = (t - 1) + 1 by omega, Int.add_mul, Int.one_mul]
          rw [e1, e2]
          rcases h2 with h2 | h2
          · have : ((t : Int) - 1) = 0 := by omega
            rw [this, Int.zero_mul] at he ⊢
            omega
          · rw [h2] at he
            omega
        simp only [seq_ev, cond_ev, htest, Out.of_ok, onS_false, skip_ev, Out.then_nx]
        simp [r0, r1]
        exact ⟨n' - 1, by omega, t + 1, by omega, by omega, far.1 - h.2, by simpa using hgt2, far.1, far.2, by rw [show at' + (t + 1) - 1 = at' + t by omega]; exact hfar, by simpa using he2, by simp⟩
    · intro hge
      have hge : ¬ at' + t < R.length := of_decide_eq_false hge
      refine nx_only (fin _ _ ?_) (fun _ _ h => h)
      rw [hP]
      refine ⟨t, off, _, _, ht, by omega, hgt, fun r' hr' => ?_, rfl, rfl⟩
      have := (List.getElem?_eq_some_iff.mp hr').1
      omega
  · intro hge
    have hge : ¬ at' < R.length := of_decide_eq_false hge
    have hat : at' = R.length := by omega
    subst hat
    rw [List.take_length] at hg
    rw [hg]
    simp [hc, sigP]
    exact hx
end Law
end
section
set_option autoImplicit false
/-! The law's runs: pairs of a beginning and an end, None where there is none. -/
namespace Law
open PySem PL
abbrev ER := Option Int × Option Int
def ER.pv (r : ER) : PV := .tup [opt r.1, opt r.2]
def er (r : Run) : ER := (some r.1, some r.2)
def headE : Option Int → List ER
  | none => []
  | some u => [(none, some u)]
def tailE : Option Int → List ER
  | none => []
  | some s => [(some s, none)]
def lawT (t : Tri) : List ER := headE t.u ++ t.R.map er ++ tailE t.s
def lawL (t : Tri) : List ER := if isAO t then [(none, none)] else lawT t
/-- filling of such lists -/
def lf (n : Int) (acc : List ER) (r : ER) : List ER := match acc.getLast? with
  | none => acc ++ [r]
  | some l => match r.1, l.2 with
    | some b, some e => if b - e ≤ n then acc.dropLast ++ [(l.1, r.2)] else acc ++ [r]
    | _, _ => acc ++ [r]
theorem lf_snoc (n : Int) (acc : List ER) (l r : ER) : lf n (acc ++ [l]) r = (match r.1, l.2 with
    | some b, some e => if b - e ≤ n then acc ++ [(l.1, r.2)] else acc ++ [l] ++ [r]
    | _, _ => acc ++ [l] ++ [r]) := by
  unfold lf
  simp
def accE (z : Z) : List ER := headE z.1 ++ z.2.map er
theorem accE_snoc (u : Option Int) (l : List Run) (r : Run) : accE (u, l ++ [r]) = accE (u, l) ++ [er r] := by simp [accE]
theorem lf_flR (n : Int) (z : Z) (r : Run) : lf n (accE z) (er r) = accE (flR n z r) := by
  rcases z with ⟨u, l⟩
  rcases List.eq_nil_or_concat l with rfl | ⟨l', x, rfl⟩
  · cases u with
    | none => rfl
    | some e =>
      rw [flR_nil]
      have : accE (some e, []) = [] ++ [(none, some e)] := rfl
      rw [this, lf_snoc]
      simp only [er]
      split <;> rfl
  · rw [List.concat_eq_append, flR_snoc, accE_snoc, lf_snoc]
    simp only [er]
    split
    · rw [accE_snoc]; rfl
    · rw [accE_snoc, accE_snoc]; rfl
theorem lf_fold (n : Int) (rs : List Run) : ∀ z : Z, (rs.map er).foldl (lf n) (accE z) = accE (rs.foldl (flR n) z) := by
  induction rs with
  | nil => intro z; rfl
  | cons r rs ih => intro z; rw [List.map_cons, List.foldl_cons, lf_flR, ih, List.foldl_cons]
theorem lf_fill {M n : Int} (hn : 0 ≤ n) {t : Tri} (h : WF M t) : (lawT t).foldl (lf n) [] = lawL (fill n t) := by
  have e0 : (headE t.u).foldl (lf n) [] = accE (t.u, []) := by cases t.u <;> rfl
  unfold lawT
  rw [List.foldl_append, List.foldl_append, e0, lf_fold]
  have h0 : ZF M (t.u, []) := ⟨by simp, by simp, fun v hv => ⟨(h.z.u v hv).1, (h.z.u v hv).2.1, by simp⟩⟩
  obtain ⟨hz, _⟩ := fl_zf (n := n) t.R (t.u, []) h0 h.z.runs h.z.pw (fun e he r hr => (h.z.u e he).2.2 r hr)
  unfold fill
  simp only
  generalize t.R.foldl (flR n) (t.u, []) = z at *
  cases hs : t.s with
  | none =>
    cases lastEnd z <;> simp [tailE, lawL, isAO, lawT, accE]
  | some w =>
    simp only [tailE, List.foldl_cons, List.foldl_nil]
    rcases z with ⟨u, l⟩
    rcases List.eq_nil_or_concat l with rfl | ⟨l', x, rfl⟩
    · cases u with
      | none => simp [accE, headE, lf, lastEnd, lawL, isAO, lawT, tailE]
      | some e =>
        have e2 : accE (some e, []) = [] ++ [(none, some e)] := rfl
        have e3 : lastEnd (some e, []) = some e := rfl
        rw [e2, lf_snoc, e3]
        simp only
        by_cases c : w - e ≤ n
        · rw [if_pos c, if_pos c]; rfl
        · rw [if_neg c, if_neg c]
          have hne : ¬ (e = 0 ∧ w = 0) := by omega
          have : isAO ⟨some e, [], some w⟩ = false := by
            unfold isAO
            by_cases h1 : e = 0
            · have : ¬ w = 0 := fun h2 => hne ⟨h1, h2⟩
              simp [this]
            · simp [h1]
          simp [lawL, this, lawT, headE, tailE]
    · rw [List.concat_eq_append] at *
      obtain ⟨h1, h2, h3, h4⟩ := zf_snoc.mp hz
      rw [accE_snoc, lf_snoc, lastEnd_snoc]
      simp only [er, List.getLast?_append, List.getLast?_singleton, Option.some_or, List.dropLast_concat]
      by_cases c : w - x.2 ≤ n
      · rw [if_pos c, if_pos c]
        have : isAO ⟨u, l', some x.1⟩ = false := by
          unfold isAO
          by_cases a1 : u = some 0
          · have := h4 0 a1
            have a2 : ¬ x.1 = 0 := by omega
            simp [a2]
          · simp [a1]
        simp [lawL, this, lawT, accE, tailE]
      · rw [if_neg c, if_neg c]
        have : isAO ⟨u, l' ++ [x], some w⟩ = false := by unfold isAO; simp
        simp [lawL, this, lawT, accE, tailE, er]
theorem ER_data (r : ER) : (ER.pv r).data = true := by
  rcases r with ⟨a, b⟩
  cases a <;> cases b <;> simp [ER.pv, opt]
def Small (M : Int) (r : ER) : Prop := (∀ v, r.1 = some v → -M ≤ v ∧ v ≤ M) ∧ ∀ v, r.2 = some v → -M ≤ v ∧ v ≤ M
structure LOk (M : Int) (L : List ER) : Prop where
  sm : ∀ r ∈ L, Small M r
  nx : ∀ i x y, L[i]? = some x → L[i + 1]? = some y → (∃ e, x.2 = some e) ∧ ∃ b, y.1 = some b
theorem ER_sm {M : Int} (hM : Big M) {r : ER} (h : Small M r) : (ER.pv r).pd.sm = true := by
  have hm := hM.2
  have e2 : (10 ^ 100 : Int) < 10 ^ 200 := by decide +kernel
  have s : ∀ z : Int, -M ≤ z → z ≤ M → z.natAbs.log2 < 1920 := fun z a b => log_sml (by show z.natAbs < 10 ^ 200; omega)
  rcases r with ⟨a, b⟩
  cases a with
  | none =>
    cases b with
    | none => simp [ER.pv, opt]
    | some b => have := h.2 b rfl; simp [ER.pv, opt, s b this.1 this.2]
  | some a =>
    have ha := h.1 a rfl
    cases b with
    | none => simp [ER.pv, opt, s a ha.1 ha.2]
    | some b => have := h.2 b rfl; simp [ER.pv, opt, s b this.1 this.2, s a ha.1 ha.2]
theorem ER_dp (r : ER) : (ER.pv r).pd.depth = 1 := by
  rcases r with ⟨a, b⟩
  cases a <;> cases b <;> simp [ER.pv, opt]
theorem ER_wt (r : ER) : (ER.pv r).pd.wt = 3 := by
  rcases r with ⟨a, b⟩
  cases a <;> cases b <;> simp [ER.pv, opt]
theorem ers_ne {M : Int} (hM : Big M) {f : List ER} (hf : ∀ b ∈ f, Small M b) {μ : Mem} {a n : Nat} (ha : μ[a]? = some (.lst (f.map ER.pv))) (hn : μ[n]? = some (.lst [])) : fNe [.ref a, .ref n] μ = .ok (.bl (!f.isEmpty)) μ := by
  rw [fNe_nil ha hn (datas_map _ ER_data f) (sms_map _ _ fun b hb => ER_sm hM (hf b hb)) (dps_map _ _ _ fun b _ => by rw [ER_dp b]; decide)]
  simp
theorem lf_last (n : Int) (acc : List ER) (r : ER) : ∃ l, (lf n acc r).getLast? = some l ∧ l.2 = r.2 := by
  rcases List.eq_nil_or_concat acc with rfl | ⟨acc', l, rfl⟩
  · exact ⟨r, rfl, rfl⟩
  · rw [List.concat_eq_append, lf_snoc]
    split
    · split
      · exact ⟨(l.1, r.2), by simp, rfl⟩
      · exact ⟨r, by simp, rfl⟩
    · exact ⟨r, by simp, rfl⟩
theorem lf_small {M n : Int} {acc : List ER} {r : ER} (h : ∀ x ∈ acc, Small M x) (hr : Small M r) : ∀ x ∈ lf n acc r, Small M x := by
  rcases List.eq_nil_or_concat acc with rfl | ⟨acc', l, rfl⟩
  · intro x hx; simp [lf] at hx; subst hx; exact hr
  · rw [List.concat_eq_append] at *
    have hl := h l (by simp)
    have h' : ∀ x ∈ acc', Small M x := fun x hx => h x (List.mem_append_left _ hx)
    have hn : ∀ x ∈ acc' ++ [l] ++ [r], Small M x := fun x hx => by
      rcases List.mem_append.mp hx with hx | hx
      · exact h x hx
      · simp at hx; subst hx; exact hr
    rw [lf_snoc]
    split
    · split
      · intro x hx
        rcases List.mem_append.mp hx with hx | hx
        · exact h' x hx
        · simp at hx; subst hx; exact ⟨hl.1, hr.2⟩
      · exact hn
    · exact hn
theorem lf_len (n : Int) (acc : List ER) (r : ER) : (lf n acc r).length ≤ acc.length + 1 := by
  unfold lf
  split
  · simp
  · split
    · split
      · simp
      · simp
    · simp
theorem tt_er (r : Tgs) (x : ER) (env : PL.Env) (μ : Mem) : tt 2 r (ER.pv x) env μ = r [opt x.1, opt x.2] env μ := by simp [ER.pv]
theorem ix_er1 (x : ER) (μ : Mem) : fIx [ER.pv x, .int 1] μ = .ok (opt x.2) μ := by simp [ER.pv]
theorem ix_er0 (x : ER) (μ : Mem) : fIx [ER.pv x, .int 0] μ = .ok (opt x.1) μ := by simp [ER.pv]
/-- what a dropping step keeps -/
def keepE (n : Int) (r : ER) : Bool := match r.1, r.2 with
  | some b, some e => decide (n < e - b)
  | _, _ => true
theorem lawT_drop {n : Int} (t : Tri) : (lawT t).filter (keepE n) = lawT (drop n t) := by
  unfold lawT drop
  rw [List.filter_append, List.filter_append]
  have h1 : (headE t.u).filter (keepE n) = headE t.u := by cases t.u <;> rfl
  have h3 : (tailE t.s).filter (keepE n) = tailE t.s := by cases t.s <;> rfl
  have h2 : (t.R.map er).filter (keepE n) = (t.R.filter fun r => decide (r.2 - r.1 > n)).map er := by
    rw [List.filter_map]
    rfl
  rw [h1, h2, h3]
theorem lawT_LOk {M : Int} {t : Tri} (h : WF M t) : LOk M (lawT t) := by
  constructor
  · intro r hr
    unfold lawT at hr
    rcases List.mem_append.mp hr with hr | hr
    · rcases List.mem_append.mp hr with hr | hr
      · cases hu : t.u with
        | none => rw [hu] at hr; simp [headE] at hr
        | some u =>
          rw [hu] at hr
          simp [headE] at hr
          subst hr
          have := h.z.u u hu
          exact ⟨fun v hv => (nomatch hv), fun v hv => by cases hv; exact ⟨this.1, this.2.1⟩⟩
      · obtain ⟨x, hx, rfl⟩ := List.mem_map.mp hr
        have := h.z.runs x hx
        have h1 := this.len
        have h2 := this.lo
        have h3 := this.hi
        exact ⟨fun v hv => by cases hv; omega, fun v hv => by cases hv; omega⟩
    · cases hs : t.s with
      | none => rw [hs] at hr; simp [tailE] at hr
      | some w =>
        rw [hs] at hr
        simp [tailE] at hr
        subst hr
        have := h.s w hs
        exact ⟨fun v hv => by cases hv; exact ⟨this.1, this.2.1⟩, fun v hv => (nomatch hv)⟩
  · intro i x y hx hy
    have hH : (headE t.u).length ≤ 1 := by cases t.u <;> simp [headE]
    have hT : (tailE t.s).length ≤ 1 := by cases t.s <;> simp [tailE]
    unfold lawT at hx hy
    have hlt := (List.getElem?_eq_some_iff.mp hy).1
    rw [List.length_append] at hlt
    constructor
    · rw [List.getElem?_append_left (by omega)] at hx
      have hm := List.mem_of_getElem? hx
      rcases List.mem_append.mp hm with hm | hm
      · cases hu : t.u with
        | none => rw [hu] at hm; simp [headE] at hm
        | some u => rw [hu] at hm; simp [headE] at hm; subst hm; exact ⟨u, rfl⟩
      · obtain ⟨r, _, rfl⟩ := List.mem_map.mp hm
        exact ⟨r.2, rfl⟩
    · rw [List.append_assoc, List.getElem?_append_right (by omega)] at hy
      have hm := List.mem_of_getElem? hy
      rcases List.mem_append.mp hm with hm | hm
      · obtain ⟨r, _, rfl⟩ := List.mem_map.mp hm
        exact ⟨r.1, rfl⟩
      · cases hs : t.s with
        | none => rw [hs] at hm; simp [tailE] at hm
        | some u => rw [hs] at hm; simp [tailE] at hm; subst hm; exact ⟨u, rfl⟩
theorem lawL_len (t : Tri) : (lawL t).length ≤ t.R.length + 2 := by
  unfold lawL
  split
  · simp
  · unfold lawT
    have hH : (headE t.u).length ≤ 1 := by cases t.u <;> simp [headE]
    have hT : (tailE t.s).length ≤ 1 := by cases t.s <;> simp [tailE]
    simp; omega
theorem lawL_LOk {M : Int} (hM : 0 ≤ M) {t : Tri} (h : Fit2 M t) : LOk M (lawL t) := by
  rcases h with h | rfl
  · unfold lawL; rw [wf_notAO h]; exact lawT_LOk h
  · refine ⟨fun r hr => ?_, fun i x y hx hy => ?_⟩
    · simp [lawL, AO_is] at hr; subst hr; exact ⟨fun v hv => (nomatch hv), fun v hv => (nomatch hv)⟩
    · have := (List.getElem?_eq_some_iff.mp hy).1
      simp [lawL, AO_is] at this
theorem lf_lawL {M n : Int} (hn : 0 ≤ n) {t : Tri} (h : Fit2 M t) : (lawL t).foldl (lf n) [] = lawL (fill n t) := by
  rcases h with h | rfl
  · have : lawL t = lawT t := by unfold lawL; rw [wf_notAO h]; rfl
    rw [this]; exact lf_fill hn h
  · rw [fill_AO hn]; rfl
theorem drop_lawL {M n : Int} {t : Tri} (h : Fit2 M t) : (lawL t).filter (keepE n) = lawL (drop n t) := by
  rcases h with h | rfl
  · have e1 : lawL t = lawT t := by unfold lawL; rw [wf_notAO h]; rfl
    have e2 : lawL (drop n t) = lawT (drop n t) := by unfold lawL; rw [wf_notAO (drop_wf h)]; rfl
    rw [e1, e2, lawT_drop]
  · rw [drop_AO]; rfl
end Law
end
section
set_option autoImplicit false
/-! The program's moves of signals, in flips: plain part. -/
namespace Law
open PySem PL
theorem pair_len : ∀ l : List Int, 2 * (pair l).1.length ≤ l.length
  | [] => by simp [pair]
  | [a] => by simp [pair]
  | a :: b :: l => by have := pair_len l; simp [pair]; omega
theorem ofF_len (x : Fl) : 2 * (ofF x).R.length ≤ x.2.length := by
  rcases x with ⟨b, l⟩
  cases b
  · exact pair_len l
  · cases l with
    | nil => simp [ofF, AO]
    | cons v l => have := pair_len l; simp [ofF]; omega
theorem rm_len (n : Int) : ∀ l : List Int, (rm n l).length ≤ l.length
  | [] => Nat.le_refl _
  | [_] => Nat.le_refl _
  | a :: b :: l => by
    have := rm_len n l
    rw [rm]
    split <;> simp <;> omega
theorem fD_len (n : Int) (x : Fl) : (fD n x).2.length ≤ x.2.length := by
  rcases x with ⟨b, l⟩
  cases b
  · exact rm_len n l
  · cases l with
    | nil => exact Nat.le_refl _
    | cons v l => have := rm_len n l; simp [fD, rm']; omega
theorem fF_len (n : Int) (x : Fl) : (fF n x).2.length ≤ x.2.length := by
  have := fD_len n (fT x)
  rw [fD_T] at this
  exact this
theorem sh_len : ∀ (a b : Int) (l : List Int), (sh a b l).length = l.length
  | _, _, [] => rfl
  | a, b, x :: l => by simp [sh, sh_len b a l]
theorem fM_len (a b : Int) (x : Fl) : (fM a b x).2.length = x.2.length := by rcases x with ⟨c, l⟩; cases c <;> simp [fM, sh_len]
theorem fbp_len (x : Fl) (p : Part) : (fbp x p).2.length ≤ x.2.length := by
  cases p with
  | turn => exact Nat.le_refl _
  | delay k => simp [fbp, fM_len]
  | on k => simp only [fbp, fM_len]; exact fD_len _ _
  | off k => simp only [fbp, fM_len]; exact fF_len _ _
theorem fStep_len (x : Fl) (s : Sg) : (fStep x s).2.length ≤ x.2.length := by
  unfold fStep; split
  · exact fD_len _ _
  · exact fF_len _ _
theorem fcl_len (st : List Sg) : ∀ x : Fl, (fcl st x).2.length ≤ x.2.length := by
  induction st with
  | nil => intro x; exact Nat.le_refl _
  | cons s st ih => intro x; exact Nat.le_trans (ih (fStep x s)) (fStep_len x s)
/-! bounds -/
theorem rm_mem (n : Int) : ∀ {l : List Int} {v : Int}, v ∈ rm n l → v ∈ l
  | [], _, h => h
  | [_], _, h => h
  | a :: b :: l, v, h => by
    rw [rm] at h
    split at h
    · have := rm_mem n h; simp [this]
    · simp only [List.mem_cons] at h ⊢
      rcases h with h | h | h
      · exact .inl h
      · exact .inr (.inl h)
      · exact .inr (.inr (rm_mem n h))
theorem rm'_mem (n : Int) {l : List Int} {v : Int} (h : v ∈ rm' n l) : v ∈ l := by
  cases l with
  | nil => exact h
  | cons a l =>
    simp only [rm', List.mem_cons] at h ⊢
    rcases h with h | h
    · exact .inl h
    · exact .inr (rm_mem n h)
theorem fD_mem {n : Int} {x : Fl} {v : Int} (h : v ∈ (fD n x).2) : v ∈ x.2 := by
  rcases x with ⟨b, l⟩
  cases b
  · exact rm_mem n h
  · exact rm'_mem n h
theorem fF_mem {n : Int} {x : Fl} {v : Int} (h : v ∈ (fF n x).2) : v ∈ x.2 := by
  have : v ∈ (fT (fF n x)).2 := h
  rw [← fD_T] at this
  exact fD_mem (x := fT x) this
theorem sh_bd {M K : Int} : ∀ {a b : Int} {l : List Int}, (-K ≤ a ∧ a ≤ K) → (-K ≤ b ∧ b ≤ K) → (∀ v ∈ l, -M ≤ v ∧ v ≤ M) → ∀ v ∈ sh a b l, -(M + K) ≤ v ∧ v ≤ M + K
  | _, _, [], _, _, _, v, h => (nomatch h)
  | a, b, x :: l, ha, hb, h, v, hv => by
    simp only [sh, List.mem_cons] at hv
    rcases hv with rfl | hv
    · have := h x (by simp); omega
    · exact sh_bd hb ha (fun z hz => h z (by simp [hz])) v hv
theorem Wd_mono {p q p' q' : Int} {x : Fl} (h : Wd p q x) (hp : p' ≤ p) (hq : q' ≤ q) : Wd p' q' x := by
  unfold Wd at *
  split at h
  · rw [if_pos ‹_›]; exact alt_mono hq hp h
  · rw [if_neg ‹_›]; exact alt_mono hp hq h
theorem fM_bd {M K a b : Int} {x : Fl} (ha : -K ≤ a ∧ a ≤ K) (hb : -K ≤ b ∧ b ≤ K) (h : ∀ v ∈ x.2, -M ≤ v ∧ v ≤ M) : ∀ v ∈ (fM a b x).2, -(M + K) ≤ v ∧ v ≤ M + K := by
  rcases x with ⟨c, l⟩
  cases c
  · exact sh_bd ha hb h
  · exact sh_bd hb ha h
theorem FOk.mono {M N : Int} {x : Fl} (h : FOk M x) (l : M ≤ N) : FOk N x := ⟨h.wd, fun v hv => by have := h.bd v hv; omega⟩
theorem fD_ok {M n : Int} {x : Fl} (h : FOk M x) (hn : 0 ≤ n) : FOk M (fD n x) := ⟨Wd_mono (Wd_D (Int.le_refl 0) (Int.le_refl 0) hn h.wd) hn (Int.le_refl 0), fun v hv => h.bd v (fD_mem hv)⟩
theorem fF_ok {M n : Int} {x : Fl} (h : FOk M x) (hn : 0 ≤ n) : FOk M (fF n x) := ⟨Wd_mono (Wd_F (Int.le_refl 0) (Int.le_refl 0) hn h.wd) (Int.le_refl 0) hn, fun v hv => h.bd v (fF_mem hv)⟩
theorem fStep_ok {M : Int} {x : Fl} {s : Sg} (h : FOk M x) (hn : 0 ≤ s.2) : FOk M (fStep x s) := by
  unfold fStep; split
  · exact fD_ok h hn
  · exact fF_ok h hn
theorem fcl_ok {M : Int} (st : List Sg) : ∀ {x : Fl}, FOk M x → (∀ s ∈ st, 0 ≤ s.2) → FOk M (fcl st x) := by
  induction st with
  | nil => intro x h _; exact h
  | cons s st ih => intro x h hs; exact ih (fStep_ok h (hs s (by simp))) fun z hz => hs z (by simp [hz])
theorem fM_same {M K k : Int} {x : Fl} (h : FOk M x) (hk : -K ≤ k ∧ k ≤ K) : FOk (M + K) (fM k k x) := ⟨by have := Wd_M k k h.wd; exact Wd_mono this (by omega) (by omega), fM_bd hk hk h.bd⟩
theorem fT_ok {M : Int} {x : Fl} (h : FOk M x) : FOk M (fT x) := ⟨Wd_T.mpr h.wd, h.bd⟩
theorem on1_ok {M n : Int} {x : Fl} (h : FOk M x) (hn : 0 ≤ n) : FOk (M + n) (fM 0 (-n) (fD n x)) := ⟨by have := Wd_M 0 (-n) (Wd_D (Int.le_refl 0) (Int.le_refl 0) hn h.wd); exact Wd_mono this (by omega) (by omega), fM_bd (by omega) (by omega) (fD_ok h hn).bd⟩
theorem off1_ok {M n : Int} {x : Fl} (h : FOk M x) (hn : 0 ≤ n) : FOk (M + n) (fM 0 n (fF n x)) := ⟨by have := Wd_M 0 n (Wd_F (Int.le_refl 0) (Int.le_refl 0) hn h.wd); exact Wd_mono this (by omega) (by omega), fM_bd (by omega) (by omega) (fF_ok h hn).bd⟩
theorem fbp_ok {M B : Int} {x : Fl} {p : Part} (h : FOk M x) (hp : p.ok B) : FOk (M + B) (fbp x p) := by
  have h1 := hp.1
  have h2 := hp.2
  cases p with
  | turn => exact (fT_ok h).mono (by simp only [num_turn] at h2; omega)
  | delay k => simp only [num_delay] at h1 h2; exact (fM_same (K := k) h (by omega)).mono (by omega)
  | on k =>
    simp only [num_on] at h1 h2
    have := Wd_M k 0 (Wd_D (Int.le_refl 0) (Int.le_refl 0) h1 h.wd)
    exact ⟨Wd_mono this (by omega) (by omega), fun v hv => by have := fM_bd (K := k) (by omega) (by omega) (fD_ok h h1).bd v hv; omega⟩
  | off k => simp only [num_off] at h1 h2; exact (off1_ok h h1).mono (by omega)
theorem fans_ok {B : Int} (hB : 0 ≤ B) (row : List Part) : ∀ {M : Int} {x : Fl}, FOk M x → (∀ p ∈ row, p.ok B) → FOk (M + row.length * B) (fans row x) := by
  induction row with
  | nil => intro M x h _; simpa [fans] using h
  | cons p row ih =>
    intro M x h hr
    have h2 := ih (fbp_ok h (hr p (by simp))) fun q hq => hr q (by simp [hq])
    have e : (M + B) + (row.length : Int) * B = M + ((p :: row).length : Int) * B := by simp only [List.length_cons]; push_cast; grind
    rw [e] at h2
    exact h2
theorem fans_len (row : List Part) : ∀ x : Fl, (fans row x).2.length ≤ x.2.length := by
  induction row with
  | nil => intro x; exact Nat.le_refl _
  | cons p row ih => intro x; exact Nat.le_trans (ih (fbp x p)) (fbp_len x p)
/-! bursts that are moved -/
def mvB (a b : Int) (u : Bu) : Bu := mkb (u.tick + a) (u.on + b - a) (u.off + a - b) u.times
def mvR (a b : Int) (r : Run) : Run := (r.1 + a, r.2 + b)
theorem mvB_end (a b : Int) {u : Bu} (h : u.ok) : (mvB a b u).end = u.end + b := by
  have h1 := h.times
  unfold mvB mkb Bu.end
  simp only
  by_cases c : u.times > 1
  · rw [if_pos c]; grind
  · have e : u.times = 1 := by omega
    rw [if_neg c, e]; omega
theorem mvB_takes (a b : Int) {u : Bu} (h : u.ok) (t n : Int) : takes (mvB a b u) (t + a) (n + b - a) = takes u t n := by
  have h1 := h.times
  unfold takes
  rw [mvB_end a b h]
  have e1 : (mvB a b u).on = u.on + b - a := rfl
  have e2 : (mvB a b u).times = u.times := rfl
  have e3 : (mvB a b u).off = if u.times > 1 then u.off + a - b else 0 := rfl
  rw [e1, e2, e3]
  have d1 : decide (u.on + b - a = n + b - a) = decide (u.on = n) := by congr 1; simp only [eq_iff_iff]; omega
  rw [d1]
  by_cases c : u.times > 1
  · rw [if_pos c]
    have d2 : decide (u.off + a - b = t + a - (u.end + b)) = decide (u.off = t - u.end) := by congr 1; simp only [eq_iff_iff]; omega
    rw [d2]
  · have e : u.times = 1 := by omega
    simp [e]
theorem add_mv (a b : Int) (f : List Bu) (hf : OkB f) (r : Run) : add (f.map (mvB a b)) (mvR a b r) = (add f r).map (mvB a b) := by
  rcases List.eq_nil_or_concat f with rfl | ⟨f', u, rfl⟩
  · show [one (mvR a b r)] = [mvB a b (one r)]
    simp only [one, mvR, mvB, mkb]
    congr 2
    omega
  · rw [List.concat_eq_append] at *
    have hu := hf u (by simp)
    rw [List.map_append, List.map_cons, List.map_nil, add_snoc, add_snoc]
    have e : (mvR a b r).2 - (mvR a b r).1 = (r.2 - r.1) + b - a := by simp only [mvR]; omega
    have e2 : (mvR a b r).1 = r.1 + a := rfl
    rw [e, e2, mvB_takes a b hu]
    have h1 := hu.times
    by_cases c : takes u r.1 (r.2 - r.1) = true
    · rw [if_pos c, if_pos c, mvB_end a b hu]
      simp only [List.map_append, List.map_cons, List.map_nil]
      congr 2
      simp only [mvB, mkb]
      rw [if_pos (by omega : u.times + 1 > 1)]
      congr 1
      omega
    · rw [if_neg c, if_neg c]
      simp only [List.map_append, List.map_cons, List.map_nil]
      congr 2
      simp only [one, mvR, mvB, mkb]
      congr 1
      all_goals omega
theorem adds_mv (a b : Int) (rs : List Run) : ∀ f : List Bu, OkB f → adds (f.map (mvB a b)) (rs.map (mvR a b)) = (adds f rs).map (mvB a b) := by
  induction rs with
  | nil => intro f _; rfl
  | cons r rs ih =>
    intro f hf
    rw [List.map_cons, adds_cons, adds_cons, add_mv a b f hf, ih _ (add_runs f r hf).2]
theorem group_mv (a b : Int) (rs : List Run) : group (rs.map (mvR a b)) = (group rs).map (mvB a b) := adds_mv a b rs [] (fun _ h => (nomatch h))
theorem pair_sh : ∀ (a b : Int) (l : List Int), pair (sh a b l) = ((pair l).1.map (mvR a b), (pair l).2.map (· + a))
  | _, _, [] => rfl
  | _, _, [_] => rfl
  | a, b, x :: y :: l => by simp only [sh, pair, pair_sh a b l, List.map_cons, mvR]
/-- what is moved, as triples -/
def mvT (a b : Int) (t : Tri) : Tri := ⟨t.u.map (· + b), t.R.map (mvR a b), t.s.map (· + a)⟩
theorem ofF_M (a b : Int) {x : Fl} (h : x ≠ (true, [])) : ofF (fM a b x) = mvT a b (ofF x) := by
  rcases x with ⟨c, l⟩
  cases c
  · simp [fM, ofF, mvT, pair_sh]
  · cases l with
    | nil => exact absurd rfl h
    | cons v l => simp [fM, ofF, mvT, sh, pair_sh]
theorem notAO {M : Int} {x : Fl} (h : FOk M x) (hx : x ≠ (true, [])) : isAO (ofF x) = false := by
  rcases x with ⟨c, l⟩
  cases c
  · rfl
  · cases l with
    | nil => exact absurd rfl hx
    | cons v l =>
      rcases fok_fit h with h0 | h0
      · exact wf_notAO h0
      · simp only [ofF, AO] at h0
        obtain ⟨h1, h2, h3⟩ := Tri.mk.inj h0
        cases h1
        have : l = [0] := by
          have := flat_pair l
          rw [h2, h3] at this
          exact this.symm
        subst this
        have hw : alt 0 0 [0, 0] := h.wd
        have := hw.1
        omega
end Law
end
section
set_option autoImplicit false
/-! What the law's runs become, in plain Lean: by flips. -/
namespace Law
open PySem PL
def eL : List Int → List ER
  | [] => []
  | [a] => [(some a, none)]
  | a :: b :: l => (some a, some b) :: eL l
def eT : List Int → List ER
  | [] => [(none, none)]
  | v :: l => (none, some v) :: eL l
def eF (x : Fl) : List ER := if x.1 then eT x.2 else eL x.2
theorem eL_pair : ∀ l : List Int, eL l = (pair l).1.map er ++ tailE (pair l).2
  | [] => rfl
  | [a] => rfl
  | a :: b :: l => by simp [eL, pair, eL_pair l, er]
theorem lawL_eF {M : Int} {x : Fl} (h : FOk M x) : lawL (ofF x) = eF x := by
  by_cases hx : x = (true, [])
  · subst hx; rfl
  · unfold lawL
    rw [notAO h hx]
    rcases x with ⟨c, l⟩
    cases c
    · simp [lawT, ofF, eF, eL_pair, headE]
    · cases l with
      | nil => exact absurd rfl hx
      | cons v l => simp [lawT, ofF, eF, eT, eL_pair, headE]
/-! turned -/
def tstep (z : List ER × Option Int × Bool) (r : ER) : List ER × Option Int × Bool := (if r.1.isSome then z.1 ++ [(z.2.1, r.1)] else z.1, r.2, r.2.isSome)
def tfin (z : List ER × Option Int × Bool) : List ER := if z.2.2 then z.1 ++ [(z.2.1, none)] else z.1
def gG (o : Option Int) : List Int → List ER
  | [] => [(o, none)]
  | a :: l => (o, some a) :: eL l
theorem gG_some (v : Int) : ∀ l : List Int, gG (some v) l = eL (v :: l)
  | [] => rfl
  | a :: l => rfl
theorem t_fold : ∀ (l : List Int) (acc : List ER) (o : Option Int), tfin ((eL l).foldl tstep (acc, o, true)) = acc ++ gG o l
  | [], acc, o => rfl
  | [a], acc, o => by simp [eL, tstep, tfin, gG]
  | a :: b :: l, acc, o => by
    have ih := t_fold l (acc ++ [(o, some a)]) (some b)
    simp only [eL, List.foldl_cons]
    have e : tstep (acc, o, true) (some a, some b) = (acc ++ [(o, some a)], some b, true) := rfl
    rw [e, ih, gG_some]
    simp [gG]
theorem turned_eF (x : Fl) : tfin ((eF x).foldl tstep ([], none, true)) = eF (fT x) := by
  rcases x with ⟨c, l⟩
  cases c
  · have := t_fold l [] none
    simp only [eF, fT, Bool.false_eq_true, if_false, Bool.not_false, if_true]
    rw [this]
    cases l <;> rfl
  · cases l with
    | nil => rfl
    | cons v l =>
      have := t_fold l [] (some v)
      simp only [eF, fT, if_true, Bool.not_true, Bool.false_eq_true, if_false, eT, List.foldl_cons]
      have e : tstep ([], none, true) (none, some v) = ([], some v, true) := rfl
      rw [e, this, gG_some]; rfl
/-! moved -/
def mvE (a b : Int) (r : ER) : ER := (r.1.map (· + a), r.2.map (· + b))
def ltE (r : ER) : Bool := match r.1, r.2 with
  | some b, some e => decide (b < e)
  | _, _ => true
def joins (acc : List ER) (r : ER) : Bool := match acc.getLast?, r.1 with
  | some l, some b => (match l.2 with | some e => decide (b ≤ e) | none => false)
  | _, _ => false
def dput (acc : List ER) (r : ER) : List ER := if joins acc r then (match acc.getLast? with | some l => acc.dropLast ++ [(l.1, r.2)] | none => acc) else acc ++ [r]
def dstep (a b : Int) (acc : List ER) (r : ER) : List ER := if ltE (mvE a b r) then dput acc (mvE a b r) else acc
theorem dput_far {acc : List ER} {r : ER} (h : ∀ l b e, acc.getLast? = some l → r.1 = some b → l.2 = some e → e < b) : dput acc r = acc ++ [r] := by
  unfold dput
  rw [if_neg]
  unfold joins
  cases hl : acc.getLast? with
  | none => simp
  | some l =>
    cases hb : r.1 with
    | none => simp
    | some b =>
      cases he : l.2 with
      | none => simp [he]
      | some e =>
        have := h l b e hl hb he
        simp [he]; omega
/-- on-delays: b behind a -/
theorem on_fold (k : Int) (hk : 0 ≤ k) : ∀ (l : List Int) (acc : List ER), alt 0 0 l → (∀ z e, acc.getLast? = some z → z.2 = some e → ∀ a r, l = a :: r → e < a) → (eL l).foldl (dstep k 0) acc = acc ++ eL (sh k 0 (rm k l))
  | [], acc, _, _ => by simp [eL, rm, sh]
  | [a], acc, _, h => by
    simp only [eL, List.foldl_cons, List.foldl_nil, rm, sh]
    unfold dstep
    rw [if_pos (show ltE (mvE _ _ (some a, none)) = true from rfl), dput_far]
    · rfl
    · intro z b e hz hb he
      simp [mvE] at hb
      have := h z e hz he a [] rfl
      omega
  | a :: b :: l, acc, hl, h => by
    simp only [eL, List.foldl_cons]
    have h1 := hl.1
    have hl2 := alt_tail (alt_tail hl)
    have hb2 : ∀ c r, l = c :: r → b < c := by
      intro c r hc
      subst hc
      have := hl.2.1
      omega
    rw [rm]
    by_cases c : b - a ≤ k
    · rw [if_pos c]
      have e : dstep k 0 acc (some a, some b) = acc := by
        unfold dstep
        rw [if_neg]
        simp [mvE, ltE]; omega
      rw [e]
      refine on_fold k hk l acc hl2 ?_
      intro z e hz he c r hc
      have := h z e hz he a (b :: l) rfl
      have := hb2 c r hc
      omega
    · rw [if_neg c]
      have e : dstep k 0 acc (some a, some b) = acc ++ [(some (a + k), some b)] := by
        unfold dstep
        rw [if_pos (by simp [mvE, ltE]; omega), dput_far]
        · simp [mvE]
        · intro z x e hz hx he
          simp [mvE] at hx
          have := h z e hz he a (b :: l) rfl
          omega
      rw [e, on_fold k hk l _ hl2]
      · simp [sh, eL]
      · intro z e hz he c r hc
        simp at hz
        subst hz
        cases he
        exact hb2 c r hc
/-- delays -/
theorem de_fold (k : Int) : ∀ (l : List Int) (acc : List ER), alt 0 0 l → (∀ z e, acc.getLast? = some z → z.2 = some e → ∀ a r, l = a :: r → e < a + k) → (eL l).foldl (dstep k k) acc = acc ++ eL (sh k k l)
  | [], acc, _, _ => by simp [eL, sh]
  | [a], acc, _, h => by
    simp only [eL, List.foldl_cons, List.foldl_nil, sh]
    unfold dstep
    rw [if_pos (show ltE (mvE _ _ (some a, none)) = true from rfl), dput_far]
    · rfl
    · intro z b e hz hb he
      simp [mvE] at hb
      have := h z e hz he a [] rfl
      omega
  | a :: b :: l, acc, hl, h => by
    simp only [eL, List.foldl_cons]
    have h1 := hl.1
    have hl2 := alt_tail (alt_tail hl)
    have e : dstep k k acc (some a, some b) = acc ++ [(some (a + k), some (b + k))] := by
      unfold dstep
      rw [if_pos (by simp [mvE, ltE]; omega), dput_far]
      · simp [mvE]
      · intro z x e hz hx he
        simp [mvE] at hx
        have := h z e hz he a (b :: l) rfl
        omega
    rw [e, de_fold k l _ hl2]
    · simp [sh, eL]
    · intro z e hz he c r hc
      simp at hz
      subst hz
      cases he
      subst hc
      have := hl.2.1
      omega
/-- off-delays -/
def hH (k : Int) (o : Option Int) (m : List Int) : List ER := match o with
  | none => eT (sh k 0 m)
  | some q => eL (sh 0 k (q :: m))
theorem hH_cons2 (k : Int) (o : Option Int) (p a : Int) (m : List Int) : hH k o (p :: a :: m) = (o, some (p + k)) :: eL (sh 0 k (a :: m)) := by
  cases o with
  | none => simp [hH, sh, eT]
  | some q => simp [hH, sh, eL]
theorem hH_nil (k : Int) (o : Option Int) : hH k o [] = [(o, none)] := by
  cases o with
  | none => rfl
  | some q => simp [hH, sh, eL]
theorem hH_one (k : Int) (o : Option Int) (p : Int) : hH k o [p] = [(o, some (p + k))] := by
  cases o with
  | none => rfl
  | some q => simp [hH, sh, eL]
theorem off_fold (k : Int) (hk : 0 ≤ k) : ∀ (l : List Int) (acc : List ER) (o : Option Int) (p : Int), alt 0 0 (p :: l) → (eL l).foldl (dstep 0 k) (acc ++ [(o, some (p + k))]) = acc ++ hH k o (rm k (p :: l))
  | [], acc, o, p, _ => by simp [eL, rm, hH_one]
  | [a], acc, o, p, hl => by
    have h1 := hl.1
    simp only [eL, List.foldl_cons, List.foldl_nil]
    rw [rm]
    unfold dstep
    rw [if_pos (show ltE (mvE _ _ (some a, none)) = true from rfl)]
    unfold dput joins
    by_cases c : a - p ≤ k
    · rw [if_pos c]
      simp [mvE, rm, hH_nil]
      omega
    · rw [if_neg c]
      simp only [rm]
      rw [hH_cons2]
      simp [mvE, sh, eL]
      omega
  | a :: b :: l, acc, o, p, hl => by
    have h1 := hl.1
    have h2 := hl.2.1
    have hl3 := alt_tail (alt_tail hl)
    simp only [eL, List.foldl_cons]
    rw [rm]
    have hlt : ltE (mvE 0 k (some a, some b)) = true := by simp [mvE, ltE]; omega
    by_cases c : a - p ≤ k
    · rw [if_pos c]
      have e : dstep 0 k (acc ++ [(o, some (p + k))]) (some a, some b) = acc ++ [(o, some (b + k))] := by
        unfold dstep
        rw [if_pos hlt]
        unfold dput joins
        simp [mvE]
        omega
      rw [e, off_fold k hk l acc o b hl3]
    · rw [if_neg c]
      have e : dstep 0 k (acc ++ [(o, some (p + k))]) (some a, some b) = (acc ++ [(o, some (p + k))]) ++ [(some a, some (b + k))] := by
        unfold dstep
        rw [if_pos hlt, dput_far]
        · simp [mvE]
        · intro z x e hz hx he
          simp at hz
          subst hz
          simp [mvE] at hx he
          omega
      rw [e, off_fold k hk l _ (some a) b hl3, hH_cons2]
      simp [hH]
def pa (p : Part) : Int × Int := match p with
  | .on k => (k, 0)
  | .off k => (0, k)
  | .delay k => (k, k)
  | .turn => (0, 0)
theorem done_eF {x : Fl} (h : Wd 0 0 x) {p : Part} (hp : 0 ≤ p.num) (ht : p ≠ .turn) : (eF x).foldl (dstep (pa p).1 (pa p).2) [] = eF (fbp x p) := by
  rcases x with ⟨c, l⟩
  cases c
  · have h' : alt 0 0 l := h
    cases p with
    | turn => exact absurd rfl ht
    | on k =>
      have := on_fold k hp l [] h' (fun z e hz => (nomatch hz))
      simpa [eF, pa, fbp, fM, fD] using this
    | delay k =>
      have := de_fold k l [] h' (fun z e hz => (nomatch hz))
      simpa [eF, pa, fbp, fM] using this
    | off k =>
      simp only [num_off] at hp
      simp only [eF, pa, fbp, fM, fF, Bool.false_eq_true, if_false]
      match l, h' with
      | [], _ => rfl
      | [a], _ => simp [eL, rm', rm, sh, dstep, dput, joins, mvE, ltE]
      | a :: b :: l, h' =>
        have h2 := off_fold k hp l [] (some a) b (alt_tail h')
        have h1 := h'.1
        have e : dstep 0 k [] (some a, some b) = [(some a, some (b + k))] := by
          unfold dstep
          rw [if_pos (by simp [mvE, ltE]; omega)]
          simp [dput, joins, mvE]
        simp only [eL, List.foldl_cons, rm']
        rw [e]
        simpa [hH] using h2
  · cases l with
    | nil =>
      have : ∀ a b : Int, [((none, none) : ER)].foldl (dstep a b) [] = [(none, none)] := fun a b => by simp [dstep, dput, joins, mvE, ltE]
      cases p with
      | turn => exact absurd rfl ht
      | on k => exact this _ _
      | delay k => exact this _ _
      | off k => exact this _ _
    | cons v l =>
      have h' : alt 0 0 (v :: l) := h
      have hv : ∀ a r, l = a :: r → v < a := by
        intro a r hr; subst hr; have := h'.1; omega
      have e : ∀ a b : Int, dstep a b [] (none, some v) = [(none, some (v + b))] := fun a b => by simp [dstep, dput, joins, mvE, ltE]
      simp only [eF, if_true, eT, List.foldl_cons, e]
      cases p with
      | turn => exact absurd rfl ht
      | on k =>
        have := on_fold k hp l [(none, some v)] (alt_tail h') (fun z e hz he a r hr => by simp at hz; subst hz; cases he; exact hv a r hr)
        simpa [eT, pa, fbp, fM, fD, rm', sh] using this
      | delay k =>
        have := de_fold k l [(none, some (v + k))] (alt_tail h') (fun z e hz he a r hr => by simp at hz; subst hz; cases he; have := hv a r hr; omega)
        simpa [eT, pa, fbp, fM, sh] using this
      | off k =>
        have := off_fold k hp l [] none v h'
        exact this
end Law
end
section
set_option autoImplicit false
/-! The law's runs, done part by part: as pairs. -/
namespace Law
open PySem PL
/-! turned, by neighbours -/
def mid : ER → List ER → List ER
  | r, [] => if r.2.isSome then [(r.2, none)] else []
  | r, s :: l => (r.2, s.1) :: mid s l
def frontE (r : ER) : List ER := if r.1.isSome then [(none, r.1)] else []
def tz : List ER → List ER
  | [] => [(none, none)]
  | r :: l => frontE r ++ mid r l
theorem mid_eL (o : Option Int) : ∀ (b : Int) (l : List Int), mid (o, some b) (eL l) = eL (b :: l)
  | b, [] => rfl
  | b, [a] => by simp [eL, mid]
  | b, a :: c :: l => by
    have := mid_eL (some a) c l
    simp only [eL, mid] at this ⊢
    rw [this]
theorem tz_eF (x : Fl) : tz (eF x) = eF (fT x) := by
  rcases x with ⟨c, l⟩
  cases c
  · match l with
    | [] => rfl
    | [a] => rfl
    | a :: b :: l =>
      have := mid_eL (some a) b l
      simp only [eF, fT, Bool.false_eq_true, if_false, Bool.not_false, if_true, eL, tz, this]
      simp [frontE, eT]
  · match l with
    | [] => rfl
    | v :: l =>
      have := mid_eL none v l
      simp only [eF, fT, if_true, Bool.not_true, Bool.false_eq_true, if_false, eT, tz, this]
      simp [frontE]
/-! a part, joined first -/
def pput (acc : List ER) (r : ER) : List ER := if joins acc r then (match acc.getLast? with | some l => acc.dropLast ++ [(l.1, r.2)] | none => acc) else if ltE r then acc ++ [r] else acc
def pstep (a b : Int) (acc : List ER) (r : ER) : List ER := pput acc (mvE a b r)
theorem pstep_lt {a b : Int} {acc : List ER} {r : ER} (h : ltE (mvE a b r) = true) : pstep a b acc r = dstep a b acc r := by
  unfold pstep dstep pput dput
  rw [if_pos h, if_pos h] <;> rfl
theorem pstep_nj {a b : Int} {acc : List ER} {r : ER} (h : joins acc (mvE a b r) = false) : pstep a b acc r = dstep a b acc r := by
  unfold pstep dstep pput dput
  rw [h]; simp
/-- in order -/
def ordE : Option Int → List ER → Prop
  | _, [] => True
  | o, r :: l => (∀ e b, o = some e → r.1 = some b → e < b) ∧ (∀ b e, r.1 = some b → r.2 = some e → b < e) ∧ ordE r.2 l ∧ (r.2 = none → l = [])
theorem ord_eL : ∀ (o : Option Int) (l : List Int), alt 0 0 l → (∀ e a r, o = some e → l = a :: r → e < a) → ordE o (eL l)
  | o, [], _, _ => trivial
  | o, [a], _, h => ⟨fun e b he hb => by cases hb; exact h e a [] he rfl, fun b e _ he => (nomatch he), trivial, fun _ => rfl⟩
  | o, a :: b :: l, hl, h => by
    have h1 := hl.1
    refine ⟨fun e c he hc => by cases hc; exact h e a _ he rfl, fun c e hc he => by cases hc; cases he; omega, ?_, fun hn => (nomatch hn)⟩
    refine ord_eL (some b) l (alt_tail (alt_tail hl)) ?_
    intro e c r he hc
    cases he
    subst hc
    have := hl.2.1
    omega
theorem ord_eF {x : Fl} (h : Wd 0 0 x) : ordE none (eF x) := by
  rcases x with ⟨c, l⟩
  cases c
  · exact ord_eL none l h (fun e a r he => (nomatch he))
  · match l, h with
    | [], _ => exact ⟨fun e b he => (nomatch he), fun b e hb => (nomatch hb), trivial, fun _ => rfl⟩
    | v :: l, h =>
      have h' : alt 0 0 (v :: l) := h
      refine ⟨fun e b he => (nomatch he), fun b e hb => (nomatch hb), ?_, fun hn => (nomatch hn)⟩
      refine ord_eL (some v) l (alt_tail h') ?_
      intro e a r he hr
      cases he
      subst hr
      have := h'.1
      omega
theorem dput_last (acc : List ER) (r : ER) (hr : acc.getLast?.isSome ∨ True) : ∃ l, (dput acc r).getLast? = some l ∧ l.2 = r.2 := by
  unfold dput
  split
  · rename_i hj
    unfold joins at hj
    cases hl : acc.getLast? with
    | none => rw [hl] at hj; simp at hj
    | some l => exact ⟨(l.1, r.2), by simp, rfl⟩
  · exact ⟨r, by simp, rfl⟩
theorem joins_no {acc : List ER} {r : ER} (h : ∀ l b e, acc.getLast? = some l → r.1 = some b → l.2 = some e → e < b) : joins acc r = false := by
  unfold joins
  cases hl : acc.getLast? with
  | none => rfl
  | some l =>
    cases hb : r.1 with
    | none => rfl
    | some b =>
      cases he : l.2 with
      | none => simp [he]
      | some e =>
        have := h l b e hl hb he
        simp [he]; omega
theorem pfold (a b : Int) (hb : 0 ≤ b) (h : a = 0 ∨ b ≤ a) : ∀ (L acc : List ER) (o : Option Int), ordE o L → (∀ z e, acc.getLast? = some z → z.2 = some e → ∃ e', o = some e' ∧ e ≤ e' + b) → L.foldl (pstep a b) acc = L.foldl (dstep a b) acc
  | [], _, _, _, _ => rfl
  | r :: L, acc, o, hL, hz => by
    obtain ⟨h1, h2, h3, h4⟩ := hL
    have e : pstep a b acc r = dstep a b acc r := by
      by_cases hlt : ltE (mvE a b r) = true
      · exact pstep_lt hlt
      · refine pstep_nj (joins_no ?_)
        intro l q e hl hq he
        obtain ⟨e', ho, hle⟩ := hz l e hl he
        rcases r with ⟨x, y⟩
        cases x with
        | none => simp [mvE] at hq
        | some x =>
          cases y with
          | none => exact absurd rfl hlt
          | some y =>
            simp [mvE] at hq
            simp [mvE, ltE] at hlt
            have k1 := h1 e' x ho rfl
            have k2 := h2 x y rfl rfl
            omega
    rw [List.foldl_cons, List.foldl_cons, e]
    refine pfold a b hb h L _ r.2 h3 ?_
    intro z e hz1 hz2
    unfold dstep at hz1
    split at hz1
    · obtain ⟨l, hl, hl2⟩ := dput_last acc (mvE a b r) (.inr trivial)
      rw [hl] at hz1
      cases hz1
      rw [hl2] at hz2
      cases hr : r.2 with
      | none => simp [mvE, hr] at hz2
      | some y => simp [mvE, hr] at hz2; exact ⟨y, rfl, by omega⟩
    · rename_i hlt
      obtain ⟨e', ho, hle⟩ := hz z e hz1 hz2
      rcases r with ⟨x, y⟩
      cases x with
      | none => exact absurd rfl hlt
      | some x =>
        cases y with
        | none => exact absurd rfl hlt
        | some y =>
          have k1 := h1 e' x ho rfl
          have k2 := h2 x y rfl rfl
          exact ⟨y, rfl, by omega⟩
theorem part_eF {x : Fl} (h : Wd 0 0 x) {p : Part} (hp : 0 ≤ p.num) (ht : p ≠ .turn) : (eF x).foldl (pstep (pa p).1 (pa p).2) [] = eF (fbp x p) := by
  rw [← done_eF h hp ht]
  refine pfold _ _ ?_ ?_ _ _ none (ord_eF h) (fun z e hz => (nomatch hz))
  · cases p <;> simp_all [pa, Part.num]
  · cases p <;> simp_all [pa, Part.num]
theorem pput_small {M : Int} {acc : List ER} {r : ER} (h : ∀ x ∈ acc, Small M x) (hr : Small M r) : ∀ x ∈ pput acc r, Small M x := by
  have hn : ∀ x ∈ acc ++ [r], Small M x := fun x hx => by
    rcases List.mem_append.mp hx with hx | hx
    · exact h x hx
    · simp at hx; subst hx; exact hr
  unfold pput
  split
  · rcases List.eq_nil_or_concat acc with rfl | ⟨acc', l, rfl⟩
    · exact h
    · rw [List.concat_eq_append] at *
      simp only [List.getLast?_append, List.getLast?_singleton, Option.some_or, List.dropLast_concat]
      intro x hx
      rcases List.mem_append.mp hx with hx | hx
      · exact h x (List.mem_append_left _ hx)
      · simp at hx; subst hx; exact ⟨(h l (by simp)).1, hr.2⟩
  · split
    · exact hn
    · exact h
theorem pput_len (acc : List ER) (r : ER) : (pput acc r).length ≤ acc.length + 1 := by
  unfold pput
  split
  · rcases List.eq_nil_or_concat acc with rfl | ⟨acc', l, rfl⟩
    · simp
    · simp
  · split <;> simp
end Law
end
section
set_option autoImplicit false
/-! Flips put behind one another by twos. -/
namespace Law
open PySem PL
theorem eL_two : ∀ (F : List Int) (a b : Int), F.length % 2 = 0 → eL (F ++ [a, b]) = eL F ++ [(some a, some b)]
  | [], a, b, _ => rfl
  | [x], a, b, h => by simp at h
  | x :: y :: F, a, b, h => by
    have := eL_two F a b (by simp at h; omega)
    simp [eL, this]
theorem alt_two {p q : Int} : ∀ (F : List Int) (a b : Int), F.length % 2 = 0 → alt p q F → (∀ z, F.getLast? = some z → q < a - z) → p < b - a → alt p q (F ++ [a, b])
  | [], a, b, _, _, _, h => ⟨h, trivial⟩
  | [x], a, b, h, _, _, _ => by simp at h
  | x :: y :: F, a, b, h, hF, hz, hb => by
    have h2 := alt_two F a b (by simp at h; omega) (alt_tail (alt_tail hF)) (fun z hz' => by
      refine hz z ?_
      cases F with
      | nil => cases hz'
      | cons u F => simpa using hz') hb
    refine ⟨hF.1, ?_⟩
    cases F with
    | nil =>
      have := hz y (by simp)
      exact ⟨this, h2⟩
    | cons u F => exact ⟨hF.2.1, h2⟩
theorem eL_len : ∀ F : List Int, (eL F).length ≤ F.length
  | [] => Nat.le_refl _
  | [_] => Nat.le_refl _
  | x :: y :: F => by have := eL_len F; simp [eL]; omega
theorem alt_drop1 {p q : Int} : ∀ F : List Int, alt p q F → alt p q F.dropLast
  | [], _ => trivial
  | [_], _ => trivial
  | [_, _], _ => trivial
  | x :: y :: z :: F, h => ⟨h.1, alt_drop1 (y :: z :: F) h.2⟩
/-- the first on without a beginning -/
theorem eL_head (a b : Int) (F : List Int) : (none, some b) :: eL F = eF (true, b :: F) := rfl
/-- the last on without an end -/
theorem eL_last : ∀ (F : List Int) (a b : Int), F.length % 2 = 0 → eL (F ++ [a]) = eL F ++ [(some a, none)]
  | [], a, b, _ => rfl
  | [x], a, b, h => by simp at h
  | x :: y :: F, a, b, h => by
    have := eL_last F a b (by simp at h; omega)
    simp [eL, this]
theorem eF_last (c : Bool) (G : List Int) (z : Int) (h : G.length % 2 = if c then 0 else 1) : ∃ (L' : List ER) (o : Option Int), eF (c, G ++ [z]) = L' ++ [(o, some z)] ∧ eF (c, G) = L' ++ [(o, none)] := by
  have odd : ∀ G : List Int, G.length % 2 = 1 → ∃ (L' : List ER) (o : Option Int), eL (G ++ [z]) = L' ++ [(o, some z)] ∧ eL G = L' ++ [(o, none)] := by
    intro G hG
    rcases List.eq_nil_or_concat G with rfl | ⟨G', a, rfl⟩
    · simp at hG
    · rw [List.concat_eq_append] at *
      have he : G'.length % 2 = 0 := by simp at hG; omega
      refine ⟨eL G', some a, ?_, eL_last G' a a he⟩
      rw [List.append_assoc]
      exact eL_two G' a z he
  cases c
  · exact odd G (by simpa using h)
  · cases G with
    | nil => exact ⟨[], none, rfl, rfl⟩
    | cons v G1 =>
      obtain ⟨L', o, h1, h2⟩ := odd G1 (by simp at h; omega)
      exact ⟨(none, some v) :: L', o, by simp [eF, eT, h1], by simp [eF, eT, h2]⟩
end Law
end
section
set_option autoImplicit false
/-! Signals tick by tick. -/
namespace Law
open PySem PL
def sem : Bool → List Int → Int → Bool
  | b, [], _ => b
  | b, v :: l, t => if t < v then b else sem (!b) l t
def semF (x : Fl) (t : Int) : Bool := sem x.1 x.2 t
theorem sem_T : ∀ (b : Bool) (l : List Int) (t : Int), sem (!b) l t = !sem b l t
  | _, [], _ => rfl
  | b, v :: l, t => by
    simp only [sem, sem_T (!b) l t]
    split <;> rfl
theorem semF_T (x : Fl) (t : Int) : semF (fT x) t = !semF x t := sem_T _ _ _
theorem sem_before {b : Bool} {l : List Int} {t : Int} (h : ∀ a r, l = a :: r → t < a) : sem b l t = b := by
  cases l with
  | nil => rfl
  | cons a r => rw [sem, if_pos (h a r rfl)]
theorem sem_sh (k : Int) : ∀ (b : Bool) (l : List Int) (t : Int), sem b (sh k k l) t = sem b l (t - k)
  | _, [], _ => rfl
  | b, v :: l, t => by
    simp only [sh, sem, sem_sh k (!b) l t]
    by_cases c : t < v + k
    · rw [if_pos c, if_pos (by omega)]
    · rw [if_neg c, if_neg (by omega)]
theorem semF_delay (k : Int) (x : Fl) (t : Int) : semF (fM k k x) t = semF x (t - k) := by
  rcases x with ⟨b, l⟩
  cases b <;> exact sem_sh k _ l t
theorem sh_head {k : Int} (hk : 0 ≤ k) {l : List Int} {c : Int} (h : ∀ a r, l = a :: r → c < a) : ∀ a r, sh k 0 l = a :: r → c < a := by
  intro a r e
  cases l with
  | nil => nomatch e
  | cons x l => simp only [sh, List.cons.injEq] at e; have := h x l rfl; omega
theorem rm_far {n p q : Int} (hp : 0 ≤ p) (hq : 0 ≤ q) {l : List Int} (hl : alt p q l) {c : Int} (h : ∀ a r, l = a :: r → c < a) : ∀ a r, rm n l = a :: r → c < a := by
  intro a r e
  cases l with
  | nil => simp [rm] at e
  | cons x l =>
    have := rm_head (n := n) hp hq hl x l a r rfl e
    have := h x l rfl
    omega
theorem sem_on (k : Int) (hk : 0 ≤ k) (t : Int) : ∀ l : List Int, alt 0 0 l → (sem false (sh k 0 (rm k l)) t = true ↔ ∀ y, t - k ≤ y → y ≤ t → sem false l y = true)
  | [], _ => by
    constructor
    · intro h; nomatch h
    · intro h; have := h t (by omega) (by omega); nomatch this
  | [a], _ => by
    simp only [rm, sh, sem]
    constructor
    · intro h y h1 h2
      by_cases c : t < a + k
      · simp [c] at h
      · simp; omega
    · intro h
      have := h (t - k) (by omega) (by omega)
      simp at this
      simp; omega
  | a :: b :: l, hl => by
    have h1 := hl.1
    have hl2 := alt_tail (alt_tail hl)
    have hb : ∀ c r, l = c :: r → b < c := by
      intro c r e; subst e; have := hl.2.1; omega
    have ih := sem_on k hk t l hl2
    have hrest : ∀ c r, sh k 0 (rm k l) = c :: r → b < c := sh_head hk (rm_far (Int.le_refl 0) (Int.le_refl 0) hl2 hb)
    have full : ∀ y, sem false (a :: b :: l) y = if y < a then false else if y < b then true else sem false l y := fun y => by
      simp only [sem]; rfl
    by_cases c : t < b
    · have hoff : sem false (sh k 0 (rm k l)) t = false := sem_before fun c r e => by have := hrest c r e; omega
      rw [rm]
      by_cases d : b - a ≤ k
      · rw [if_pos d, hoff]
        constructor
        · intro h; nomatch h
        · intro h
          have := h (t - k) (by omega) (by omega)
          rw [full, if_pos (by omega)] at this
          nomatch this
      · rw [if_neg d]
        have e : sem false (sh k 0 (a :: b :: rm k l)) t = if t < a + k then false else true := by
          simp only [sh, sem]
          rw [if_pos (by omega : t < b + 0)]
          rfl
        rw [e]
        constructor
        · intro h y h1 h2
          by_cases f : t < a + k
          · rw [if_pos f] at h; nomatch h
          · rw [full, if_neg (by omega), if_pos (by omega)]
        · intro h
          by_cases f : t < a + k
          · have := h (t - k) (by omega) (by omega)
            rw [full, if_pos (by omega)] at this
            nomatch this
          · rw [if_neg f]
    · have e : sem false (sh k 0 (rm k (a :: b :: l))) t = sem false (sh k 0 (rm k l)) t := by
        rw [rm]
        by_cases d : b - a ≤ k
        · rw [if_pos d]
        · rw [if_neg d]
          simp only [sh, sem]
          rw [if_neg (by omega), if_neg (by omega)]
          rfl
      rw [e, ih]
      constructor
      · intro h y h1 h2
        by_cases f : t - k < b
        · have := h b (by omega) (by omega)
          rw [sem_before hb] at this
          nomatch this
        · rw [full, if_neg (by omega), if_neg (by omega)]
          exact h y h1 h2
      · intro h y h1 h2
        by_cases f : t - k < b
        · have := h b (by omega) (by omega)
          rw [full, if_neg (by omega), if_neg (by omega), sem_before hb] at this
          nomatch this
        · have := h y h1 h2
          rwa [full, if_neg (by omega), if_neg (by omega)] at this
theorem semF_on {k : Int} (hk : 0 ≤ k) {x : Fl} (hx : Wd 0 0 x) (t : Int) : semF (fM k 0 (fD k x)) t = true ↔ ∀ y, t - k ≤ y → y ≤ t → semF x y = true := by
  rcases x with ⟨b, l⟩
  cases b
  · exact sem_on k hk t l hx
  · cases l with
    | nil => exact ⟨fun _ _ _ _ => rfl, fun _ => rfl⟩
    | cons v l =>
      have h' : alt 0 0 (v :: l) := hx
      have hv : ∀ c r, l = c :: r → v < c := by
        intro c r e; subst e; have := h'.1; omega
      have ih := sem_on k hk t l (alt_tail h')
      have full : ∀ y, semF (true, v :: l) y = if y < v then true else sem false l y := fun y => rfl
      have e : semF (fM k 0 (fD k (true, v :: l))) t = if t < v then true else sem false (sh k 0 (rm k l)) t := by
        show sem true (sh 0 k (v :: rm k l)) t = _
        simp only [sh, sem]
        rw [Int.add_zero]; rfl
      rw [e]
      by_cases c : t < v
      · rw [if_pos c]
        exact ⟨fun _ y _ h2 => by rw [full, if_pos (by omega)], fun _ => rfl⟩
      · rw [if_neg c, ih]
        constructor
        · intro h y h1 h2
          by_cases f : t - k < v
          · have := h v (by omega) (by omega)
            rw [sem_before hv] at this
            nomatch this
          · rw [full, if_neg (by omega)]
            exact h y h1 h2
        · intro h y h1 h2
          by_cases f : t - k < v
          · have := h v (by omega) (by omega)
            rw [full, if_neg (by omega), sem_before hv] at this
            nomatch this
          · have := h y h1 h2
            rwa [full, if_neg (by omega)] at this
theorem semF_off {k : Int} (hk : 0 ≤ k) {x : Fl} (hx : Wd 0 0 x) (t : Int) : semF (fM 0 k (fF k x)) t = false ↔ ∀ y, t - k ≤ y → y ≤ t → semF x y = false := by
  have h := semF_on hk (x := fT x) (Wd_T.mpr hx) t
  rw [fD_T, fM_T, semF_T] at h
  constructor
  · intro h1 y h2 h3
    have := h.mp (by rw [h1]; rfl) y h2 h3
    rw [semF_T] at this
    simpa using this
  · intro h1
    have := h.mpr fun y h2 h3 => by rw [semF_T, h1 y h2 h3]; rfl
    simpa using this
/-! triples tick by tick -/
def inR (R : List Run) (t : Int) : Bool := R.any fun r => decide (r.1 ≤ t) && decide (t < r.2)
def semT (z : Tri) (t : Int) : Bool := (match z.u with | some u => decide (t < u) | none => false) || ((match z.s with | some s => decide (s ≤ t) | none => false) || inR z.R t)
theorem sem_pair : ∀ (l : List Int) (t : Int), alt 0 0 l → sem false l t = ((match (pair l).2 with | some s => decide (s ≤ t) | none => false) || inR (pair l).1 t)
  | [], t, _ => rfl
  | [a], t, _ => by
    simp only [sem, pair, inR, List.any_nil, Bool.or_false]
    by_cases c : t < a
    · rw [if_pos c]; simp; omega
    · rw [if_neg c]; simp; omega
  | a :: b :: l, t, hl => by
    have h1 := hl.1
    have ih := sem_pair l t (alt_tail (alt_tail hl))
    have hb : ∀ c r, l = c :: r → b < c := by
      intro c r e; subst e; have := hl.2.1; omega
    simp only [sem, pair]
    have e : inR ((a, b) :: (pair l).1) t = (decide (a ≤ t) && decide (t < b) || inR (pair l).1 t) := rfl
    rw [e]
    by_cases c : t < b
    · have hz := sem_before (b := false) (l := l) (t := t) fun x r e => by have := hb x r e; omega
      rw [ih] at hz
      simp only [Bool.or_eq_false_iff] at hz
      rw [hz.1, hz.2]
      by_cases d : t < a
      · rw [if_pos d]; simp; omega
      · rw [if_neg d, if_pos c]; simp; omega
    · rw [if_neg (by omega), if_neg c]
      have : decide (t < b) = false := by simp; omega
      rw [this]
      simp only [Bool.and_false, Bool.false_or]
      rw [← ih]
      rfl
theorem semF_T3 {x : Fl} (h : Wd 0 0 x) (t : Int) : semT (ofF x) t = semF x t := by
  rcases x with ⟨b, l⟩
  cases b
  · have h' : alt 0 0 l := h
    show semT ⟨none, (pair l).1, (pair l).2⟩ t = sem false l t
    rw [sem_pair l t h']; rfl
  · cases l with
    | nil =>
      show semT AO t = true
      simp [semT, AO, inR]; omega
    | cons v l =>
      have h' : alt 0 0 (v :: l) := h
      have hv : ∀ c r, l = c :: r → v < c := by
        intro c r e; subst e; have := h'.1; omega
      show semT ⟨some v, (pair l).1, (pair l).2⟩ t = if t < v then true else sem false l t
      unfold semT
      simp only
      by_cases c : t < v
      · rw [if_pos c]; simp [c]
      · rw [if_neg c, sem_pair l t (alt_tail h')]; simp [c]
theorem inR_app (A B : List Run) (t : Int) : inR (A ++ B) t = (inR A t || inR B t) := by unfold inR; rw [List.any_append]
theorem inR_train {on g : Int} (hon : 1 ≤ on) (hg : 0 ≤ g) (t : Int) : ∀ (n : Nat) (a : Int), inR (train a on g n) t = (decide (a ≤ t) && decide (t < a + n * (on + g) - g) && decide ((t - a) % (on + g) < on))
  | 0, a => by
    have : (decide (a ≤ t) && decide (t < a + ((0 : Nat) : Int) * (on + g) - g)) = false := by simp; omega
    rw [this]; rfl
  | n + 1, a => by
    rw [train_succ]
    have e : inR ((a, a + on) :: train (a + on + g) on g n) t = (decide (a ≤ t) && decide (t < a + on) || inR (train (a + on + g) on g n) t) := rfl
    rw [e, inR_train hon hg t n (a + on + g)]
    have en : a + ((n + 1 : Nat) : Int) * (on + g) - g = (a + on + g) + n * (on + g) - g := by push_cast; grind
    rw [en]
    have hn : 0 ≤ (n : Int) * (on + g) := Int.mul_nonneg (by omega) (by omega)
    have em : (t - (a + on + g)) % (on + g) = (t - a) % (on + g) := by
      have : t - (a + on + g) = (t - a) - (on + g) := by omega
      rw [this, Int.sub_emod_right]
    rw [em]
    by_cases c1 : a ≤ t
    · by_cases c2 : t < a + on + g
      · have e2 : (t - a) % (on + g) = t - a := Int.emod_eq_of_lt (by omega) (by omega)
        rw [e2]
        have c3 : decide (a + on + g ≤ t) = false := by simp; omega
        rw [c3]
        simp only [Bool.false_and, Bool.or_false]
        by_cases c4 : t < a + on
        · have c5 : t < (a + on + g) + (n : Int) * (on + g) - g := by omega
          simp [c1, c4, c5]; omega
        · simp [c1, c4]; omega
      · have c3 : ¬ t < a + on := by omega
        have c4 : a + on + g ≤ t := by omega
        simp [c1, c3, c4]
    · have c4 : ¬ a + on + g ≤ t := by omega
      simp [c1, c4]
theorem inR_burst {M : Int} {b : Bu} (h : b.fit M) (t : Int) : inR b.runs t = (decide (b.tick ≤ t) && decide (t < b.end) && decide ((t - b.tick) % (b.on + b.off) < b.on)) := by
  have h1 := h.ok.times
  show inR (train b.tick b.on b.off b.times.toNat) t = _
  rw [inR_train h.on h.off]
  have e : ((b.times.toNat : Nat) : Int) = b.times := by omega
  have e2 : b.tick + b.times * (b.on + b.off) - b.off = b.end := by unfold Bu.end; grind
  rw [e, e2]
end Law
end
section
set_option autoImplicit false
/-! Signals of bursts in order: flips, trains, order. Plain. -/
namespace Law
open PySem PL
theorem flat_len : ∀ R : List Run, (flat R none).length = 2 * R.length
  | [] => rfl
  | r :: R => by have := flat_len R; simp [flat]; omega
/-- a signal of runs, told in one way -/
def mkF (u : Option Int) (R : List Run) (s : Option Int) : Fl := (u.isSome, u.toList ++ flat R s)
theorem mkF_pv (u : Option Int) (R : List Run) (s : Option Int) : (ofF (mkF u R s)).pv = sigP u (group R) s := by unfold mkF; rw [ofF_t]; rfl
theorem alt0_snoc : ∀ (F : List Int) (w : Int), alt 0 0 F → (∀ z, F.getLast? = some z → z < w) → alt 0 0 (F ++ [w])
  | [], _, _, _ => trivial
  | [x], w, _, h => ⟨by have := h x rfl; omega, trivial⟩
  | x :: y :: F, w, h, hz => ⟨h.1, alt0_snoc (y :: F) w h.2 fun z hz' => hz z (by simpa using hz')⟩
theorem flat_last {R : List Run} {z : Int} (h : (flat R none).getLast? = some z) : ∃ r, R.getLast? = some r ∧ r.2 = z := by
  rcases List.eq_nil_or_concat R with rfl | ⟨R', r, rfl⟩
  · cases h
  · rw [List.concat_eq_append, flat_snoc] at h
    simp at h
    exact ⟨r, by simp, h⟩
theorem mem_flat : ∀ {R : List Run} {r : Run}, r ∈ R → r.1 ∈ flat R none ∧ r.2 ∈ flat R none
  | x :: R, r, h => by
    rcases List.mem_cons.mp h with rfl | h
    · simp [flat]
    · have := mem_flat h
      simp [flat, this]
theorem flat_train (t on g : Int) : ∀ n : Nat, flat (train t on g (n + 1)) none = t :: (t + on) :: flat (train (t + on + g) on g n) none
  | _ => rfl
theorem train_last (t on g : Int) : ∀ (n : Nat) (z : Int), (flat (train t on g (n + 1)) none).getLast? = some z → z = t + n * (on + g) + on
  | 0, z, h => by simp [train, flat] at h; simp; omega
  | n + 1, z, h => by
    rw [flat_train] at h
    have : (flat (train (t + on + g) on g (n + 1)) none).getLast? = some z := by
      rw [flat_train] at h ⊢
      simpa using h
    have ih := train_last (t + on + g) on g n z this
    rw [ih]
    have e : ((n + 1 : Nat) : Int) * (on + g) = n * (on + g) + (on + g) := by push_cast; rw [Int.add_mul, Int.one_mul]
    rw [e]
    omega
theorem alt_train {on g : Int} (h1 : 1 ≤ on) : ∀ (n : Nat) (t : Int), (2 ≤ n → 1 ≤ g) → alt 0 0 (flat (train t on g n) none)
  | 0, _, _ => trivial
  | 1, t, _ => ⟨by omega, trivial⟩
  | n + 2, t, h => by
    have hg := h (by omega)
    have ih := alt_train h1 (n + 1) (t + on + g) (fun _ => hg)
    rw [flat_train] at ih
    rw [flat_train, flat_train]
    exact ⟨by omega, by omega, ih⟩
theorem train_bd {on g : Int} (h1 : 1 ≤ on) (h2 : 0 ≤ g) : ∀ (n : Nat) (t : Int), ∀ v ∈ flat (train t on g n) none, t ≤ v ∧ v ≤ t + n * (on + g)
  | 0, _, v, hv => by simp [train, flat] at hv
  | n + 1, t, v, hv => by
    rw [flat_train] at hv
    have e : ((n + 1 : Nat) : Int) * (on + g) = n * (on + g) + (on + g) := by push_cast; rw [Int.add_mul, Int.one_mul]
    have z : 0 ≤ (n : Int) * (on + g) := Int.mul_nonneg (by omega) (by omega)
    rw [e]
    rcases List.mem_cons.mp hv with rfl | hv
    · omega
    rcases List.mem_cons.mp hv with rfl | hv
    · omega
    · have := train_bd h1 h2 n (t + on + g) v hv
      omega
theorem group_one (b : Bu) (h : b.ok) : group b.runs = [b] := by
  have := adds_new [] b h (fun u e => by simp at e)
  simpa [group] using this
theorem asc_alt : ∀ {l : List Int}, l.Pairwise (· < ·) → alt 0 0 l
  | [], _ => trivial
  | [_], _ => trivial
  | x :: y :: l, h => by
    obtain ⟨h1, h2⟩ := List.pairwise_cons.mp h
    have := h1 y (by simp)
    exact ⟨by omega, asc_alt h2⟩
theorem burst_asc {M : Int} {b : Bu} (h : b.fit M) (hg : 2 ≤ b.times → 1 ≤ b.off) : (flat b.runs none).Pairwise (· < ·) ∧ ∀ v ∈ flat b.runs none, b.tick ≤ v ∧ v ≤ b.end := by
  have ht := h.ok.times
  obtain ⟨n, hn⟩ : ∃ n : Nat, b.times.toNat = n + 1 := ⟨b.times.toNat - 1, by omega⟩
  have hn2 : b.times = (n : Int) + 1 := by omega
  have hal : alt 0 0 (flat b.runs none) := alt_train h.on _ _ (fun hh => hg (by omega))
  have asc := alt_asc (Int.le_refl 0) (Int.le_refl 0) hal
  have hend : b.end = b.tick + n * (b.on + b.off) + b.on := by
    unfold Bu.end
    rw [hn2]
    have h1 : ((n : Int) + 1) * b.on = n * b.on + b.on := by rw [Int.add_mul, Int.one_mul]
    have h2 : ((n : Int) + 1 - 1) * b.off = n * b.off := by congr 1; omega
    have h3 : (n : Int) * (b.on + b.off) = n * b.on + n * b.off := Int.mul_add _ _ _
    omega
  refine ⟨asc, fun v hv => ?_⟩
  have bd := train_bd h.on h.off _ _ v hv
  refine ⟨bd.1, ?_⟩
  rcases List.eq_nil_or_concat (flat b.runs none) with e | ⟨l, z, e⟩
  · rw [e] at hv; cases hv
  · have hz : z = b.end := by
      have : (flat b.runs none).getLast? = some z := by rw [e]; simp
      unfold Bu.runs at this
      rw [hn] at this
      rw [train_last _ _ _ _ z this, hend]
    rw [e, List.concat_eq_append] at hv asc
    rcases List.mem_append.mp hv with hv | hv
    · have := (List.pairwise_append.mp asc).2.2 v hv z (by simp)
      omega
    · simp at hv; omega
/-- bursts in order, so far apart at least -/
structure Trs (M G : Int) (T : List Bu) : Prop where
  fit : ∀ b ∈ T, b.fit M ∧ (2 ≤ b.times → 1 ≤ b.off)
  far : T.Pairwise fun x y => x.end + G ≤ y.tick
def trsR (T : List Bu) : List Run := T.flatMap Bu.runs
def trsF (T : List Bu) : Fl := (false, flat (trsR T) none)
theorem trs_asc {M G : Int} (hG : 1 ≤ G) : ∀ {T : List Bu}, Trs M G T → (flat (trsR T) none).Pairwise (· < ·) ∧ ∀ v ∈ flat (trsR T) none, (∃ b ∈ T, b.tick ≤ v) ∧ -M ≤ v ∧ v ≤ M
  | [], _ => ⟨List.Pairwise.nil, fun v hv => by simp [trsR, flat] at hv⟩
  | b :: T, h => by
    obtain ⟨f1, f2⟩ := List.pairwise_cons.mp h.far
    have hb := h.fit b (by simp)
    obtain ⟨a1, a2⟩ := burst_asc hb.1 hb.2
    obtain ⟨i1, i2⟩ := trs_asc hG (T := T) ⟨fun x hx => h.fit x (by simp [hx]), f2⟩
    have e : flat (trsR (b :: T)) none = flat b.runs none ++ flat (trsR T) none := by
      unfold trsR
      rw [List.flatMap_cons, flat_app]
    rw [e]
    have hlo := hb.1.lo
    have hhi := hb.1.hi
    refine ⟨List.pairwise_append.mpr ⟨a1, i1, fun x hx y hy => ?_⟩, fun v hv => ?_⟩
    · obtain ⟨⟨c, hc, hcy⟩, _⟩ := i2 y hy
      have := f1 c hc
      have := (a2 x hx).2
      omega
    · rcases List.mem_append.mp hv with hv | hv
      · have := a2 v hv
        exact ⟨⟨b, by simp, this.1⟩, by omega, by omega⟩
      · obtain ⟨⟨c, hc, hcy⟩, hb⟩ := i2 v hv
        exact ⟨⟨c, by simp [hc], hcy⟩, hb⟩
theorem Trs.fok {M G : Int} (hG : 1 ≤ G) {T : List Bu} (h : Trs M G T) : FOk M (trsF T) := ⟨asc_alt (trs_asc hG h).1, fun v hv => ((trs_asc hG h).2 v hv).2⟩
theorem Trs.okb {M G : Int} {T : List Bu} (h : Trs M G T) : OkB T := fun b hb => (h.fit b hb).1.ok
theorem trs_pv (T : List Bu) : (ofF (trsF T)).pv = sigP none (group (trsR T)) none := by
  have := ofF_t none (trsR T) none
  simp only [Option.isSome_none, Option.toList_none, List.nil_append] at this
  unfold trsF
  rw [this]
  rfl
end Law
end
section
set_option autoImplicit false
/-! Signals drawn from the deck. -/
namespace Law
open PySem PL
structure RunsI (b0 b most : Int) (i : Nat) (R : List Run) : Prop where
  len : R.length = i
  alt : alt 0 0 (flat R none)
  head : ∀ r l, R = r :: l → r.1 = b0
  bd : ∀ v ∈ flat R none, b0 ≤ v ∧ v < b
  nx : b0 ≤ b ∧ b ≤ b0 + 2 * most * i
theorem RunsI.step {b0 b most : Int} {i : Nat} {R : List Run} (h : RunsI b0 b most i R) {t o : Int} (t1 : 1 ≤ t) (t2 : t ≤ most) (o1 : 1 ≤ o) (o2 : o ≤ most) : RunsI b0 (b + t + o) most (i + 1) (R ++ [(b, b + t)]) := by
  have hf : flat (R ++ [(b, b + t)]) none = flat R none ++ [b, b + t] := by rw [flat_snoc]; rfl
  have hev : (flat R none).length % 2 = 0 := by rw [flat_len]; omega
  refine ⟨by simp [h.len], ?_, ?_, ?_, ?_⟩
  · rw [hf]
    exact alt_two _ _ _ hev h.alt (fun z hz => by have := h.bd z (List.mem_of_getLast? hz); omega) (by omega)
  · intro r l e
    cases R with
    | nil =>
      have := h.len
      have hn := h.nx
      simp at this e
      subst this
      rw [← e.1]
      simp at hn
      omega
    | cons r' R' =>
      simp at e
      rw [← e.1]
      exact h.head r' R' rfl
  · intro v hv
    rw [hf] at hv
    have := h.nx.1
    rcases List.mem_append.mp hv with hv | hv
    · have := h.bd v hv; omega
    · simp at hv; rcases hv with rfl | rfl <;> omega
  · have := h.nx
    refine ⟨by omega, ?_⟩
    have e : 2 * most * ((i + 1 : Nat) : Int) = 2 * most * i + 2 * most := by push_cast; rw [Int.mul_add]; omega
    omega
theorem runs_ev {j a : Nat} (m : Mem) (hp : (deckF j a).inv m) (b0 : Int) (many : Nat) (most : Int) (h1 : 1 ≤ most) (h2 : most ≤ 1000) (h3 : many ≤ 1000) : (m__law_row_of_runs [.ref j, .int b0, .int many, .int most] m).sat fun p m' => ∃ (k : Nat) (R : List Run) (b : Int), p = .ref k ∧ m.length ≤ k ∧ m'[k]? = some (.lst (R.map runP)) ∧ RunsI b0 b most many R ∧ (deckF j a).Go m m' := by
  have htop := (deckF j a).lt m hp
  refine fn_sat ?_ (fun p m' h h4 h5 => ?_)
  rotate_left
  · obtain ⟨k, R, b, rfl, hk, _⟩ := h
    simp [PV.under] at h5
    omega
  apply run_sat
  unfold b__law_row_of_runs
  simp only [List.map_cons, List.map_nil, List.length_cons, List.length_nil, List.replicate, List.cons_append, List.nil_append, Nat.reduceAdd, Nat.reduceSub]
  have dr := fun m hp => ddraw_ev (j := j) (a := a) m hp most (Int.lt_of_le_of_lt h2 (by decide))
  obtain ⟨p, m1, e1, ⟨t, rfl, t0, t1⟩, g1⟩ := rsat_ex (dr (m ++ [.lst []]) (Fam.app hp _))
  obtain ⟨p, m2, e2, ⟨o, rfl, o0, o1⟩, g2⟩ := rsat_ex (dr m1 g1.i)
  have g02 : (deckF j a).Go m m2 := (Fam.go_app hp [PO.lst []]).trans (g1.trans g2)
  have hc2 : m2[m.length]? = some (.lst (([] : List Run).map runP)) := (g1.trans g2).get (by simp) htop
  refine seq_sat (fun e m' => m' = m2 ∧ e = [some (.ref j), some (.int b0), some (.int many), some (.int most), none, some (.ref m.length), some (.int (1 + t)), some (.int (1 + o))]) (by simp [par3_ev, e1, e2]) ?_
  rintro e m' ⟨rfl, rfl⟩
  simp only [seq_ev, forS_ev]
  have hrng : iRng1 (v 2) [some (.ref j), some (.int b0), some (.int many), some (.int most), none, some (.ref m.length), some (.int (1 + t)), some (.int (1 + o))] m' = .ok ⟨(List.range many).map (fun k : Nat => PV.int (0 + k)), []⟩ m' := by
    have : (many : Int) < 2 ^ 62 := by omega
    simp [iRng1, big62, rangeL]
    omega
  rw [hrng]
  simp only [Out.of_ok]
  refine for_thru (fun k : Nat => PV.int (0 + k)) (List.range many) (fun i e m' => (deckF j a).Go m m' ∧ ∃ (R : List Run) (b t o : Int) (q4 : Option PV), RunsI b0 b most i R ∧ (1 ≤ t ∧ t ≤ most) ∧ (1 ≤ o ∧ o ≤ most) ∧ m'[m.length]? = some (.lst (R.map runP)) ∧ e = [some (.ref j), some (.int b), some (.int many), some (.int most), q4, some (.ref m.length), some (.int t), some (.int o)]) (fun _ _ _ _ => locked_nil _) ⟨g02, [], b0, 1 + t, 1 + o, none, ⟨rfl, trivial, (fun _ _ e => nomatch e), (fun v hv => nomatch hv), by simp⟩, by omega, by omega, hc2, rfl⟩ ?_ ?_
  · rintro i y e m3 hi ⟨g3, R, b, t, o, q4, hR, ht, ho, hc, rfl⟩
    have him : i < many := by have := (List.getElem?_eq_some_iff.mp hi).1; simpa using this
    simp only [turn_ev, tn_ev, Out.of_ok, List.set]
    have cond_step : ∀ (n : Nat) (m3 : Mem) (t o : Int) (slot : Nat) (hs : slot = 6 ∨ slot = 7), (deckF j a).Go m m3 → (1 ≤ t ∧ t ≤ most) → (1 ≤ o ∧ o ≤ most) → m3[m.length]? = some (.lst (R.map runP)) →
        (PL.cond (app2 fEq (app m__law_draw (ac (v 0) (ac (c (.int 3)) an))) (c (.int 0))) (setv slot (app2 fAdd (c (.int 1)) (app m__law_draw (ac (v 0) (ac (v 3) an))))) skip [some (.ref j), some (.int b), some (.int many), some (.int most), some (.int (0 + y)), some (.ref m.length), some (.int t), some (.int o)] m3).sat { nx := fun e m' => (deckF j a).Go m m' ∧ ∃ t o : Int, (1 ≤ t ∧ t ≤ most) ∧ (1 ≤ o ∧ o ≤ most) ∧ m'[m.length]? = some (.lst (R.map runP)) ∧ e = [some (.ref j), some (.int b), some (.int many), some (.int most), some (.int (0 + y)), some (.ref m.length), some (.int t), some (.int o)] } := by
      intro n m3 t o slot hs g3 ht ho hc
      obtain ⟨p, m4, e4, ⟨r, rfl, r0, r1⟩, g4⟩ := rsat_ex (ddraw_ev m3 g3.i 3 (by omega))
      obtain ⟨p, m5, e5, ⟨z, rfl, z0, z1⟩, g5⟩ := rsat_ex (dr m4 g4.i)
      have hc4 := g4.get hc htop
      have hc5 := g5.get hc4 htop
      by_cases c0 : r = 0
      · subst c0
        rcases hs with rfl | rfl
        · have fin : (deckF j a).Go m m5 ∧ ∃ t' o' : Int, (1 ≤ t' ∧ t' ≤ most) ∧ (1 ≤ o' ∧ o' ≤ most) ∧ m5[m.length]? = some (.lst (R.map runP)) ∧ ([some (PV.ref j), some (.int b), some (.int many), some (.int most), some (.int (0 + y)), some (.ref m.length), some (.int (1 + z)), some (.int o)] : PL.Env) = [some (.ref j), some (.int b), some (.int many), some (.int most), some (.int (0 + y)), some (.ref m.length), some (.int t'), some (.int o')] := ⟨(g3.trans g4).trans g5, 1 + z, o, by omega, ho, hc5, rfl⟩
          simp [e4, e5] at fin ⊢
          exact fin
        · have fin : (deckF j a).Go m m5 ∧ ∃ t' o' : Int, (1 ≤ t' ∧ t' ≤ most) ∧ (1 ≤ o' ∧ o' ≤ most) ∧ m5[m.length]? = some (.lst (R.map runP)) ∧ ([some (PV.ref j), some (.int b), some (.int many), some (.int most), some (.int (0 + y)), some (.ref m.length), some (.int t), some (.int (1 + z))] : PL.Env) = [some (.ref j), some (.int b), some (.int many), some (.int most), some (.int (0 + y)), some (.ref m.length), some (.int t'), some (.int o')] := ⟨(g3.trans g4).trans g5, t, 1 + z, ht, by omega, hc5, rfl⟩
          simp [e4, e5] at fin ⊢
          exact fin
      · have fin : (deckF j a).Go m m4 ∧ ∃ t' o' : Int, (1 ≤ t' ∧ t' ≤ most) ∧ (1 ≤ o' ∧ o' ≤ most) ∧ m4[m.length]? = some (.lst (R.map runP)) ∧ ([some (PV.ref j), some (.int b), some (.int many), some (.int most), some (.int (0 + y)), some (.ref m.length), some (.int t), some (.int o)] : PL.Env) = [some (.ref j), some (.int b), some (.int many), some (.int most), some (.int (0 + y)), some (.ref m.length), some (.int t'), some (.int o')] := ⟨g3.trans g4, t, o, ht, ho, hc4, rfl⟩
        simp [e4, c0] at fin ⊢
        exact fin
    refine seq_sat (fun e m' => (deckF j a).Go m m' ∧ ∃ t o : Int, (1 ≤ t ∧ t ≤ most) ∧ (1 ≤ o ∧ o ≤ most) ∧ m'[m.length]? = some (.lst (R.map runP)) ∧ e = [some (.ref j), some (.int b), some (.int many), some (.int most), some (.int (0 + y)), some (.ref m.length), some (.int t), some (.int o)]) (nx_only (cond_step 0 m3 t o 6 (.inl rfl) g3 ht ho hc) fun _ _ h => h) ?_
    rintro e m4 ⟨g4, t, o, ht, ho, hc, rfl⟩
    refine seq_sat (fun e m' => (deckF j a).Go m m' ∧ ∃ t o : Int, (1 ≤ t ∧ t ≤ most) ∧ (1 ≤ o ∧ o ≤ most) ∧ m'[m.length]? = some (.lst (R.map runP)) ∧ e = [some (.ref j), some (.int b), some (.int many), some (.int most), some (.int (0 + y)), some (.ref m.length), some (.int t), some (.int o)]) (nx_only (cond_step 0 m4 t o 7 (.inr rfl) g4 ht ho hc) fun _ _ h => h) ?_
    rintro e m5 ⟨g5, t, o, ht, ho, hc, rfl⟩
    have hz : (R.map runP).length < 16777216 := by have := hR.len; simp; omega
    have gs := g5.set htop (Nat.le_refl _) (.lst ((R ++ [(b, b + t)]).map runP))
    have hcs : (m5.set m.length (.lst ((R ++ [(b, b + t)]).map runP)))[m.length]? = some (.lst ((R ++ [(b, b + t)]).map runP)) := get_set_same hc
    have hl : (R ++ [(b, b + t)]).map runP = R.map runP ++ [.tup [.int b, .int (b + t)]] := by simp [runP]
    have st := hR.step ht.1 ht.2 ho.1 ho.2
    rw [hl] at gs hcs
    have ap : fAppend [.ref m.length, .tup [.int b, .int (b + t)]] m5 = .ok .non (m5.set m.length (.lst (R.map runP ++ [.tup [.int b, .int (b + t)]]))) := append_ok _ hc hz
    have kd : isKd .list m5 (.ref m.length) = true := by simp [isKd, hc]
    simp [kd, ap, -fAppend_ref]
    exact ⟨gs, _, _, st, t, ht, o, ho, by rw [hcs]; simp [runP], rfl, rfl, rfl⟩
  · rintro e m3 ⟨g3, R, b, t, o, q4, hR, ht, ho, hc, rfl⟩
    simp at hR
    simp
    exact ⟨R, hc, ⟨b, hR⟩, g3⟩
theorem mkF_ok {b0 b most : Int} {i : Nat} {R : List Run} (h : RunsI b0 b most i R) {u s : Option Int} (hu : ∀ v, u = some v → v < b0) (hs : ∀ w, s = some w → (∀ r, R.getLast? = some r → r.2 < w) ∧ b0 < w) {M : Int} (m1 : ∀ v, u = some v → -M ≤ v ∧ v ≤ M) (m2 : ∀ v, s = some v → -M ≤ v ∧ v ≤ M) (m3 : -M ≤ b0 ∧ b ≤ M) : FOk M (mkF u R s) := by
  have hfl : flat R s = flat R none ++ s.toList := by
    cases s with
    | none => simp
    | some w => rw [flat_some]; rfl
  have altS : alt 0 0 (flat R s) := by
    rw [hfl]
    cases s with
    | none => simpa using h.alt
    | some w =>
      refine alt0_snoc _ w h.alt fun z hz => ?_
      obtain ⟨r, hr, rfl⟩ := flat_last hz
      exact (hs w rfl).1 r hr
  have lowS : ∀ v ∈ flat R s, b0 ≤ v ∧ (v < b ∨ s = some v) := fun v hv => by
    rw [hfl] at hv
    rcases List.mem_append.mp hv with hv | hv
    · have := h.bd v hv; omega
    · cases s with
      | none => nomatch hv
      | some w => simp at hv; subst hv; have := (hs v rfl).2; exact ⟨by omega, .inr rfl⟩
  refine ⟨?_, ?_⟩
  · have : alt 0 0 (u.toList ++ flat R s) := by
      cases u with
      | none => simpa using altS
      | some v =>
        refine alt_cons altS fun c r hc => ?_
        have h1 := hu v rfl
        have hc' : flat R s = c :: r := by simpa using hc
        have h2 := (lowS c (by rw [hc']; simp)).1
        omega
    unfold mkF Wd
    cases u <;> exact this
  · intro v hv
    unfold mkF at hv
    rcases List.mem_append.mp hv with hv | hv
    · cases u with
      | none => nomatch hv
      | some w => simp at hv; subst hv; exact m1 v rfl
    · obtain ⟨h1, h2 | h2⟩ := lowS v hv
      · omega
      · exact m2 v h2
theorem mkF_len {b0 b most : Int} {i : Nat} {R : List Run} (h : RunsI b0 b most i R) (u s : Option Int) : (mkF u R s).2.length ≤ 2 * i + 2 := by
  have hfl : flat R s = flat R none ++ s.toList := by
    cases s with
    | none => simp
    | some w => rw [flat_some]; rfl
  have := flat_len R
  have hl := h.len
  unfold mkF
  simp only [List.length_append, hfl]
  cases u <;> cases s <;> simp <;> omega
def DSig (N : Nat) (M : Int) (p : PV) : Prop := ∃ x : Fl, p = (ofF x).pv ∧ x.2.length ≤ N ∧ FOk M x
theorem dsignal_ev {j a : Nat} (m : Mem) (hp : (deckF j a).inv m) (many : Nat) (hm : many ≤ 900) (most : Int) (h1 : 1 ≤ most) (h2 : most ≤ 1000) : (m__law_signal [.ref j, .int many, .int most] m).sat fun p m' => DSig (2 * many + 2) (10 + most + 2 * most * many) p ∧ (deckF j a).Go m m' := by
  refine Fam.fn_go (P := DSig (2 * many + 2) (10 + most + 2 * most * many)) hp ?_
  have hS00 : 0 ≤ 2 * most * (many : Int) := Int.mul_nonneg (by omega) (by omega)
  generalize hMd : 10 + most + 2 * most * (many : Int) = MM at *
  apply run_sat
  unfold b__law_signal
  simp only [List.map_cons, List.map_nil, List.length_cons, List.length_nil, List.replicate, List.cons_append, List.nil_append, Nat.reduceAdd, Nat.reduceSub]
  obtain ⟨p, m1, e1, ⟨way, rfl, w0, w1⟩, g1⟩ := rsat_ex (ddraw_ev m hp 12 (by omega))
  obtain ⟨p, m2, e2, ⟨bg, rfl, b0, b1⟩, g2⟩ := rsat_ex (ddraw_ev m1 g1.i 15 (by omega))
  have g12 := g1.trans g2
  obtain ⟨beg, hbeg⟩ : ∃ z, z = bg - 9 := ⟨_, rfl⟩
  refine seq_sat (fun e m' => m' = m2 ∧ e = [some (.ref j), some (.int many), some (.int most), none, none, none, none, some (.int way), some (.int beg)]) (by simp [e1, e2, hbeg]) ?_
  rintro e m' ⟨rfl, rfl⟩
  by_cases c0 : way = 0
  · subst c0
    have sg : ∀ (c : Bool) (l : List Int), l.length ≤ 1 → (∀ v ∈ l, -9 ≤ v ∧ v ≤ 9) → DSig (2 * many + 2) MM (ofF (c, l)).pv := fun c l hl hv => by
      refine ⟨(c, l), rfl, by simp only; omega, ?_, fun v h => by have := hv v h; omega⟩
      match l, hl with
      | [], _ => cases c <;> exact trivial
      | [x], _ => cases c <;> exact trivial
    obtain ⟨p, m3, e3, hq, g3⟩ := rsat_ex (dpick_lit m' g12.i [.tup [.non, .tup [], .non], .tup [.int 0, .tup [], .int 0], .tup [.int beg, .tup [], .non], .tup [.non, .tup [], .int beg]] (by simp) (by simp))
    have hD : DSig (2 * many + 2) MM p := by
      simp at hq
      rcases hq with rfl | rfl | rfl | rfl
      · exact sg false [] (by simp) (by simp)
      · exact sg true [] (by simp) (by simp)
      · exact sg true [beg] (by simp) (by simp; omega)
      · exact sg false [beg] (by simp) (by simp; omega)
    simp [e3]
    exact ⟨hD, g12.trans g3⟩
  refine seq_sat (fun e m => m = m' ∧ e = [some (.ref j), some (.int many), some (.int most), none, none, none, none, some (.int way), some (.int beg)]) (by simp [c0]) ?_
  rintro e m'' ⟨rfl, rfl⟩
  refine seq_sat (fun e m' => (deckF j a).Go m m' ∧ ∃ u : Option Int, (∀ v, u = some v → beg - 1 - most ≤ v ∧ v < beg) ∧ e = [some (.ref j), some (.int many), some (.int most), some (opt u), none, none, none, some (.int way), some (.int beg)]) ?_ ?_
  · obtain ⟨p, m3, e3, ⟨r, rfl, r0, r1⟩, g3⟩ := rsat_ex (ddraw_ev m'' g12.i most (Int.lt_of_le_of_lt h2 (by decide)))
    by_cases c5 : way < 5
    · simp [c5, e3]
      exact ⟨g12.trans g3, some (beg - 1 - r), (fun v hv => by cases hv; omega), rfl⟩
    · simp [c5]
      exact ⟨g12, none, (fun v hv => nomatch hv), rfl⟩
  rintro e m3 ⟨g3, u, hu, rfl⟩
  obtain ⟨p, m4, e4, ⟨n, rfl, n0, n1⟩, g4⟩ := rsat_ex (ddraw_ev m3 g3.i (many + 1) (Int.lt_of_lt_of_le (show (many : Int) + 1 < 1000 by omega) (by decide)))
  obtain ⟨p, m5, e5, k, R, b, rfl, hk, hc, hR, g5⟩ := rsat_ex (runs_ev m4 g4.i beg n.toNat most h1 h2 (by omega))
  have en : ((n.toNat : Nat) : Int) = n := by omega
  rw [en] at e5
  have g35 := (g3.trans g4).trans g5
  refine seq_sat (fun e m' => m' = m5 ∧ e = [some (.ref j), some (.int many), some (.int most), some (opt u), some (.ref k), none, none, some (.int way), some (.int beg)]) (by simp [e4, e5]) ?_
  rintro e m' ⟨rfl, rfl⟩
  have hRl : R.length ≤ 1000 := by have := hR.len; omega
  obtain ⟨far, hfar⟩ : ∃ far : Int, far = match R.getLast? with | some r => r.2 | none => beg := ⟨_, rfl⟩
  have hd : PV.datas (R.map runP) = true := datas_map _ (fun r => by simp [runP]) _
  have hRend : ∀ r, R.getLast? = some r → beg < r.2 ∧ r.2 < b := fun r hr => by
    rcases List.eq_nil_or_concat R with e | ⟨R', r', e⟩
    · rw [e] at hr; nomatch hr
    · rw [e, List.concat_eq_append] at hr
      simp at hr
      subst hr
      have hf : flat R none = flat R' none ++ [r'.1, r'.2] := by rw [e, List.concat_eq_append, flat_snoc]; rfl
      have h3 := hR.alt
      have h4 := hR.bd r'.2 (by rw [hf]; simp)
      have h5 := hR.bd r'.1 (by rw [hf]; simp)
      have h6 : r'.1 < r'.2 := by
        have := alt_asc (Int.le_refl 0) (Int.le_refl 0) h3
        rw [hf, List.pairwise_append] at this
        have := this.2.1
        simpa using this
      omega
  have hb2 : b ≤ 5 + 2 * most * many := by
    have h3 := hR.nx.2
    have h4 : 2 * most * ((n.toNat : Nat) : Int) ≤ 2 * most * many := Int.mul_le_mul_of_nonneg_left (by omega) (by omega)
    omega
  have hnx := hR.nx.1
  have hS0 : 0 ≤ 2 * most * (many : Int) := Int.mul_nonneg (by omega) (by omega)
  have hS1 : 2 * most * (many : Int) ≤ 2000 * 900 := Int.mul_le_mul (by omega) (by omega) (by omega) (by omega)
  have hfb : beg ≤ far ∧ far ≤ 5 + 2 * most * many ∧ ∀ r, R.getLast? = some r → r.2 ≤ far := by
    rw [hfar]
    cases hr : R.getLast? with
    | none => simp only; exact ⟨Int.le_refl _, by omega, fun r h => nomatch h⟩
    | some r => simp only; have := hRend r hr; exact ⟨by omega, by omega, fun r' h => by cases h; omega⟩
  refine seq_sat (fun e m => m = m' ++ [.lst []] ∧ e = [some (.ref j), some (.int many), some (.int most), some (opt u), some (.ref k), some (.int far), none, some (.int way), some (.int beg)]) ?_ ?_
  · have ne := fNe_nil (μ := m' ++ [.lst []]) (b := m'.length) (get_some hc) (by simp) hd (sms_map _ _ fun r hr => by
      obtain ⟨f1, f2⟩ := mem_flat hr
      have b1 := hR.bd _ f1
      have b2 := hR.bd _ f2
      have e200 : (3000000 : Nat) < 10 ^ 200 := by decide +kernel
      exact (Good.tup (Goods.cons (Good.int (i := r.1) (by omega)) (Goods.cons (Good.int (i := r.2) (by omega)) Goods.nil)) (by simp)).sm) (by
      have : PyData.depthAll (PV.pds (R.map runP)) ≤ 1 := dps_map _ _ _ fun r _ => by simp [runP]
      omega)
    rcases List.eq_nil_or_concat R with e | ⟨R', r, e⟩
    · subst e
      simp at hfar
      subst hfar
      simp at ne
      simp [ne]
    · rw [List.concat_eq_append] at e
      subst e
      simp at hfar
      subst hfar
      have ix : fIx [.ref k, .int (-1)] (m' ++ [.lst []]) = .ok (runP r) (m' ++ [.lst []]) := by
        rw [fIx_lst _ _ (get_some hc), List.map_append]
        exact ixOf_last _ _ _
      have r1 : ∀ μ, fIx [runP r, .int 1] μ = .ok (.int r.2) μ := fun μ => by simp [runP]
      simp at ne
      simp [ne, ix, r1, -fIx_ref]
  rintro e m6 ⟨rfl, rfl⟩
  have g6 := g35.app [.lst []]
  have hc6 : (m' ++ [PO.lst []])[k]? = some (.lst (R.map runP)) := get_some hc
  generalize m' ++ [PO.lst []] = m6 at *
  refine seq_sat (fun e m' => (deckF j a).Go m m' ∧ m'[k]? = some (.lst (R.map runP)) ∧ ∃ s : Option Int, (∀ w, s = some w → far < w ∧ w ≤ far + 1 + most) ∧ e = [some (.ref j), some (.int many), some (.int most), some (opt u), some (.ref k), some (.int far), some (opt s), some (.int way), some (.int beg)]) ?_ ?_
  · obtain ⟨p, m7, e7, ⟨r, rfl, r0, r1⟩, g7⟩ := rsat_ex (ddraw_ev m6 g6.i 3 (by omega))
    obtain ⟨p, m8, e8, ⟨z, rfl, z0, z1⟩, g8⟩ := rsat_ex (ddraw_ev m7 g7.i most (Int.lt_of_le_of_lt h2 (by decide)))
    have htop := (deckF j a).lt m hp
    have hk' : (deckF j a).top < k := by have := (deckF j a).lt m4 (g3.trans g4).i; omega
    have hc7 := g7.get hc6 hk'
    by_cases c3 : r = 0
    · subst c3
      simp [e7, e8]
      exact ⟨(g6.trans g7).trans g8, g8.get hc7 hk', some (far + 1 + z), (fun w hw => by cases hw; omega), rfl⟩
    · simp [e7, c3]
      exact ⟨g6.trans g7, hc7, none, (fun w hw => nomatch hw), rfl⟩
  rintro e m7 ⟨g7, hc7, s, hs, rfl⟩
  have gr := dgrouped_ev u s R (by omega) k m7 hc7
  have hD : DSig (2 * many + 2) MM (sigP u (group R) s) := by
    rw [← mkF_pv]
    refine ⟨_, rfl, by have := mkF_len hR u s; omega, mkF_ok hR (fun v hv => (hu v hv).2) (fun w hw => ⟨fun r hr => by have := hfb.2.2 r hr; have := hs w hw; omega, by have := hs w hw; omega⟩) (fun v hv => by have := hu v hv; omega) (fun v hv => by have := hs v hv; omega) (by omega)⟩
  simp [gr]
  exact ⟨hD, g7⟩
end Law
end
section
set_option autoImplicit false
/-! Windows of what is on: plain. -/
namespace Law
open PySem PL
def Hd (f : Int → Bool) (t : Int) (n : Nat) : List Bool := (List.range (n + 1)).map fun (j : Nat) => f (t - n + j)
theorem hd_len (f : Int → Bool) (t : Int) (n : Nat) : (Hd f t n).length = n + 1 := by simp [Hd]
theorem hd_get (f : Int → Bool) (t : Int) (n i : Nat) (h : i ≤ n) : (Hd f t n)[i]? = some (f (t - n + i)) := by
  unfold Hd
  rw [List.getElem?_map, List.getElem?_range (by omega)]; rfl
theorem hd_delay (f : Int → Bool) (t : Int) (n p : Nat) (h : p ≤ n) : (Hd f t n).take (n + 1 - p) = Hd (fun y => f (y - p)) t (n - p) := by
  apply List.ext_getElem?
  intro i
  rw [List.getElem?_take]
  by_cases c : i ≤ n - p
  · rw [if_pos (by omega), hd_get _ _ _ _ (by omega), hd_get _ _ _ _ c]
    congr 2
    omega
  · rw [if_neg (by omega), List.getElem?_eq_none (by rw [hd_len]; omega)]
/-- what lies in a window -/
def win (L : List Bool) (p i : Nat) : List Bool := (L.drop i).take (p + 1)
def cnt (l : List Bool) : Int := (l.map fun b => (if b then 1 else 0 : Int)).sum
theorem cnt_cons (b : Bool) (l : List Bool) : cnt (b :: l) = (if b then 1 else 0) + cnt l := by simp [cnt]
theorem cnt_bd (l : List Bool) : 0 ≤ cnt l ∧ cnt l ≤ l.length ∧ (cnt l = l.length ↔ ∀ b ∈ l, b = true) ∧ (0 < cnt l ↔ ∃ b ∈ l, b = true) := by
  induction l with
  | nil => simp [cnt]
  | cons b l ih =>
    obtain ⟨h1, h2, h3, h4⟩ := ih
    rw [cnt_cons]
    simp only [List.length_cons, List.mem_cons, forall_eq_or_imp, exists_eq_or_imp]
    cases b
    · refine ⟨by simp; omega, by simp; omega, ?_, ?_⟩
      · constructor
        · intro h; simp at h; omega
        · intro h; nomatch h.1
      · simp; simpa using h4
    · refine ⟨by simp; omega, by simp; omega, ?_, ?_⟩
      · simp only [if_true, true_and]
        rw [← h3]; push_cast; omega
      · simp; omega
def winOn (f : Int → Bool) (p : Nat) (t : Int) : Bool := (List.range (p + 1)).all fun (j : Nat) => f (t - j)
def winOff (f : Int → Bool) (p : Nat) (t : Int) : Bool := (List.range (p + 1)).any fun (j : Nat) => f (t - j)
theorem winOn_iff (f : Int → Bool) (p : Nat) (t : Int) : winOn f p t = true ↔ ∀ y, t - p ≤ y → y ≤ t → f y = true := by
  unfold winOn
  rw [List.all_eq_true]
  constructor
  · intro h y h1 h2
    have := h (t - y).toNat (by rw [List.mem_range]; omega)
    have e : t - ((t - y).toNat : Int) = y := by omega
    rwa [e] at this
  · intro h j hj
    rw [List.mem_range] at hj
    exact h _ (by omega) (by omega)
theorem winOff_iff (f : Int → Bool) (p : Nat) (t : Int) : winOff f p t = true ↔ ∃ y, t - p ≤ y ∧ y ≤ t ∧ f y = true := by
  unfold winOff
  rw [List.any_eq_true]
  constructor
  · rintro ⟨j, hj, h⟩
    rw [List.mem_range] at hj
    exact ⟨_, by omega, by omega, h⟩
  · rintro ⟨y, h1, h2, h⟩
    refine ⟨(t - y).toNat, by rw [List.mem_range]; omega, ?_⟩
    have e : t - ((t - y).toNat : Int) = y := by omega
    rwa [e]
theorem win_mem (f : Int → Bool) (t : Int) (n p i : Nat) (h : i + p ≤ n) (b : Bool) : b ∈ win (Hd f t n) p i ↔ ∃ y, (t - n + p + i) - p ≤ y ∧ y ≤ t - n + p + i ∧ f y = b := by
  unfold win
  constructor
  · intro hb
    obtain ⟨k, hk⟩ := List.getElem?_of_mem hb
    rw [List.getElem?_take] at hk
    split at hk
    · rw [List.getElem?_drop, hd_get _ _ _ _ (by omega)] at hk
      cases hk
      exact ⟨_, by push_cast; omega, by push_cast; omega, rfl⟩
    · nomatch hk
  · rintro ⟨y, h1, h2, rfl⟩
    have e : ((Hd f t n).drop i |>.take (p + 1))[(y - (t - n + i)).toNat]? = some (f y) := by
      rw [List.getElem?_take, if_pos (by omega), List.getElem?_drop, hd_get _ _ _ _ (by omega)]
      congr 2
      push_cast
      omega
    exact List.mem_of_getElem? e
theorem win_len (f : Int → Bool) (t : Int) (n p i : Nat) (h : i + p ≤ n) : (win (Hd f t n) p i).length = p + 1 := by
  unfold win
  rw [List.length_take, List.length_drop, hd_len]; omega
theorem win_on (f : Int → Bool) (t : Int) (n p i : Nat) (h : i + p ≤ n) : decide ((p : Int) < cnt (win (Hd f t n) p i)) = winOn f p (t - (n - p : Nat) + i) := by
  obtain ⟨h1, h2, h3, h4⟩ := cnt_bd (win (Hd f t n) p i)
  rw [win_len f t n p i h] at h2 h3
  have e : t - ((n - p : Nat) : Int) + i = t - n + p + i := by omega
  rw [e]
  have k : (p : Int) < cnt (win (Hd f t n) p i) ↔ winOn f p (t - n + p + i) = true := by
    rw [winOn_iff]
    constructor
    · intro hc y a b
      have := h3.mp (by push_cast; omega)
      exact this _ ((win_mem f t n p i h (f y)).mpr ⟨y, a, b, rfl⟩)
    · intro hc
      have := h3.mpr fun b hb => by
        obtain ⟨y, a, c, rfl⟩ := (win_mem f t n p i h b).mp hb
        exact hc y a c
      push_cast at this
      omega
  cases hw : winOn f p (t - n + p + i)
  · rw [hw] at k; simp at k; simp; exact k
  · rw [hw] at k; simp at k; simp; exact k
theorem win_off (f : Int → Bool) (t : Int) (n p i : Nat) (h : i + p ≤ n) : decide ((0 : Int) < cnt (win (Hd f t n) p i)) = winOff f p (t - (n - p : Nat) + i) := by
  obtain ⟨h1, h2, h3, h4⟩ := cnt_bd (win (Hd f t n) p i)
  have e : t - ((n - p : Nat) : Int) + i = t - n + p + i := by omega
  rw [e]
  have k : (0 : Int) < cnt (win (Hd f t n) p i) ↔ winOff f p (t - n + p + i) = true := by
    rw [winOff_iff, h4]
    constructor
    · rintro ⟨b, hb, rfl⟩
      obtain ⟨y, a, c, d⟩ := (win_mem f t n p i h true).mp hb
      exact ⟨y, a, c, d⟩
    · rintro ⟨y, a, c, d⟩
      exact ⟨true, (win_mem f t n p i h true).mpr ⟨y, a, c, d⟩, rfl⟩
  cases hw : winOff f p (t - n + p + i)
  · rw [hw] at k; simp at k; simp; exact k
  · rw [hw] at k; simp at k; simp; exact k
/-- one part, tick by tick -/
def fpS (f : Int → Bool) : Part → Int → Bool
  | .turn => fun t => !f t
  | .delay k => fun t => f (t - k)
  | .on k => winOn f k.toNat
  | .off k => winOff f k.toNat
theorem fpS_eq {x : Fl} (hx : Wd 0 0 x) {p : Part} (hp : 0 ≤ p.num) (t : Int) : fpS (semF x) p t = semF (fbp x p) t := by
  cases p with
  | turn => exact (semF_T x t).symm
  | delay k => exact (semF_delay k x t).symm
  | on k =>
    simp only [num_on] at hp
    have h1 := semF_on hp hx t
    have h2 := winOn_iff (semF x) k.toNat t
    have e : ((k.toNat : Nat) : Int) = k := by omega
    rw [e, ← h1] at h2
    show winOn (semF x) k.toNat t = semF (fM k 0 (fD k x)) t
    exact Bool.eq_iff_iff.mpr h2
  | off k =>
    simp only [num_off] at hp
    have h1 := semF_off hp hx t
    have h2 := winOff_iff (semF x) k.toNat t
    have e : ((k.toNat : Nat) : Int) = k := by omega
    rw [e] at h2
    show winOff (semF x) k.toNat t = semF (fM 0 k (fF k x)) t
    refine Bool.eq_iff_iff.mpr ?_
    rw [h2]
    constructor
    · rintro ⟨y, a, b, c⟩
      by_cases d : semF (fM 0 k (fF k x)) t = true
      · exact d
      · have := h1.mp (by simpa using d) y a b
        rw [this] at c; nomatch c
    · intro h
      apply Classical.byContradiction
      intro hn
      have := h1.mpr fun y a b => by
        cases hs : semF x y
        · rfl
        · exact absurd ⟨y, a, b, hs⟩ hn
      rw [this] at h; nomatch h
end Law
end
section
set_option autoImplicit false
/-! One signal, one list of flips; what stays the same far out. -/
namespace Law
open PySem PL
theorem sem_inj : ∀ (b b' : Bool) (l l' : List Int), l.Pairwise (· < ·) → l'.Pairwise (· < ·) → (∀ t, sem b l t = sem b' l' t) → b = b' ∧ l = l' := by
  have start : ∀ (b : Bool) (l : List Int), ∃ T : Int, ∀ t, t < T → sem b l t = b := by
    intro b l
    cases l with
    | nil => exact ⟨0, fun _ _ => rfl⟩
    | cons v l => exact ⟨v, fun t h => by rw [sem, if_pos h]⟩
  have main : ∀ (n : Nat) (b : Bool) (l l' : List Int), l.length = n → l.Pairwise (· < ·) → l'.Pairwise (· < ·) → (∀ t, sem b l t = sem b l' t) → l = l' := by
    intro n
    induction n with
    | zero =>
      intro b l l' hn _ h' h
      have : l = [] := List.length_eq_zero_iff.mp hn
      subst this
      cases l' with
      | nil => rfl
      | cons v r =>
        have h1 := h v
        have hv : ∀ a s, r = a :: s → v < a := fun a s e => by subst e; exact (List.pairwise_cons.mp h').1 a (by simp)
        have h2 : sem b (v :: r) v = !b := by rw [sem, if_neg (by omega), sem_before hv]
        rw [h2] at h1
        have : b = !b := h1
        cases b <;> nomatch this
    | succ n ih =>
      intro b l l' hn hl h' h
      cases l with
      | nil => nomatch hn
      | cons v r =>
        have hv : ∀ a s, r = a :: s → v < a := fun a s e => by subst e; exact (List.pairwise_cons.mp hl).1 a (by simp)
        have h2 : sem b (v :: r) v = !b := by rw [sem, if_neg (by omega), sem_before hv]
        cases l' with
        | nil =>
          have h1 := h v
          rw [h2] at h1
          have : (!b) = b := h1
          cases b <;> nomatch this
        | cons v' r' =>
          have hv' : ∀ a s, r' = a :: s → v' < a := fun a s e => by subst e; exact (List.pairwise_cons.mp h').1 a (by simp)
          have h2' : sem b (v' :: r') v' = !b := by rw [sem, if_neg (by omega), sem_before hv']
          have e : v = v' := by
            rcases Int.lt_trichotomy v v' with c | c | c
            · have h1 := h v
              rw [h2, sem, if_pos c] at h1
              cases b <;> nomatch h1
            · exact c
            · have h1 := h v'
              rw [h2', sem, if_pos c] at h1
              cases b <;> nomatch h1
          subst e
          have := ih (!b) r r' (by simpa using hn) (List.pairwise_cons.mp hl).2 (List.pairwise_cons.mp h').2 (fun t => by
            by_cases c : t < v
            · rw [sem_before fun a s e => by have := hv a s e; omega, sem_before fun a s e => by have := hv' a s e; omega]
            · have h1 := h t
              rw [sem, sem, if_neg c, if_neg c] at h1
              exact h1)
          rw [this]
  intro b b' l l' h1 h2 h
  have e : b = b' := by
    obtain ⟨T, hT⟩ := start b l
    obtain ⟨T', hT'⟩ := start b' l'
    have a := hT (min T T' - 1) (by omega)
    have c := hT' (min T T' - 1) (by omega)
    rw [← a, ← c]; exact h _
  subst e
  exact ⟨rfl, main _ b l l' rfl h1 h2 h⟩
theorem semF_inj {x y : Fl} (hx : Wd 0 0 x) (hy : Wd 0 0 y) (h : ∀ t, semF x t = semF y t) : x = y := by
  have := sem_inj x.1 y.1 x.2 y.2 (Wd_asc (Int.le_refl 0) (Int.le_refl 0) hx) (Wd_asc (Int.le_refl 0) (Int.le_refl 0) hy) h
  exact Prod.ext this.1 this.2
theorem fans_wd {row : List Part} (h : ∀ p ∈ row, 0 ≤ p.num) : ∀ {x : Fl}, Wd 0 0 x → Wd 0 0 (fans row x) := by
  induction row with
  | nil => intro x hx; exact hx
  | cons p row ih =>
    intro x hx
    refine ih (fun q hq => h q (by simp [hq])) ?_
    have hp := h p (by simp)
    cases p with
    | turn => exact Wd_T.mpr hx
    | delay k => exact Wd_mono (Wd_M k k hx) (by omega) (by omega)
    | on k => simp only [num_on] at hp; exact Wd_mono (Wd_M k 0 (Wd_D (Int.le_refl 0) (Int.le_refl 0) hp hx)) (by omega) (by omega)
    | off k => simp only [num_off] at hp; exact Wd_mono (Wd_M 0 k (Wd_F (Int.le_refl 0) (Int.le_refl 0) hp hx)) (by omega) (by omega)
/-- a row, tick by tick -/
def rowS (f : Int → Bool) (row : List Part) : Int → Bool := row.foldl fpS f
theorem rowS_eq {row : List Part} (h : ∀ p ∈ row, 0 ≤ p.num) : ∀ {x : Fl}, Wd 0 0 x → semF (fans row x) = rowS (semF x) row := by
  induction row with
  | nil => intro x _; rfl
  | cons p row ih =>
    intro x hx
    have hp := h p (by simp)
    have e : fpS (semF x) p = semF (fbp x p) := funext fun t => fpS_eq hx hp t
    have hw : Wd 0 0 (fbp x p) := fans_wd (row := [p]) (by simpa using hp) hx
    have := ih (fun q hq => h q (by simp [hq])) hw
    show semF (fans row (fbp x p)) = rowS (fpS (semF x) p) row
    rw [e, this]
/-- the same up to a tick -/
def Lft (f : Int → Bool) (T : Int) : Prop := ∀ t, t ≤ T → f t = f T
def Rgt (f : Int → Bool) (T : Int) : Prop := ∀ t, T ≤ t → f t = f T
theorem winOn_same {f : Int → Bool} {p : Nat} {t : Int} {c : Bool} (h : ∀ y, t - p ≤ y → y ≤ t → f y = c) : winOn f p t = c := by
  cases c
  · cases hw : winOn f p t
    · rfl
    · have := (winOn_iff f p t).mp hw t (by omega) (by omega)
      rw [h t (by omega) (by omega)] at this; exact this.symm
  · exact (winOn_iff f p t).mpr h
theorem winOff_same {f : Int → Bool} {p : Nat} {t : Int} {c : Bool} (h : ∀ y, t - p ≤ y → y ≤ t → f y = c) : winOff f p t = c := by
  cases c
  · cases hw : winOff f p t
    · rfl
    · obtain ⟨y, a, b, d⟩ := (winOff_iff f p t).mp hw
      rw [h y a b] at d; exact d.symm
  · exact (winOff_iff f p t).mpr ⟨t, by omega, by omega, h t (by omega) (by omega)⟩
theorem fpS_lft {f : Int → Bool} {T : Int} (h : Lft f T) {p : Part} (hp : 0 ≤ p.num) : Lft (fpS f p) T := by
  intro t ht
  cases p with
  | turn => simp only [fpS]; rw [h t ht]
  | delay k =>
    simp only [num_delay] at hp
    simp only [fpS]; rw [h (t - k) (by omega), h (T - k) (by omega)]
  | on k =>
    simp only [num_on] at hp
    simp only [fpS]
    rw [winOn_same (c := f T) fun y _ b => h y (by omega), winOn_same (c := f T) fun y _ b => h y b]
  | off k =>
    simp only [num_off] at hp
    simp only [fpS]
    rw [winOff_same (c := f T) fun y _ b => h y (by omega), winOff_same (c := f T) fun y _ b => h y b]
theorem fpS_rgt {f : Int → Bool} {T : Int} (h : Rgt f T) {p : Part} (hp : 0 ≤ p.num) : Rgt (fpS f p) (T + p.num) := by
  intro t ht
  cases p with
  | turn => simp only [num_turn] at ht ⊢; simp only [fpS]; rw [h t (by omega), h (T + 0) (by omega)]
  | delay k =>
    simp only [num_delay] at hp ht ⊢
    simp only [fpS]; rw [h (t - k) (by omega), h (T + k - k) (by omega)]
  | on k =>
    simp only [num_on] at hp ht ⊢
    simp only [fpS]
    rw [winOn_same (c := f T) fun y a _ => h y (by omega), winOn_same (c := f T) fun y a _ => h y (by omega)]
  | off k =>
    simp only [num_off] at hp ht ⊢
    simp only [fpS]
    rw [winOff_same (c := f T) fun y a _ => h y (by omega), winOff_same (c := f T) fun y a _ => h y (by omega)]
def tot (row : List Part) : Int := (row.map Part.num).sum
theorem tot_cons (p : Part) (row : List Part) : tot (p :: row) = p.num + tot row := by simp [tot]
theorem tot_pos {row : List Part} (h : ∀ p ∈ row, 0 ≤ p.num) : 0 ≤ tot row := by
  induction row with
  | nil => simp [tot]
  | cons p row ih => rw [tot_cons]; have := ih fun q hq => h q (by simp [hq]); have := h p (by simp); omega
theorem tot_app (a b : List Part) : tot (a ++ b) = tot a + tot b := by unfold tot; rw [List.map_append, List.sum_append]
theorem tot_step {row : List Part} {i : Nat} {p : Part} (hx : row[i]? = some p) : tot (row.take (i + 1)) = tot (row.take i) + p.num := by
  rw [take_succ' hx, tot_app, tot_cons]; simp [tot]
theorem tot_take_le {row : List Part} (h : ∀ p ∈ row, 0 ≤ p.num) (i : Nat) : 0 ≤ tot (row.take i) ∧ tot (row.take i) ≤ tot row := by
  have e : tot row = tot (row.take i) + tot (row.drop i) := by
    conv => lhs; rw [← List.take_append_drop i row]
    rw [tot_app]
  have h1 := tot_pos (row := row.take i) fun q hq => h q (List.mem_of_mem_take hq)
  have h2 := tot_pos (row := row.drop i) fun q hq => h q (List.mem_of_mem_drop hq)
  omega
theorem rowS_step {row : List Part} {i : Nat} {p : Part} (hx : row[i]? = some p) (g : Int → Bool) : rowS g (row.take (i + 1)) = fpS (rowS g (row.take i)) p := by
  rw [take_succ' hx]; unfold rowS; rw [List.foldl_append]; rfl
theorem rowS_lft (row : List Part) (h : ∀ p ∈ row, 0 ≤ p.num) : ∀ {f : Int → Bool} {T : Int}, Lft f T → Lft (rowS f row) T := by
  induction row with
  | nil => intro f T hf; exact hf
  | cons p row ih => intro f T hf; exact ih (fun q hq => h q (by simp [hq])) (fpS_lft hf (h p (by simp)))
theorem rowS_rgt (row : List Part) (h : ∀ p ∈ row, 0 ≤ p.num) : ∀ {f : Int → Bool} {T : Int}, Rgt f T → Rgt (rowS f row) (T + tot row) := by
  induction row with
  | nil => intro f T hf; simpa [tot, rowS] using hf
  | cons p row ih =>
    intro f T hf
    have := ih (fun q hq => h q (by simp [hq])) (fpS_rgt hf (h p (by simp)))
    rw [tot_cons, ← Int.add_assoc]
    exact this
end Law
end
section
set_option autoImplicit false
/-! How many ticks of a stretch a signal is on. -/
namespace Law
open PySem PL
def b2n (b : Bool) : Int := if b then 1 else 0
/-- at how many of n ticks from low on -/
def tally (f : Int → Bool) (low : Int) : Nat → Int
  | 0 => 0
  | n + 1 => tally f low n + b2n (f (low + n))
theorem tally_not (f : Int → Bool) (low : Int) : ∀ n, tally f low n + tally (fun t => !f t) low n = n
  | 0 => rfl
  | n + 1 => by
    have ih := tally_not f low n
    simp only [tally]
    cases f (low + n) <;> simp [b2n] <;> omega
theorem tally_tele {f : Int → Bool} {G : Int → Int} (h : ∀ t, G (t + 1) - G t = b2n (f t)) (low : Int) : ∀ n : Nat, tally f low n = G (low + n) - G low
  | 0 => by simp [tally]
  | n + 1 => by
    have ih := tally_tele h low n
    have := h (low + n)
    simp only [tally, ih]
    have e : low + ((n + 1 : Nat) : Int) = low + n + 1 := by push_cast; omega
    rw [e]
    omega
/-- the ticks below t at which a burst is on -/
def obB (b : Bu) (t : Int) : Int := if t ≤ b.tick then 0 else if t ≥ b.end then b.times * b.on else ((t - b.tick) / (b.on + b.off)) * b.on + min ((t - b.tick) % (b.on + b.off)) b.on
theorem div_next {d p : Int} (hp : 0 < p) : (d % p = p - 1 → (d + 1) % p = 0 ∧ (d + 1) / p = d / p + 1) ∧ (d % p ≠ p - 1 → (d + 1) % p = d % p + 1 ∧ (d + 1) / p = d / p) := by
  have e := Int.mul_ediv_add_emod d p
  have r0 := Int.emod_nonneg d (show p ≠ 0 by omega)
  have r1 := Int.emod_lt_of_pos d hp
  refine ⟨fun h => ?_, fun h => ?_⟩
  · have e2 : d + 1 = p * (d / p + 1) := by rw [Int.mul_add]; omega
    rw [e2]
    exact ⟨Int.mul_emod_right _ _, Int.mul_ediv_cancel_left _ (by omega)⟩
  · have e2 : d + 1 = (d % p + 1) + p * (d / p) := by omega
    rw [e2, Int.add_mul_emod_self_left, Int.add_mul_ediv_left _ _ (by omega)]
    have h1 : d % p + 1 < p := by omega
    exact ⟨Int.emod_eq_of_lt (by omega) h1, by rw [Int.ediv_eq_zero_of_lt (by omega) h1]; omega⟩
theorem obB_step {M : Int} {b : Bu} (h : b.fit M) (t : Int) : obB b (t + 1) - obB b t = b2n (decide (b.tick ≤ t) && decide (t < b.end) && decide ((t - b.tick) % (b.on + b.off) < b.on)) := by
  obtain ⟨hok, hon, hoff, _, _⟩ := h
  have hp : 0 < b.on + b.off := by omega
  have ht := hok.times
  have hend : b.end = b.tick + (b.times - 1) * (b.on + b.off) + b.on := by
    have h1 : (b.times - 1) * (b.on + b.off) = (b.times - 1) * b.on + (b.times - 1) * b.off := Int.mul_add _ _ _
    have h2 : (b.times - 1) * b.on = b.times * b.on - b.on := by rw [Int.sub_mul, Int.one_mul]
    unfold Bu.end
    omega
  have hK : 0 ≤ (b.times - 1) * (b.on + b.off) := Int.mul_nonneg (by omega) (by omega)
  obtain ⟨d, hd⟩ : ∃ d, d = t - b.tick := ⟨_, rfl⟩
  have hd1 : t + 1 - b.tick = d + 1 := by omega
  unfold obB
  by_cases c1 : t < b.tick
  · rw [if_pos (show t + 1 ≤ b.tick by omega), if_pos (show t ≤ b.tick by omega)]
    simp [show ¬ b.tick ≤ t by omega, b2n]
  rw [if_neg (show ¬ t + 1 ≤ b.tick by omega)]
  by_cases c2 : t ≥ b.end
  · rw [if_pos (show t + 1 ≥ b.end by omega), if_neg (show ¬ t ≤ b.tick by omega), if_pos c2]
    simp [show ¬ t < b.end by omega, b2n]
  -- within
  obtain ⟨n1, n2⟩ := div_next (d := d) hp
  have r0 := Int.emod_nonneg d (show b.on + b.off ≠ 0 by omega)
  have r1 := Int.emod_lt_of_pos d hp
  have lhs0 : (if t ≤ b.tick then 0 else if t ≥ b.end then b.times * b.on else ((t - b.tick) / (b.on + b.off)) * b.on + min ((t - b.tick) % (b.on + b.off)) b.on) = d / (b.on + b.off) * b.on + min (d % (b.on + b.off)) b.on := by
    by_cases c3 : t ≤ b.tick
    · have e : d = 0 := by omega
      rw [if_pos c3, e]
      simp
      omega
    · rw [if_neg c3, if_neg c2, hd]
  rw [lhs0]
  have e3 : (decide (b.tick ≤ t) && decide (t < b.end) && decide ((t - b.tick) % (b.on + b.off) < b.on)) = decide (d % (b.on + b.off) < b.on) := by
    simp [show b.tick ≤ t by omega, show t < b.end by omega, hd]
  rw [e3, hd1]
  have step : (d + 1) / (b.on + b.off) * b.on + min ((d + 1) % (b.on + b.off)) b.on - (d / (b.on + b.off) * b.on + min (d % (b.on + b.off)) b.on) = b2n (decide (d % (b.on + b.off) < b.on)) := by
    by_cases c4 : d % (b.on + b.off) = b.on + b.off - 1
    · obtain ⟨m1, m2⟩ := n1 c4
      rw [m1, m2, c4, Int.add_mul, Int.one_mul]
      by_cases c5 : b.off = 0
      · simp [b2n, c5]; omega
      · have : ¬ (b.on + b.off - 1 < b.on) := by omega
        simp [b2n, this]; omega
    · obtain ⟨m1, m2⟩ := n2 c4
      rw [m1, m2]
      by_cases c5 : d % (b.on + b.off) < b.on
      · simp [b2n, c5]; omega
      · simp [b2n, c5]; omega
  by_cases c6 : t + 1 ≥ b.end
  · rw [if_pos c6, ← step]
    have e : d + 1 = b.on + (b.times - 1) * (b.on + b.off) := by omega
    have e2 : (d + 1) / (b.on + b.off) * b.on + min ((d + 1) % (b.on + b.off)) b.on = b.times * b.on := by
      rw [e, Int.add_mul_emod_self_right, Int.add_mul_ediv_right _ _ (by omega)]
      by_cases c7 : b.off = 0
      · rw [c7, Int.add_zero, Int.ediv_self (by omega), Int.emod_self]
        have : (1 + (b.times - 1)) = b.times := by omega
        rw [this]; omega
      · rw [Int.ediv_eq_zero_of_lt (by omega) (by omega), Int.emod_eq_of_lt (by omega) (by omega)]
        have : (0 + (b.times - 1)) * b.on = b.times * b.on - b.on := by rw [Int.zero_add, Int.sub_mul, Int.one_mul]
        rw [this]; omega
    rw [e2]
  · rw [if_neg c6]
    exact step
def sumI (l : List Int) : Int := l.sum
/-- all below t -/
def gOn (z : Tri) (t : Int) : Int := ((group z.R).map fun b => obB b t).sum + (match z.u with | some u => min t u | none => 0) + (match z.s with | some s => max t s | none => 0)
theorem b2n_or {a b : Bool} (h : a = true → b = true → False) : b2n (a || b) = b2n a + b2n b := by
  cases a <;> cases b <;> simp_all [b2n]
theorem bus_step {M : Int} (t : Int) : ∀ bs : List Bu, (∀ b ∈ bs, b.fit M) → bs.Pairwise (fun x y => x.end ≤ y.tick) → (bs.map fun b => obB b (t + 1)).sum - (bs.map fun b => obB b t).sum = b2n (inR (bs.flatMap Bu.runs) t)
  | [], _, _ => by simp [inR, b2n]
  | b :: bs, hf, hp => by
    obtain ⟨p1, p2⟩ := List.pairwise_cons.mp hp
    have ih := bus_step t bs (fun x hx => hf x (by simp [hx])) p2
    have hb := hf b (by simp)
    have st := obB_step hb t
    rw [← inR_burst hb] at st
    have hcat : (b :: bs).flatMap Bu.runs = b.runs ++ bs.flatMap Bu.runs := rfl
    rw [hcat, inR_app]
    rw [b2n_or (fun h1 h2 => ?_)]
    · simp only [List.map_cons, List.sum_cons]
      omega
    · rw [inR_burst hb] at h1
      simp only [Bool.and_eq_true, decide_eq_true_eq] at h1
      obtain ⟨r, hr, hrt⟩ := List.any_eq_true.mp h2
      obtain ⟨y, hy, hry⟩ := List.mem_flatMap.mp hr
      have hy2 : inR y.runs t = true := List.any_eq_true.mpr ⟨r, hry, hrt⟩
      rw [inR_burst (hf y (by simp [hy]))] at hy2
      simp only [Bool.and_eq_true, decide_eq_true_eq] at hy2
      have := p1 y hy
      omega
theorem gOn_step {M : Int} {x : Fl} (h : FOk M x) (hx : x ≠ (true, [])) (t : Int) : gOn (ofF x) (t + 1) - gOn (ofF x) t = b2n (semF x t) := by
  have hw : WF M (ofF x) := by
    rcases fok_fit h with h1 | h1
    · exact h1
    · rcases x with ⟨c, l⟩
      cases c with
      | false => simp [ofF, AO] at h1
      | true => cases l with
        | nil => exact absurd rfl hx
        | cons v l =>
          simp only [ofF, AO, Tri.mk.injEq] at h1
          obtain ⟨e1, e2, e3⟩ := h1
          have w := h.wd
          have hl : l = flat (pair l).1 (pair l).2 := (flat_pair l).symm
          rw [e2, e3] at hl
          simp only [flat] at hl
          subst hl
          simp at e1
          subst e1
          simp only [Wd, if_true, alt] at w
          omega
  rw [← semF_T3 h.wd]
  generalize ofF x = z at *
  obtain ⟨_, gf⟩ := group_fit (wf_ok hw)
  have bs := bus_step t (group z.R) gf.fs gf.ch
  rw [group_runs] at bs
  have run_hi : ∀ r ∈ z.R, r.1 < r.2 := fun r hr => (hw.z.runs r hr).len
  have inu : inR z.R t = true → ∃ r ∈ z.R, r.1 ≤ t ∧ t < r.2 := fun hin => by
    obtain ⟨r, hr, hrt⟩ := List.any_eq_true.mp hin
    simp only [Bool.and_eq_true, decide_eq_true_eq] at hrt
    exact ⟨r, hr, hrt⟩
  unfold gOn semT
  cases hu : z.u with
  | none =>
    cases hs : z.s with
    | none => simp only [Bool.false_or]; omega
    | some s =>
      simp only [Bool.false_or]
      rw [b2n_or (fun h1 h2 => by
        obtain ⟨r, hr, h3, h4⟩ := inu h2
        have := (hw.s s hs).2.2 r hr
        simp at h1
        omega), ← bs]
      by_cases c : s ≤ t <;> simp [b2n, c] <;> omega
  | some u =>
    have du : ∀ r ∈ z.R, u < r.1 := fun r hr => (hw.z.u u hu).2.2 r hr
    cases hs : z.s with
    | none =>
      simp only [Bool.false_or]
      rw [b2n_or (fun h1 h2 => by
        obtain ⟨r, hr, h3, h4⟩ := inu h2
        have := du r hr
        simp at h1
        omega), ← bs]
      by_cases c : t < u <;> simp [b2n, c] <;> omega
    | some s =>
      have us := hw.us u s hu hs
      rw [b2n_or (fun h1 h2 => by
        simp at h1
        rcases Bool.or_eq_true_iff.mp h2 with h2 | h2
        · simp at h2; omega
        · obtain ⟨r, hr, h3, h4⟩ := inu h2
          have := du r hr
          omega), b2n_or (fun h1 h2 => by
        obtain ⟨r, hr, h3, h4⟩ := inu h2
        have := (hw.s s hs).2.2 r hr
        simp at h1
        omega), ← bs]
      by_cases c : t < u <;> by_cases c2 : s ≤ t <;> simp [b2n, c, c2] <;> omega
end Law
end
section
set_option autoImplicit false
/-! Signals so many times as far, and moved. -/
namespace Law
open PySem PL
def sc1 (b f v : Int) : Int := v * b + f
def scl (b f : Int) (x : Fl) : Fl := (x.1, x.2.map (sc1 b f))
def sclR (b f : Int) (r : Run) : Run := (sc1 b f r.1, sc1 b f r.2)
def sclB (b f : Int) (u : Bu) : Bu := ⟨sc1 b f u.tick, u.on * b, u.off * b, u.times⟩
theorem sc1_sub (b f v w : Int) : sc1 b f v - sc1 b f w = (v - w) * b := by unfold sc1; rw [Int.sub_mul]; omega
theorem mul_lt_iff {b : Int} (hb : 0 < b) (v w : Int) : v * b < w * b ↔ v < w := by
  constructor
  · intro h; exact Int.lt_of_mul_lt_mul_right h (by omega)
  · intro h; exact Int.mul_lt_mul_of_pos_right h hb
theorem mul_le_iff {b : Int} (hb : 0 < b) (v w : Int) : v * b ≤ w * b ↔ v ≤ w := by
  constructor
  · intro h; exact Int.le_of_mul_le_mul_right h hb
  · intro h; exact Int.mul_le_mul_of_nonneg_right h (by omega)
theorem mul_eq_iff {b : Int} (hb : 0 < b) (v w : Int) : v * b = w * b ↔ v = w := by
  constructor
  · intro h
    have h1 := (mul_le_iff hb v w).mp (by omega)
    have h2 := (mul_le_iff hb w v).mp (by omega)
    omega
  · rintro rfl; rfl
theorem sc1_lt {b : Int} (hb : 0 < b) (f v w : Int) : sc1 b f v < sc1 b f w ↔ v < w := by
  have := mul_lt_iff hb v w
  unfold sc1
  omega
theorem sclB_end (b f : Int) (u : Bu) : (sclB b f u).end = sc1 b f u.end := by
  unfold Bu.end sclB sc1
  have h1 : u.times * (u.on * b) = u.times * u.on * b := (Int.mul_assoc _ _ _).symm
  have h2 : (u.times - 1) * (u.off * b) = (u.times - 1) * u.off * b := (Int.mul_assoc _ _ _).symm
  simp only [h1, h2, Int.add_mul]
  omega
theorem takes_scl {b : Int} (hb : 0 < b) (f : Int) (u : Bu) (r : Run) : takes (sclB b f u) (sclR b f r).1 ((sclR b f r).2 - (sclR b f r).1) = takes u r.1 (r.2 - r.1) := by
  unfold takes
  have e1 : (sclR b f r).2 - (sclR b f r).1 = (r.2 - r.1) * b := sc1_sub b f r.2 r.1
  have e2 : (sclR b f r).1 - (sclB b f u).end = (r.1 - u.end) * b := by rw [sclB_end]; exact sc1_sub b f r.1 u.end
  rw [e1, e2]
  have d1 : decide ((sclB b f u).on = (r.2 - r.1) * b) = decide (u.on = r.2 - r.1) := by
    apply decide_eq_decide.mpr
    exact mul_eq_iff hb _ _
  have d2 : decide ((sclB b f u).off = (r.1 - u.end) * b) = decide (u.off = r.1 - u.end) := by
    apply decide_eq_decide.mpr
    exact mul_eq_iff hb _ _
  rw [d1, d2]
  rfl
theorem one_scl (b f : Int) (r : Run) : one (sclR b f r) = sclB b f (one r) := by
  unfold one sclB
  have e1 : (sclR b f r).2 - (sclR b f r).1 = (r.2 - r.1) * b := sc1_sub b f r.2 r.1
  simp only [e1, Int.zero_mul]
  rfl
theorem add_scl {b : Int} (hb : 0 < b) (f : Int) (F : List Bu) (r : Run) : add (F.map (sclB b f)) (sclR b f r) = (add F r).map (sclB b f) := by
  rcases List.eq_nil_or_concat F with rfl | ⟨G, u, rfl⟩
  · simp [add, one_scl]
  · rw [List.concat_eq_append, List.map_append, List.map_cons, List.map_nil, add_snoc, add_snoc, takes_scl hb]
    by_cases c : takes u r.1 (r.2 - r.1) = true
    · rw [if_pos c, if_pos c]
      have e2 : (sclR b f r).1 - (sclB b f u).end = (r.1 - u.end) * b := by rw [sclB_end]; exact sc1_sub b f r.1 u.end
      simp only [List.map_append, List.map_cons, List.map_nil, e2]
      rfl
    · rw [if_neg c, if_neg c]
      simp [one_scl]
theorem adds_scl {b : Int} (hb : 0 < b) (f : Int) : ∀ (rs : List Run) (F : List Bu), adds (F.map (sclB b f)) (rs.map (sclR b f)) = (adds F rs).map (sclB b f)
  | [], _ => rfl
  | r :: rs, F => by rw [List.map_cons, adds_cons, adds_cons, add_scl hb, adds_scl hb f rs]
theorem group_scl {b : Int} (hb : 0 < b) (f : Int) (rs : List Run) : group (rs.map (sclR b f)) = (group rs).map (sclB b f) := adds_scl hb f rs []
theorem pair_scl (b f : Int) : ∀ l : List Int, pair (l.map (sc1 b f)) = ((pair l).1.map (sclR b f), (pair l).2.map (sc1 b f))
  | [] => rfl
  | [_] => rfl
  | x :: y :: l => by simp only [List.map_cons, pair, pair_scl b f l, sclR]
def sclT (b f : Int) (t : Tri) : Tri := ⟨t.u.map (sc1 b f), t.R.map (sclR b f), t.s.map (sc1 b f)⟩
theorem ofF_scl (b f : Int) {x : Fl} (h : x ≠ (true, [])) : ofF (scl b f x) = sclT b f (ofF x) := by
  rcases x with ⟨c, l⟩
  cases c
  · simp [scl, ofF, sclT, pair_scl]
  · cases l with
    | nil => exact absurd rfl h
    | cons v l => simp [scl, ofF, sclT, pair_scl]
theorem alt_scl {b : Int} (hb : 0 < b) (f : Int) : ∀ {l : List Int}, alt 0 0 l → alt 0 0 (l.map (sc1 b f))
  | [], _ => trivial
  | [_], _ => trivial
  | x :: y :: l, h => by
    have h1 := h.1
    refine ⟨?_, alt_scl hb f (l := y :: l) h.2⟩
    rw [sc1_sub]
    exact Int.mul_pos (by omega) hb
theorem wd_scl {b : Int} (hb : 0 < b) (f : Int) {x : Fl} (h : Wd 0 0 x) : Wd 0 0 (scl b f x) := by
  unfold Wd scl at *
  cases hx : x.1 <;> simp only [hx] at h ⊢ <;> exact alt_scl hb f h
theorem fok_scl {b f M N : Int} (hb : 0 < b) {x : Fl} (h : FOk M x) (h2 : M * b ≤ N) (hf : -N ≤ f ∧ f ≤ N) : FOk (2 * N) (scl b f x) := by
  refine ⟨wd_scl hb f h.wd, fun v hv => ?_⟩
  obtain ⟨w, hw, rfl⟩ := List.mem_map.mp hv
  have hb1 := h.bd w hw
  have l1 := (mul_le_iff hb w M).mpr hb1.2
  have l2 := (mul_le_iff hb (-M) w).mpr hb1.1
  have l3 : -M * b = -(M * b) := Int.neg_mul _ _
  unfold sc1
  omega
theorem scl_len (b f : Int) (x : Fl) : (scl b f x).2.length = x.2.length := by simp [scl]
theorem sem_scl {b : Int} (hb : 0 < b) (f : Int) {c : Int} (c0 : 0 ≤ c) (c1 : c < b) (t : Int) : ∀ (d : Bool) (l : List Int), sem d (l.map (sc1 b f)) (sc1 b f t + c) = sem d l t
  | _, [] => rfl
  | d, v :: l => by
    rw [List.map_cons, sem, sem]
    have e : (sc1 b f t + c < sc1 b f v) = (t < v) := by
      apply propext
      constructor
      · intro h
        exact (sc1_lt hb f t v).mp (by omega)
      · intro h
        have h2 := (mul_le_iff hb (t + 1) v).mpr (by omega)
        rw [Int.add_mul, Int.one_mul] at h2
        unfold sc1
        omega
    simp only [e, sem_scl hb f c0 c1 t (!d) l]
theorem semF_scl {b : Int} (hb : 0 < b) (f : Int) {c : Int} (c0 : 0 ≤ c) (c1 : c < b) (t : Int) (x : Fl) : semF (scl b f x) (sc1 b f t + c) = semF x t := sem_scl hb f c0 c1 t x.1 x.2
/-! rows so many times as great -/
def sclP (b : Int) : Part → Part
  | .turn => .turn
  | .on k => .on (k * b)
  | .off k => .off (k * b)
  | .delay k => .delay (k * b)
theorem rm_scl {b : Int} (hb : 0 < b) (f n : Int) : ∀ l : List Int, rm (n * b) (l.map (sc1 b f)) = (rm n l).map (sc1 b f)
  | [] => rfl
  | [_] => rfl
  | x :: y :: l => by
    rw [List.map_cons, List.map_cons, rm, rm, sc1_sub, rm_scl hb f n l]
    by_cases c : y - x ≤ n
    · rw [if_pos c, if_pos ((mul_le_iff hb _ _).mpr c)]
    · rw [if_neg c, if_neg (fun h => c ((mul_le_iff hb _ _).mp h))]
      rfl
theorem rm'_scl {b : Int} (hb : 0 < b) (f n : Int) : ∀ l : List Int, rm' (n * b) (l.map (sc1 b f)) = (rm' n l).map (sc1 b f)
  | [] => rfl
  | x :: l => by rw [List.map_cons, rm', rm', rm_scl hb, List.map_cons]
theorem sh_scl (b f : Int) : ∀ (l : List Int) (p q : Int), sh (p * b) (q * b) (l.map (sc1 b f)) = (sh p q l).map (sc1 b f)
  | [], _, _ => rfl
  | x :: l, p, q => by
    rw [List.map_cons, sh, sh, List.map_cons, sh_scl b f l q p]
    congr 1
    unfold sc1
    rw [Int.add_mul]
    omega
theorem fM_scl (b f p q : Int) (x : Fl) : fM (p * b) (q * b) (scl b f x) = scl b f (fM p q x) := by
  unfold fM scl
  cases x.1 <;> simp [sh_scl]
theorem fM_scl0 (b f p : Int) (x : Fl) : fM (p * b) 0 (scl b f x) = scl b f (fM p 0 x) := by
  have := fM_scl b f p 0 x
  rwa [Int.zero_mul] at this
theorem fM_scl0' (b f p : Int) (x : Fl) : fM 0 (p * b) (scl b f x) = scl b f (fM 0 p x) := by
  have := fM_scl b f 0 p x
  rwa [Int.zero_mul] at this
theorem fD_scl {b : Int} (hb : 0 < b) (f n : Int) (x : Fl) : fD (n * b) (scl b f x) = scl b f (fD n x) := by
  unfold fD scl
  cases x.1 <;> simp [rm_scl hb, rm'_scl hb]
theorem fF_scl {b : Int} (hb : 0 < b) (f n : Int) (x : Fl) : fF (n * b) (scl b f x) = scl b f (fF n x) := by
  unfold fF scl
  cases x.1 <;> simp [rm_scl hb, rm'_scl hb]
theorem fbp_scl {b : Int} (hb : 0 < b) (f : Int) (x : Fl) (p : Part) : fbp (scl b f x) (sclP b p) = scl b f (fbp x p) := by
  cases p with
  | turn => rfl
  | delay k => exact fM_scl b f k k x
  | on k => show fM (k * b) 0 (fD (k * b) (scl b f x)) = _; rw [fD_scl hb, fM_scl0]; rfl
  | off k => show fM 0 (k * b) (fF (k * b) (scl b f x)) = _; rw [fF_scl hb, fM_scl0']; rfl
theorem fans_scl {b : Int} (hb : 0 < b) (f : Int) : ∀ (row : List Part) (x : Fl), fans (row.map (sclP b)) (scl b f x) = scl b f (fans row x)
  | [], _ => rfl
  | p :: row, x => by
    show fans (row.map (sclP b)) (fbp (scl b f x) (sclP b p)) = scl b f (fans row (fbp x p))
    rw [fbp_scl hb, fans_scl hb f row]
/-! ticks counted -/
theorem tally_add (f : Int → Bool) (low : Int) (a : Nat) : ∀ b : Nat, tally f low (a + b) = tally f low a + tally f (low + a) b
  | 0 => by simp [tally]
  | b + 1 => by
    have e : a + (b + 1) = (a + b) + 1 := by omega
    rw [e, tally, tally, tally_add f low a b]
    have e2 : low + ((a + b : Nat) : Int) = low + a + b := by push_cast; omega
    rw [e2]
    omega
theorem tally_same {f : Int → Bool} {low : Int} {c : Bool} : ∀ b : Nat, (∀ i : Nat, i < b → f (low + i) = c) → tally f low b = b * b2n c
  | 0, _ => by simp [tally]
  | b + 1, h => by
    rw [tally, tally_same b (fun i hi => h i (by omega)), h b (by omega)]
    push_cast
    rw [Int.add_mul]
    omega
theorem tally_scl {B : Nat} (hB : 0 < B) (f : Int) (x : Fl) (low : Int) : ∀ n : Nat, tally (semF (scl B f x)) (sc1 B f low) (n * B) = B * tally (semF x) low n
  | 0 => by simp [tally]
  | n + 1 => by
    rw [Nat.add_mul, Nat.one_mul, tally_add, tally_scl hB f x low n]
    have e : sc1 B f low + ((n * B : Nat) : Int) = sc1 B f (low + n) := by unfold sc1; push_cast; rw [Int.add_mul]; omega
    rw [e, tally_same (c := semF x (low + n)) B (fun i hi => semF_scl (by omega) f (by omega) (by omega) (low + n) x), tally, Int.mul_add]
end Law
end
section
set_option autoImplicit false
/-! Rows and signals that go together, whatever bursts. -/
namespace Law
open PySem PL
theorem opt_no : opt none = .non := rfl
theorem opt_so (v : Int) : opt (some v) = .int v := rfl
theorem opt_none (o : Option Int) : isNon (opt o) = o.isNone := by cases o <;> rfl
theorem fans_take {row : List Part} {i : Nat} {p : Part} (h : row[i]? = some p) (x : Fl) : fans (row.take (i + 1)) x = fbp (fans (row.take i) x) p := by
  rw [take_succ' h]; unfold fans; rw [List.foldl_append]; rfl
/-- rows and signals that go together, whatever bursts -/
structure RX0 (M : Int) (B : Nat) (row : List Part) (x : Fl) : Prop where
  m0 : 0 ≤ M
  ok : FOk M x
  pok : ∀ p ∈ row, p.ok B
  many : row.length ≤ 300
  big : M + 1000 * B ≤ 10 ^ 100
theorem RX0.take {M : Int} {B : Nat} {row : List Part} {x : Fl} (h : RX0 M B row x) (i : Nat) : FOk (M + 300 * B) (fans (row.take i) x) := by
  refine (fans_ok (B := B) (by omega) _ h.ok fun p hp => h.pok p (List.mem_of_mem_take hp)).mono ?_
  have h1 : (row.take i).length ≤ 300 := by have := h.many; rw [List.length_take]; omega
  have : ((row.take i).length : Int) * B ≤ 300 * B := Int.mul_le_mul_of_nonneg_right (by omega) (by omega)
  omega
end Law
end
section
set_option autoImplicit false
/-! Bursts and triples as data. -/
namespace Law
open PySem PL
theorem fit_mul {M : Int} (hM : Big M) {b : Bu} (h : b.fit M) : mulOk b.times b.on ∧ mulOk (b.times - 1) b.off := by
  obtain ⟨h1, h2, h3, _⟩ := fit_more h
  have h4 := h.ok.times
  have h5 := h.on
  have h6 := h.off
  have e : (2 * 10 ^ 100 : Int) < 10 ^ 150 := by decide +kernel
  have hm := hM.2
  constructor <;> apply mul_big <;> omega
theorem ix_b0 (b : Bu) (μ : Mem) : fIx [b.pv, .int 0] μ = .ok (.int b.tick) μ := by simp [Bu.pv]
theorem ix_b1 (b : Bu) (μ : Mem) : fIx [b.pv, .int 1] μ = .ok (.int b.on) μ := by simp [Bu.pv]
theorem ix_b2 (b : Bu) (μ : Mem) : fIx [b.pv, .int 2] μ = .ok (.int b.off) μ := by simp [Bu.pv]
theorem ix_b3 (b : Bu) (μ : Mem) : fIx [b.pv, .int 3] μ = .ok (.int b.times) μ := by simp [Bu.pv]
theorem tt_b (b : Bu) (r : Tgs) (env : PL.Env) (μ : Mem) : tt 4 r b.pv env μ = r [.int b.tick, .int b.on, .int b.off, .int b.times] env μ := by simp [Bu.pv]
theorem Bu_sm {M : Int} (hM : Big M) {b : Bu} (h : b.fit M) : b.pv.pd.sm = true := by
  obtain ⟨h1, h2, h3, _, _, h7⟩ := fit_more h
  have h4 := h.ok.times
  have h5 := h.on
  have h6 := h.off
  have h8 := h.lo
  have e : (2 * 10 ^ 100 : Int) < 10 ^ 150 := by decide +kernel
  have e2 : (10 ^ 150 : Nat) < 10 ^ 200 := by decide +kernel
  have hm := hM.2
  have s : ∀ z : Int, -(2 * M) ≤ z → z ≤ 2 * M → z.natAbs.log2 < 1920 := fun z a b => log_sml (by show z.natAbs < 10 ^ 200; omega)
  simp [Bu.pv, s b.tick (by omega) (by omega), s b.on (by omega) (by omega), s b.off (by omega) (by omega), s b.times (by omega) (by omega)]
theorem Bu_dp (b : Bu) : b.pv.pd.depth = 1 := by simp [Bu.pv]
theorem Bu_wt (b : Bu) : b.pv.pd.wt = 5 := by simp [Bu.pv]
theorem tri_data (t : Tri) : t.pv.data = true := by
  unfold Tri.pv sigP
  cases t.u <;> cases t.s <;> simp [opt, datas_map _ Bu_data]
theorem tt_t (t : Tri) (r : Tgs) (env : PL.Env) (μ : Mem) : tt 3 r t.pv env μ = r [opt t.u, .tup ((group t.R).map Bu.pv), opt t.s] env μ := by simp [Tri.pv, sigP]
theorem tt_b' (b : Bu) (r : Tgs) (env : PL.Env) (μ : Mem) : tt 4 r b.pv env μ = r [.int b.tick, .int b.on, .int b.off, .int b.times] env μ := by simp [Bu.pv]
theorem group_ok (R : List Run) : OkB (group R) := (adds_runs R [] (fun _ h => (nomatch h))).2
structure Fine (M : Int) (t : Tri) : Prop where
  ok : RunsOk M t.R
  len : (group t.R).length ≤ 150
end Law
end
section
set_option autoImplicit false
/-! Signals as data. -/
namespace Law
open PySem PL
theorem add_len (f : List Bu) (r : Run) : (add f r).length ≤ f.length + 1 := by
  unfold add
  split
  · simp
  · split
    · simp
    · simp
theorem adds_len (rs : List Run) : ∀ f : List Bu, (adds f rs).length ≤ f.length + rs.length := by
  induction rs with
  | nil => intro f; simp [adds_nil]
  | cons r rs ih =>
    intro f
    have := ih (add f r)
    have := add_len f r
    rw [adds_cons, List.length_cons]; omega
theorem group_len (rs : List Run) : (group rs).length ≤ rs.length := by
  have := adds_len rs []
  simpa [group] using this
theorem fit2_fine {M : Int} {t : Tri} (h : Fit2 M t) (hl : (group t.R).length ≤ 150) : Fine M t := by
  refine ⟨?_, hl⟩
  rcases h with h | rfl
  · exact wf_ok h
  · exact ⟨fun r hr => by simp [AO] at hr, by simp [AO]⟩
theorem opt_good {M : Int} (hM : Big M) {o : Option Int} (h : ∀ v, o = some v → -M ≤ v ∧ v ≤ M) : Good 1 (opt o) := by
  have hm := hM.2
  have e2 : (10 ^ 100 : Int) < 10 ^ 200 := by decide +kernel
  cases o with
  | none => exact ⟨by simp [opt], by simp [opt], by simp [opt], by simp [opt]⟩
  | some v => have := h v rfl; exact Good.int (show v.natAbs < 10 ^ 200 by omega)
theorem bu_good {M : Int} (hM : Big M) {b : Bu} (h : b.fit M) : Good 5 b.pv := ⟨Bu_data b, Bu_sm hM h, by rw [Bu_wt b]; decide, by rw [Bu_dp b]; decide⟩
/-- how many bursts -/
def bl (x : Fl) : Nat := (group (ofF x).R).length
theorem tri_good {M : Int} (hM : Big M) {t : Tri} (h : Fit2 M t) (hl : (group t.R).length ≤ 150) : Good 760 t.pv := by
  have hu : ∀ v, t.u = some v → -M ≤ v ∧ v ≤ M := by
    rcases h with h | rfl
    · exact fun v hv => ⟨(h.z.u v hv).1, (h.z.u v hv).2.1⟩
    · intro v hv; simp [AO] at hv; subst hv; exact ⟨by have := hM.1; omega, hM.1⟩
  have hs : ∀ v, t.s = some v → -M ≤ v ∧ v ≤ M := by
    rcases h with h | rfl
    · exact fun v hv => ⟨(h.s v hv).1, (h.s v hv).2.1⟩
    · intro v hv; simp [AO] at hv; subst hv; exact ⟨by have := hM.1; omega, hM.1⟩
  have hf := fit2_fine h hl
  obtain ⟨_, gf⟩ := group_fit hf.ok
  have hg := hf.len
  have dp : PyData.depthAll (PV.pds ((group t.R).map Bu.pv)) ≤ 1 := dps_map _ _ _ fun b _ => by rw [Bu_dp b]; decide
  have g1 := Good.tup (Goods.map Bu.pv (group t.R) fun b hb => bu_good hM (gf.fs b hb)) (by omega)
  have od : ∀ o : Option Int, (opt o).pd.depth = 0 := fun o => by cases o <;> simp [opt]
  exact (Good.tup (Goods.cons (opt_good hM hu) (Goods.cons g1 (Goods.cons (opt_good hM hs) Goods.nil))) (by simp [od]; omega)).mono (by omega)
theorem AO_good : Good 4 AO.pv := by
  have gi : Good 1 (.int 0) := Good.int (by show (0 : Int).natAbs < 10 ^ 200; decide)
  have ge : Good 1 (.tup []) := Good.tup Goods.nil (by simp)
  have : AO.pv = .tup [.int 0, .tup [], .int 0] := by simp [AO, Tri.pv, sigP, opt, group, adds_nil]
  rw [this]
  exact (Good.tup (Goods.cons gi (Goods.cons ge (Goods.cons gi Goods.nil))) (by simp)).mono (by omega)
theorem AO_pv : AO.pv = .tup [.int 0, .tup [], .int 0] := by simp [AO, Tri.pv, sigP, opt, group, adds_nil]
theorem group_nil {R : List Run} : (group R = []) ↔ R = [] := by
  constructor
  · intro h
    have := group_runs R
    rw [h] at this
    exact this.symm
  · rintro rfl; rfl
theorem eqv_AO (t : Tri) : PyData.eqv t.pv.pd AO.pv.pd = isAO t := by
  rw [AO_pv]
  unfold Tri.pv sigP isAO
  have hg : (group t.R).isEmpty = t.R.isEmpty := by
    have := @group_nil t.R
    cases h1 : group t.R <;> cases h2 : t.R <;> simp_all
  have e : ∀ l : List Bu, PyData.eqvAll (PV.pds (l.map Bu.pv)) [] = l.isEmpty := fun l => by cases l <;> simp [PyData.eqvAll]
  have eo : ∀ o : Option Int, PyData.eqv (opt o).pd (.int 0) = (o == some 0) := fun o => by
    cases o with
    | none => simp [opt, PyData.eqv]
    | some v => simp [opt, PyData.eqv]
  simp [PyData.eqv, PyData.eqvAll, e, eo, hg]
  cases (t.u == some 0) <;> cases t.R.isEmpty <;> cases (t.s == some 0) <;> rfl
theorem scal_t (t : Tri) (q : PV) : scalP t.pv q = none := by unfold Tri.pv sigP; cases q <;> rfl
theorem isAO_ev {M : Int} (hM : Big M) {x : Fl} (h : FOk M x) (hl : bl x ≤ 150) (μ : Mem) : fEq [(ofF x).pv, .tup [.int 0, .tup [], .int 0]] μ = .ok (.bl (isAO (ofF x))) μ := by
  have e := fEq_data (scal_t _ _) (tri_good hM (fok_fit h) hl) AO_good μ
  rw [eqv_AO, AO_pv] at e
  exact e
end Law
end
section
set_option autoImplicit false
/-! `_law_great`, run. -/
namespace Law
open PySem PL
theorem notAO' {M : Int} {x : Fl} (h : FOk M x) (hx : x ≠ (true, [])) : isAO (ofF x) = false := notAO h hx
theorem great_ev {M : Int} (hM : Big M) {x : Fl} (h : FOk M x) (hl : bl x ≤ 150) {b f : Int} (hb : 0 < b) (hb2 : b ≤ 10 ^ 60) (p0 : PV) (μ : Mem) : m__law_great [p0, (ofF x).pv, .int b, .int f] μ = .ok (ofF (if x = (true, []) then x else scl b f x)).pv μ := by
  apply fn_sat_data (tri_data _)
  apply run_sat
  unfold b__law_great
  have e := isAO_ev hM h hl
  simp only [List.map_cons, List.map_nil, List.length_cons, List.length_nil, List.replicate, List.cons_append, List.nil_append, Nat.reduceAdd, Nat.reduceSub]
  by_cases hx : x = (true, [])
  · have e1 : isAO (ofF x) = true := by rw [hx]; rfl
    rw [e1] at e
    rw [if_pos hx]
    simp only [setv_ev, par_ev, par3_ev, asg_ev, cond_ev, exp_ev, ret_ev, seq_ev, skip_ev, ite_ev, app_ev, app1_ev, app2_ev, mth_ev, callK_ev, ac_ev, an_ev, c_ev, v0, vS, Res.bind_ok, Out.of_ok, Out.then_nx, Out.then_rt, onS_true, onS_false, onB_true, onB_false, List.set, sat_nx, sat_rt, tn_ev, turn_ev, if_true, fLst0, fLst1, fLst2, fLst3, fLst4, fTup0, fTup1, fTup2, fTup3, fTup4, fAdd_int, fSub_int, fEq_int, fNe_int, fEq_str, fNe_str, fNot_bl, decide_true, decide_false, Bool.not_true, Bool.not_false, sl_ev, onPart_non, onPart_int, fPart_int, fSl_tup01, fSl_tup10, fSl_tup11, fIx_tup, fLen_tup, tt_ev, tc_ev, t0_ev, fLt_int, fLe_int, fGt_int, fGe_int, fNeg_int, fInt_int, and_ev, or_ev, res_rt, rsat_ok, tt_t, e]
    exact ⟨by trivial, Ext.refl _⟩
  · rw [notAO h hx] at e
    rw [if_neg hx, ofF_scl b f hx]
    have hlen : (group (ofF x).R).length ≤ 150 := hl
    have hF := fok_fit h
    have hR : RunsOk M (ofF x).R := by
      rcases hF with h | h
      · exact wf_ok h
      · rw [h]; exact ⟨fun r hr => by simp [AO] at hr, by simp [AO]⟩
    obtain ⟨_, gf⟩ := group_fit hR
    have mo : ∀ z : Int, -(2 * M) ≤ z → z ≤ 2 * M → mulOk z b := fun z h1 h2 => by
      have e3 : (2 * 10 ^ 100 : Int) < 10 ^ 150 := by decide +kernel
      have e4 : (10 : Int) ^ 60 < 10 ^ 150 := by decide +kernel
      have := hM.2
      apply mul_big <;> omega
    have hu : ∀ v, (ofF x).u = some v → mulOk v b := fun v hv => by
      rcases hF with h1 | h1
      · have := h1.z.u v hv; have := hM.1; exact mo v (by omega) (by omega)
      · rw [h1] at hv; simp [AO] at hv; subst hv; exact mo 0 (by have := hM.1; omega) (by have := hM.1; omega)
    have hs : ∀ v, (ofF x).s = some v → mulOk v b := fun v hv => by
      rcases hF with h1 | h1
      · have := h1.s v hv; have := hM.1; exact mo v (by omega) (by omega)
      · rw [h1] at hv; simp [AO] at hv; subst hv; exact mo 0 (by have := hM.1; omega) (by have := hM.1; omega)
    have key := lc_pure (it := iVal (v 6)) (g := tt 4 (tc (tn 8) (tc (tn 9) (tc (tn 10) (tc (tn 11) t0))))) (t := yes) (e := app fTup (ac (app2 fAdd (app2 fMul (v 8) (v 2)) (v 3)) (ac (app2 fMul (v 9) (v 2)) (ac (app2 fMul (v 10) (v 2)) (ac (v 11) an))))) (vs := [8, 9, 10, 11]) (env := [some p0, some (ofF x).pv, some (.int b), some (.int f), none, some (opt (ofF x).u), some (.tup ((group (ofF x).R).map Bu.pv)), some (opt (ofF x).s), none, none, none, none]) (μ := μ) (μ1 := μ) (lk := []) Bu.pv (fun u => some (sclB b f u).pv) (group (ofF x).R) (by simp) (fun _ => locked_nil _) (by show (group (ofF x).R).length < 16777216; omega) (fun u hu2 l => by
      have hf := gf.fs u hu2
      obtain ⟨q1, q2, q3, q4, q5, q6⟩ := fit_more hf
      have m1 := mo u.tick (by have := hf.lo; have := hM.1; omega) (by have := hM.1; omega)
      have m2 := mo u.on (by have := hf.on; have := hM.1; omega) (by omega)
      have m3 := mo u.off (by have := hf.off; have := hM.1; omega) (by omega)
      generalize (ofF x).pv = X
      refine ⟨_, by simp only [wipe, List.set, tt_b']; rfl, ?_⟩
      refine ⟨rfl, ?_⟩
      simp only [setv_ev, par_ev, par3_ev, asg_ev, cond_ev, exp_ev, ret_ev, seq_ev, skip_ev, ite_ev, app_ev, app1_ev, app2_ev, mth_ev, callK_ev, ac_ev, an_ev, c_ev, v0, vS, Res.bind_ok, Out.of_ok, Out.then_nx, Out.then_rt, onS_true, onS_false, onB_true, onB_false, List.set, sat_nx, sat_rt, tn_ev, turn_ev, if_true, fLst0, fLst1, fLst2, fLst3, fLst4, fTup0, fTup1, fTup2, fTup3, fTup4, fAdd_int, fSub_int, fEq_int, fNe_int, fEq_str, fNe_str, fNot_bl, decide_true, decide_false, Bool.not_true, Bool.not_false, sl_ev, onPart_non, onPart_int, fPart_int, fSl_tup01, fSl_tup10, fSl_tup11, fIx_tup, fLen_tup, tt_ev, tc_ev, t0_ev, fLt_int, fLe_int, fGt_int, fGe_int, fNeg_int, fInt_int, and_ev, or_ev, res_rt, rsat_ok, fMul_int, m1, m2, m3]
      rfl)
    have e2 : (group (ofF x).R).filterMap (fun u => some (sclB b f u).pv) = ((group (ofF x).R).map (sclB b f)).map Bu.pv := by simp [List.filterMap_eq_map, Function.comp_def]
    rw [e2] at key
    have ft : fTuple [.ref μ.length] (μ ++ [.lst (((group (ofF x).R).map (sclB b f)).map Bu.pv)]) = .ok (.tup (((group (ofF x).R).map (sclB b f)).map Bu.pv)) (μ ++ [.lst (((group (ofF x).R).map (sclB b f)).map Bu.pv)]) := fTuple_lst _ (by simp)
    have ou : ∀ μ, (onB (.bl (!isNon (opt (ofF x).u))) (((fMul [opt (ofF x).u, .int b] μ)).bind fun p μ1 => fAdd [p, .int f] μ1) (.ok .non μ)) = .ok (opt ((ofF x).u.map (sc1 b f))) μ := fun μ => by
      cases hc : (ofF x).u with
      | none => simp [opt]
      | some v => simp [opt, fMul_int, hu v hc, sc1]
    have os : ∀ μ, (onB (.bl (!isNon (opt (ofF x).s))) (((fMul [opt (ofF x).s, .int b] μ)).bind fun p μ1 => fAdd [p, .int f] μ1) (.ok .non μ)) = .ok (opt ((ofF x).s.map (sc1 b f))) μ := fun μ => by
      cases hc : (ofF x).s with
      | none => simp [opt]
      | some v => simp [opt, fMul_int, hs v hc, sc1]
    have fin : (sclT b f (ofF x)).pv = .tup [opt ((ofF x).u.map (sc1 b f)), .tup (((group (ofF x).R).map (sclB b f)).map Bu.pv), opt ((ofF x).s.map (sc1 b f))] := by
      rw [← group_scl hb]
      rfl
    rw [fin]
    simp only [setv_ev, par_ev, par3_ev, asg_ev, cond_ev, exp_ev, ret_ev, seq_ev, skip_ev, ite_ev, app_ev, app1_ev, app2_ev, mth_ev, callK_ev, ac_ev, an_ev, c_ev, v0, vS, Res.bind_ok, Out.of_ok, Out.then_nx, Out.then_rt, onS_true, onS_false, onB_true, onB_false, List.set, sat_nx, sat_rt, tn_ev, turn_ev, if_true, fLst0, fLst1, fLst2, fLst3, fLst4, fTup0, fTup1, fTup2, fTup3, fTup4, fAdd_int, fSub_int, fEq_int, fNe_int, fEq_str, fNe_str, fNot_bl, decide_true, decide_false, Bool.not_true, Bool.not_false, sl_ev, onPart_non, onPart_int, fPart_int, fSl_tup01, fSl_tup10, fSl_tup11, fIx_tup, fLen_tup, tt_ev, tc_ev, t0_ev, fLt_int, fLe_int, fGt_int, fGe_int, fNeg_int, fInt_int, and_ev, or_ev, res_rt, rsat_ok, tt_t, e, fNotN_non, key, ou, ft, os]
    exact ⟨by trivial, _, rfl⟩
end Law
end
section
set_option autoImplicit false
/-! Things that stand in the place of a number (k01): run. -/
namespace Law
open PySem PL
theorem Ab.of_go {j a : Nat} {m m' : Mem} (hp : (deckF j a).inv m) (g : (deckF j a).Go m m') : Ab a m m' := fun k o hk h => g.get h (by rw [deckF_top hp]; exact hk)
theorem err_dct {m : Mem} {k : Nat} (hc : m[k]? = some (.dct [])) : m_signal_error [.ref k] m = .ok (.str "form") m ∧ m__law_due [.ref k] m = .ok (.str "form") m := by
  have ht : fIsi .tuple [.ref k] m = .ok (.bl false) m := by simp [fIsi, isTy, hc, Ty.isD]
  have hf : m__law_is_formed [.ref k] m = .ok (.bl false) m := by
    apply fn_sat_data rfl
    apply run_sat
    unfold b__law_is_formed
    simp [ht]
  refine ⟨?_, ?_⟩
  · apply fn_sat_data rfl
    apply run_sat
    unfold b_signal_error
    simp [ht]
  · apply fn_sat_data rfl
    apply run_sat
    unfold b__law_due
    simp [hf]
theorem VV.err {N a : Nat} {m : Mem} {V : PV} (h : VV N a m V) (hN : N ≤ 20) : m_signal_error [V] m = .ok (errV V) m ∧ m__law_due [V] m = .ok (errV V) m := by
  by_cases hd : ∃ k, V = .ref k ∧ m[k]? = some (.dct [])
  · obtain ⟨k, rfl, hc⟩ := hd
    exact err_dct hc
  · have hs := h.s3 hN fun k e hc => hd ⟨k, e, hc⟩
    exact ⟨signal_error_ev hs, law_due_ev hs⟩
theorem Ab.app {a : Nat} (m l : Mem) : Ab a m (m ++ l) := Ab.of_ext (Ext.app m l)
theorem Ab.trans {a : Nat} {x y z : Mem} (h : Ab a x y) (g : Ab a y z) : Ab a x z := fun k o hk e => g k o hk (h k o hk e)
theorem deck_lt {j a : Nat} {m : Mem} (h : (deckF j a).inv m) : a < m.length := by
  have := (deckF j a).lt m h
  rw [deckF_top h] at this
  exact this
theorem text_okX (s : String) : PyData.strOk (Str.ofString s) = true ∧ ∀ c ∈ (Str.ofString s).cps.toList, c < 16 ^ 8 := by
  have key : ∀ c ∈ (Str.ofString s).cps.toList, c < 0x110000 := by
    intro c hc
    rw [Str.ofString_eq_toList] at hc
    simp only [List.mem_map] at hc
    obtain ⟨ch, _, rfl⟩ := hc
    have := ch.valid
    show ch.val.toNat < 0x110000
    unfold UInt32.isValidChar Nat.isValidChar at this
    omega
  refine ⟨?_, fun c hc => by have := key c hc; omega⟩
  unfold PyData.strOk
  rw [← Array.all_toList, List.all_eq_true]
  intro c hc
  simpa using key c hc
theorem log_n60 {i : Int} (h : n60 i = true) : i.natAbs.log2 < 300 := by
  obtain ⟨h1, h2⟩ := n60_iff.mp h
  have c1 : (10 : Nat) ^ 60 < 2 ^ 300 := by decide +kernel
  have c2 : i.natAbs < 2 ^ 300 := by
    have : M60 = ((10 ^ 60 : Nat) : Int) := by decide +kernel
    omega
  by_cases hz : i.natAbs = 0
  · rw [hz]; decide
  · exact (Nat.log2_lt hz).mpr c2
theorem str_intX {i : Int} (h : n60 i = true) : ∃ ks : Str, (∀ μ, fStr [.int i] μ = .ok (.str ks) μ) ∧ (PyData.str ks).sm = true := by
  refine ⟨(toString i : String), fun μ => ?_, ?_⟩
  · simp only [fStr]
    rw [if_pos (by have := log_n60 h; omega)]
  · have h1 := text_okX (toString i)
    have h2 := PySem.StrLaws.reprText_len _ h1.2
    have h10 : i.natAbs < 10 ^ 61 := by
      obtain ⟨a, b⟩ := n60_iff.mp h
      have : M60 = ((10 ^ 60 : Nat) : Int) := by decide +kernel
      have : (10 : Nat) ^ 60 < 10 ^ 61 := by decide +kernel
      omega
    have h3 := int_text_length_le10 (k := 61) (by decide) h10
    have e : (Str.ofString (toString i)).length = (toString i).length := by
      rw [Str.ofString_eq_toList]; simp only [Str.length, List.size_toArray, List.length_map, String.length_toList]
    rw [sm_str, h1.1, Bool.true_and, decide_eq_true_eq]
    omega
theorem good_n60 {i : Int} (h : n60 i = true) (d : Int) (hd : -9 ≤ d ∧ d ≤ 9) : Good 1 (.int (i + d)) := Good.int (by
  obtain ⟨a, b⟩ := n60_iff.mp h
  have : M60 = ((10 ^ 60 : Nat) : Int) := by decide +kernel
  have : (10 : Nat) ^ 60 + 10 ≤ 10 ^ 200 := by decide +kernel
  unfold sml
  omega)
theorem p60 (μ : Mem) : fPow [.int 10, .int 60] μ = .ok (.int (10 ^ 60)) μ := pow10 (n := 60) (by decide) μ
theorem odd_item_ev {j a : Nat} (m : Mem) (hp : (deckF j a).inv m) {p : PV} (h : p = .non ∨ ∃ i, p = .int i ∧ n60 i = true) : (m__law_odd_item [.ref j, p] m).sat fun q m' => Q1 a m' q ∧ (deckF j a).Go m m' := by
  refine fn_sat (P := fun q m' => Q1 a m' q ∧ (deckF j a).Go m m') ?_ (fun p m' ⟨h1, h2⟩ h3 h4 => ⟨h1.take h4, h2.take hp⟩)
  apply run_sat
  unfold b__law_odd_item
  simp only [List.map_cons, List.map_nil, List.length_cons, List.length_nil, List.replicate, List.cons_append, List.nil_append, Nat.reduceAdd, Nat.reduceSub]
  have hlt := deck_lt hp
  have hSL : SL = 16777216 := rfl
  have gd : ∀ {m' : Mem} {q : PV}, Good 10 q → Q1 a m' q := fun h => .inl h
  have g1 : ∀ {m' : Mem} {q : PV}, Good 1 q → Q1 a m' q := fun h => .inl (h.mono (by omega))
  have gi : ∀ {m' : Mem} (i : Int), sml i → Q1 a m' (.int i) := fun i h => g1 (Good.int h)
  have c60 : (10 : Nat) ^ 60 + 10 ≤ 10 ^ 200 := by decide +kernel
  have s60 : ∀ d : Int, -1 ≤ d ∧ d ≤ 1 → sml (10 ^ 60 + d) ∧ sml (-10 ^ 60 + d) := fun d hd => by
    have : (10 : Int) ^ 60 = ((10 ^ 60 : Nat) : Int) := by decide +kernel
    unfold sml
    constructor <;> omega
  have fl : ∀ (L : List PV), L.length ≤ 100 → ∀ μ, fLst L μ = .ok (.ref μ.length) (μ ++ [.lst L]) := fun L hL μ => by
    have : L.length ≤ SL := by omega
    simp only [fLst]
    rw [if_pos this]
    rfl
  rcases h with rfl | ⟨i, rfl, hi⟩
  · obtain ⟨L, hL⟩ : ∃ L : List PV, L = [.non, .bl true, .bl false, .str "None", .tup [.non], .ref m.length, .int (-1), .int 0, .int 1, .int (10 ^ 60), .int (10 ^ 60 + 1), .int (-10 ^ 60 - 1), .int (-10 ^ 60)] := ⟨_, rfl⟩
    obtain ⟨p, m2, e2, hq, g2⟩ := rsat_ex (dpick_ev (m ++ [.lst [.non], .lst L]) (Fam.app hp _) (m.length + 1) L (by omega) (get_new _ _ 1) (by rw [hL]; simp) (by rw [hL]; simp))
    have gg := (Fam.go_app hp [PO.lst [.non], .lst L]).trans g2
    have cell : m2[m.length]? = some (.lst [.non]) := g2.get (get_new m [.lst [.non], .lst L] 0) (by rw [deckF_top hp]; exact hlt)
    have hres : Q1 a m2 p := by
      rw [hL] at hq
      simp only [List.mem_cons, List.not_mem_nil, or_false] at hq
      have a0 := s60 0 (by omega)
      have a1 := s60 1 (by omega)
      have a2 := s60 (-1) (by omega)
      rcases hq with rfl | rfl | rfl | rfl | rfl | rfl | rfl | rfl | rfl | rfl | rfl | rfl | rfl
      · exact gd ⟨by simp, by simp, by simp, by simp⟩
      · exact g1 (Good.bl _)
      · exact g1 (Good.bl _)
      · exact gd ⟨by simp, by decide +kernel, by simp, by simp⟩
      · exact gd ⟨by simp, by simp, by simp, by simp⟩
      · exact .inr ⟨_, _, rfl, hlt, cell, by simp, by simp, by simp, by simp⟩
      · exact gi _ (by decide +kernel)
      · exact gi _ (by decide +kernel)
      · exact gi _ (by decide +kernel)
      · exact gi _ (by simpa using a0.1)
      · exact gi _ a1.1
      · exact gi _ (by simpa [Int.sub_eq_add_neg] using a2.2)
      · exact gi _ (by simpa using a0.2)
    have f1 : ∀ μ, fStr [.non] μ = .ok (.str "None") μ := fun _ => rfl
    have fl1 := fl [.non] (by simp)
    have fL := fl L (by rw [hL]; simp)
    clear hq
    have is0 : ∀ μ, fIsi .int [.non] μ = .ok (.bl false) μ := fun _ => rfl
    simp [f1, fl1, p60, ← hL, fL, is0, e2, -Int.reducePow]
    exact ⟨hres, gg⟩
  · obtain ⟨ks, hks, ksm⟩ := str_intX hi
    obtain ⟨L, hL⟩ : ∃ L : List PV, L = [.non, .bl true, .bl false, .str ks, .tup [.int i], .ref m.length, .int (-1), .int 0, .int 1, .int (10 ^ 60), .int (10 ^ 60 + 1), .int (-10 ^ 60 - 1), .int (-10 ^ 60)] := ⟨_, rfl⟩
    obtain ⟨K, hK⟩ : ∃ K : List PV, K = [.int (i + 1), .int (i - 1), .int (0 - i), .int (i + 2), .int (i - 2), .int i] := ⟨_, rfl⟩
    obtain ⟨p, m2, e2, hq, g2⟩ := rsat_ex (dpick_ev (m ++ [.lst [.int i], .lst L, .lst K, .lst (L ++ K)]) (Fam.app hp _) (m.length + 3) (L ++ K) (by omega) (get_new _ _ 3) (by rw [hL]; simp) (by rw [hL, hK]; simp))
    have gg := (Fam.go_app hp [PO.lst [.int i], .lst L, .lst K, .lst (L ++ K)]).trans g2
    have cell : m2[m.length]? = some (.lst [.int i]) := g2.get (get_new m [.lst [.int i], .lst L, .lst K, .lst (L ++ K)] 0) (by rw [deckF_top hp]; exact hlt)
    have gI : Good 1 (.int i) := by simpa using good_n60 hi 0 (by omega)
    have hres : Q1 a m2 p := by
      rw [hL, hK] at hq
      simp only [List.cons_append, List.nil_append, List.mem_cons, List.not_mem_nil, or_false] at hq
      have a0 := s60 0 (by omega)
      have a1 := s60 1 (by omega)
      have a2 := s60 (-1) (by omega)
      rcases hq with rfl | rfl | rfl | rfl | rfl | rfl | rfl | rfl | rfl | rfl | rfl | rfl | rfl | rfl | rfl | rfl | rfl | rfl | rfl
      · exact gd ⟨by simp, by simp, by simp, by simp⟩
      · exact g1 (Good.bl _)
      · exact g1 (Good.bl _)
      · exact gd ⟨by simp, ksm, by simp, by simp⟩
      · exact gd ((Good.tup (Goods.cons gI Goods.nil) (by simp)).mono (by omega))
      · exact .inr ⟨_, _, rfl, hlt, cell, (Goods.cons gI Goods.nil).mono (by omega)⟩
      · exact gi _ (by decide +kernel)
      · exact gi _ (by decide +kernel)
      · exact gi _ (by decide +kernel)
      · exact gi _ (by simpa using a0.1)
      · exact gi _ a1.1
      · exact gi _ (by simpa [Int.sub_eq_add_neg] using a2.2)
      · exact gi _ (by simpa using a0.2)
      · exact g1 (good_n60 hi 1 (by omega))
      · exact g1 (good_n60 hi (-1) (by omega))
      · refine gi _ ?_
        obtain ⟨x, y⟩ := n60_iff.mp hi
        have : M60 = ((10 ^ 60 : Nat) : Int) := by decide +kernel
        unfold sml
        omega
      · exact g1 (good_n60 hi 2 (by omega))
      · exact g1 (good_n60 hi (-2) (by omega))
      · exact g1 gI
    have fl1 := fl [.int i] (by simp)
    have fL := fl L (by rw [hL]; simp)
    have fK := fl K (by rw [hK]; simp)
    have ad : fAdd [.ref (m.length + 1), .ref (m.length + 2)] (m ++ [.lst [.int i], .lst L, .lst K]) = .ok (.ref (m.length + 3)) (m ++ [.lst [.int i], .lst L, .lst K, .lst (L ++ K)]) := by
      have := fAdd_refs (μ := m ++ [.lst [.int i], .lst L, .lst K]) (a := m.length + 1) (b := m.length + 2) (get_new _ _ 1) (get_new _ _ 2) (by rw [hL, hK, hSL]; simp)
      simpa using this
    clear hq
    have is0 : ∀ μ, fIsi .int [.int i] μ = .ok (.bl true) μ := fun _ => rfl
    rw [Int.zero_sub] at hK
    simp [-fAdd_ref, hks, fl1, p60, ← hL, fL, is0, ← hK, fK, ad, e2, -Int.reducePow]
    exact ⟨hres, gg⟩
end Law
end
section
set_option autoImplicit false
/-! Signals bent in one place (k01): plain. -/
namespace Law
open PySem PL
/-- a burst by and large -/
structure BuW (b : Bu) : Prop where
  t : n60 b.tick = true
  o : n60 b.on = true
  f : n60 b.off = true
  n : n60 b.times = true
  on : 1 ≤ b.on
  times : 1 ≤ b.times
  off : 0 ≤ b.off
theorem BuOk.w {b : Bu} (h : BuOk b) : BuW b := ⟨h.t, h.o, h.f, h.n, h.on, h.times, by have := h.off; split at this <;> omega⟩
theorem BuW.m1 {b : Bu} (h : BuW b) : mulOk b.times b.on := mul_ok (by have := n60_iff.mp h.n; omega) h.o
theorem BuW.m2 {b : Bu} (h : BuW b) : mulOk (b.times - 1) b.off := mul_ok (by have := n60_iff.mp h.n; omega) h.f
theorem bw_good {b : Bu} (h : BuW b) : Good 5 b.pv := by
  have g : ∀ {z : Int}, n60 z = true → Good 1 (.int z) := fun hz => by simpa using good_n60 hz 0 (by omega)
  exact Good.tup (Goods.cons (g h.t) (Goods.cons (g h.o) (Goods.cons (g h.f) (Goods.cons (g h.n) Goods.nil)))) (by simp)
/-- a signal's parts, as they are bent -/
structure SB (N : Nat) (V : PV) (u s : Option Int) (bs : List Bu) : Prop where
  eq : V = .tup [opt u, .tup (bs.map Bu.pv), opt s]
  ok : ∀ b ∈ bs, BuW b
  len : bs.length ≤ N
  nu : ∀ z, u = some z → n60 z = true
  ns : ∀ z, s = some z → n60 z = true
theorem opt_good1 {u : Option Int} (h : ∀ z, u = some z → n60 z = true) : Good 1 (opt u) := by
  cases u with
  | none => exact ⟨by simp [opt], by simp [opt], by simp [opt], by simp [opt]⟩
  | some z => simpa [opt] using good_n60 (h z rfl) 0 (by omega)
theorem opt_cases {u : Option Int} (h : ∀ z, u = some z → n60 z = true) : opt u = .non ∨ ∃ i, opt u = .int i ∧ n60 i = true := by
  cases u with
  | none => exact .inl rfl
  | some z => exact .inr ⟨z, rfl, h z rfl⟩
theorem tagV_non {w : Str} {o : Option Nat} {z : PV} (h : tagV w o z = .non) : o = none ∧ z = .non := by
  cases o with
  | none => exact ⟨rfl, h⟩
  | some i => simp [tagV] at h
theorem find_none' {p : Nat → Bool} {n : Nat} (h : (List.range n).find? p = none) : ∀ i, i < n → p i = false := fun i hi => by
  rw [List.find?_eq_none] at h
  simpa using h i (List.mem_range.mpr hi)
theorem err_non {V : PV} (h : errV V = .non) : ∃ (u s : Option Int) (bs : List Bu), V = .tup [opt u, .tup (bs.map Bu.pv), opt s] ∧ (∀ b ∈ bs, BuOk b) ∧ (∀ z, u = some z → n60 z = true) ∧ (∀ z, s = some z → n60 z = true) ∧ bs.length ≤ 100 ∧ ∀ i, i < bs.length → badO u bs i = false := by
  unfold errV at h
  split at h
  · rename_i u l s
    split at h
    · rename_i hc
      simp only [Bool.and_eq_true, decide_eq_true_eq] at hc
      obtain ⟨⟨eu, es⟩, hl⟩ := hc
      obtain ⟨h1, h2⟩ := tagV_non h
      obtain ⟨bs, hbs⟩ := busOf_all (find_none' h1)
      rw [hbs] at h2
      obtain ⟨e1, e2⟩ := busOf_some hbs
      obtain ⟨h3, _⟩ := tagV_non h2
      obtain ⟨u1, u2⟩ := end_opt eu
      obtain ⟨s1, s2⟩ := end_opt es
      refine ⟨optZ u, optZ s, bs, ?_, e2, u2, s2, ?_, find_none' h3⟩
      · rw [← u1, ← s1, e1]
      · rw [e1] at hl; simpa using hl
    · simp at h
  · simp at h
theorem pv_inj {b c : Bu} (h : b.pv = c.pv) : b = c := by
  cases b; cases c
  simp [Bu.pv] at h
  simp [h]
theorem rep_len {α : Type} (n : Nat) (l : List α) : (List.replicate n l).flatten.length = n * l.length := by
  simp
theorem err_many {u s : PV} {L : List PV} (h : errV (.tup [u, .tup (List.replicate 60 L).flatten, s]) = .non) : L = [] := by
  obtain ⟨u', s', bs, e, hok, _, _, hl, hO⟩ := err_non h
  simp only [PV.tup.injEq, List.cons.injEq, and_true] at e
  obtain ⟨_, e, _⟩ := e
  have hln := congrArg List.length e
  rw [rep_len] at hln
  simp only [List.length_map] at hln
  match L, e, hln with
  | [], _, _ => rfl
  | [p], e, hln =>
    simp only [List.length_cons, List.length_nil] at hln
    have e0 := congrArg (fun l => l[0]?) e
    have e1 := congrArg (fun l => l[1]?) e
    have f0 : (List.replicate 60 [p]).flatten[0]? = some p := rfl
    have f1 : (List.replicate 60 [p]).flatten[1]? = some p := rfl
    simp only [f0, f1, List.getElem?_map] at e0 e1
    obtain ⟨b0, h0, g0⟩ := Option.map_eq_some_iff.mp e0.symm
    obtain ⟨b1, h1, g1⟩ := Option.map_eq_some_iff.mp e1.symm
    have hbb : b0 = b1 := pv_inj (g0.trans g1.symm)
    subst hbb
    have := hO 1 (by omega)
    have hb := hok b0 (List.mem_of_getElem? h0)
    have ea : aheadAt u' bs 1 = some b0.end := by
      show (bs[0]?).map Bu.end = _
      rw [h0]
      rfl
    unfold badO at this
    rw [ea, h1] at this
    simp only [decide_eq_false_iff_not] at this
    exfalso
    apply this
    have i1 := hb.on
    have i2 := hb.times
    have i3 : 0 ≤ b0.off := by have := hb.off; split at this <;> omega
    have k1 : 0 ≤ b0.times * b0.on := Int.mul_nonneg (by omega) (by omega)
    have k2 : 0 ≤ (b0.times - 1) * b0.off := Int.mul_nonneg (by omega) (by omega)
    show b0.tick ≤ b0.tick + b0.times * b0.on + (b0.times - 1) * b0.off
    omega
  | p :: q :: l, e, hln => simp only [List.length_cons] at hln; omega
theorem goods_of {k : Nat} : ∀ {l : List PV}, (∀ x ∈ l, Good k x ∧ x.pd.depth ≤ 2) → Goods (k * l.length) l ∧ PyData.depthAll (PV.pds l) ≤ 2
  | [], _ => ⟨Goods.nil, by simp⟩
  | x :: l, h => by
    obtain ⟨g, d⟩ := goods_of (l := l) fun y hy => h y (by simp [hy])
    obtain ⟨h1, h2⟩ := h x (by simp)
    refine ⟨(Goods.cons h1 g).mono (by simp [Nat.mul_add]; omega), ?_⟩
    simp
    omega
theorem cut_midX {l : List PV} {a b : Int} (ha : 0 ≤ a) (hb : a ≤ b) (hl : b ≤ l.length) : PL.cut l (some a) (some b) = (l.drop a.toNat).take (b - a).toNat := by
  have ea : a = ((a.toNat : Nat) : Int) := by omega
  have eb : b = ((b.toNat : Nat) : Int) := by omega
  unfold PL.cut
  have h1 : sIx l.length 0 (some a) = a.toNat := by
    rw [ea]; unfold sIx; simp only; split <;> omega
  have h2 : sIx l.length l.length (some b) = b.toNat := by
    rw [eb]; unfold sIx; simp only; split <;> omega
  rw [h1, h2]
  congr 1
  omega
end Law
end
section
set_option autoImplicit false
/-! Signals bent in one place (k01): run. -/
namespace Law
open PySem PL
theorem bent_ev {j a N : Nat} (hN : 5 ≤ N ∧ N ≤ 10) (m : Mem) (hp : (deckF j a).inv m) {V : PV} {u s : Option Int} {bs : List Bu} (h : SB N V u s bs) : (m__law_bent [.ref j, V] m).sat fun q m' => VV (N + 2) a m' q ∧ (deckF j a).Go m m' := by
  refine fn_sat (P := fun q m' => VV (N + 2) a m' q ∧ (deckF j a).Go m m') ?_ (fun p m' ⟨h1, h2⟩ h3 h4 => ⟨h1.take h4, h2.take hp⟩)
  apply run_sat
  unfold b__law_bent
  simp only [List.map_cons, List.map_nil, List.length_cons, List.length_nil, List.replicate, List.cons_append, List.nil_append, Nat.reduceAdd, Nat.reduceSub]
  have hlt := deck_lt hp
  have htop := deckF_top hp
  have hSL : SL = 16777216 := rfl
  obtain ⟨hV, hok, hlen, hnu, hns⟩ := h
  obtain ⟨L, hL⟩ : ∃ L, L = bs.map Bu.pv := ⟨_, rfl⟩
  obtain ⟨U, hU⟩ : ∃ U, U = opt u := ⟨_, rfl⟩
  obtain ⟨S, hS⟩ : ∃ S, S = opt s := ⟨_, rfl⟩
  rw [← hL, ← hU, ← hS] at hV
  subst hV
  have hLl : L.length = bs.length := by rw [hL]; simp
  have g5L : ∀ x ∈ L, Good 5 x ∧ x.pd.depth ≤ 2 := fun x hx => by
    rw [hL] at hx
    obtain ⟨b, hb, rfl⟩ := List.mem_map.mp hx
    exact ⟨bw_good (hok b hb), by simp [Bu.pv]⟩
  have gU : Good 1 U := by rw [hU]; exact opt_good1 hnu
  have gS : Good 1 S := by rw [hS]; exact opt_good1 hns
  have cU : U = .non ∨ ∃ i, U = .int i ∧ n60 i = true := by rw [hU]; exact opt_cases hnu
  have cS : S = .non ∨ ∃ i, S = .int i ∧ n60 i = true := by rw [hS]; exact opt_cases hns
  obtain ⟨gL, dL⟩ := goods_of g5L
  have q1U : ∀ m', Q1 a m' U := fun _ => .inl (gU.mono (by omega))
  have q1S : ∀ m', Q1 a m' S := fun _ => .inl (gS.mono (by omega))
  have bvL : ∀ m' x, x ∈ L → BV a m' x := fun m' x hx => .inl (.inl ((g5L x hx).1.mono (by omega)))
  have depU : U.pd.depth ≤ 1 := by rcases cU with h | ⟨i, h, _⟩ <;> rw [h] <;> simp
  have depS : S.pd.depth ≤ 1 := by rcases cS with h | ⟨i, h, _⟩ <;> rw [h] <;> simp
  have gB : Good (5 * L.length + 1) (.tup L) := Good.tup gL (by omega)
  have gB' : Good 60 (.tup L) := gB.mono (by omega)
  have depB : (PV.tup L).pd.depth ≤ 3 := by simp; omega
  have hLb : ∀ k, k < L.length → ∃ b, BuW b ∧ L[k]? = some b.pv := fun k hk => by
    obtain ⟨b, hb⟩ : ∃ b, bs[k]? = some b := ⟨bs[k], List.getElem?_eq_getElem (by omega)⟩
    exact ⟨b, hok b (List.mem_of_getElem? hb), by rw [hL, List.getElem?_map, hb]; rfl⟩
  clear hL hU hS
  refine seq_sat (fun e m' => m' = m ∧ e = [some (.ref j), some (.tup [U, .tup L, S]), none, none, none, some U, some (.tup L), some S, none, none, none, none, none, none, none, none]) (by simp) ?_
  rintro e m0 ⟨rfl, rfl⟩
  refine seq_sat (fun e m1 => (deckF j a).Go m0 m1 ∧ ∃ way : Int, e = [some (.ref j), some (.tup [U, .tup L, S]), some (.int way), none, none, some U, some (.tup L), some S, none, none, none, none, none, none, none, none]) ?_ ?_
  · obtain ⟨p, m1, e1, ⟨z, rfl, z0, z1⟩, g1⟩ := rsat_ex (ddraw_ev m0 hp 10 (by omega))
    simp [e1]
    exact g1
  rintro e m1 ⟨g1, way, rfl⟩
  have hl1 := deck_lt g1.i
  have fl : ∀ (K : List PV), K.length ≤ 100 → ∀ μ, fLst K μ = .ok (.ref μ.length) (μ ++ [.lst K]) := fun K hK μ => by
    have : K.length ≤ SL := by omega
    simp only [fLst]
    rw [if_pos this]
    rfl
  have fli : ∀ (K : List PV) μ, fList [.tup K] μ = .ok (.ref μ.length) (μ ++ [.lst K]) := fun K μ => rfl
  have ad : ∀ (A B : List PV), A.length ≤ 100 → B.length ≤ 100 → ∀ μ, fAdd [.tup A, .tup B] μ = .ok (.tup (A ++ B)) μ := fun A B h1 h2 μ => fAdd_tup μ (by omega)
  have ix : ∀ (K : List PV) (k : Nat) (p : PV), K[k]? = some p → ∀ μ, fIx [.tup K, .int (k : Nat)] μ = .ok p μ := fun K k p h μ => by rw [fIx_tup]; exact ixOf_nat μ h
  have mk3 : ∀ {m' : Mem} {l : List PV}, l.length ≤ N + 2 → (∀ x ∈ l, BV a m' x) → VV (N + 2) a m' (.tup [U, .tup l, S]) := fun hl hB => .sig U S _ rfl (q1U _) (q1S _) hl hB
  -- the whole exchanged
  refine seq_sat2 (fun e m => m = m1 ∧ way ≠ 0 ∧ e = [some (.ref j), some (.tup [U, .tup L, S]), some (.int way), none, none, some U, some (.tup L), some S, none, none, none, none, none, none, none, none]) ?_ ?_
  · by_cases cw : way = 0
    · subst cw
      obtain ⟨K, hK⟩ : ∃ K : List PV, K = [.ref m1.length, .tup [U, .tup L], .tup [U, .tup L, S, .non], .non, .str "on", .tup [], .ref (m1.length + 1), .tup [U, .ref (m1.length + 2), S], .tup L] := ⟨_, rfl⟩
      obtain ⟨R, hR⟩ : ∃ R : List PV, R = (List.replicate 60 L).flatten := ⟨_, rfl⟩
      have hRl : R.length = 60 * L.length := by rw [hR, rep_len]
      have gR : Goods (5 * R.length) R ∧ PyData.depthAll (PV.pds R) ≤ 2 := goods_of fun x hx => by
        rw [hR] at hx
        simp only [List.mem_flatten, List.mem_replicate] at hx
        obtain ⟨l, ⟨_, rfl⟩, hx⟩ := hx
        exact g5L x hx
      obtain ⟨K2, hK2⟩ : ∃ K : List PV, K = [.tup [U, .non, S], .tup [U, .tup R, S], .tup [U, .tup [.tup L], S]] := ⟨_, rfl⟩
      have lK : K.length = 9 := by rw [hK]; rfl
      have lK2 : K2.length = 3 := by rw [hK2]; rfl
      obtain ⟨X, hX⟩ : ∃ X : List PO, X = [.lst [U, .tup L, S], .dct [], .lst L, .lst K, .lst K2, .lst (K ++ K2)] := ⟨_, rfl⟩
      obtain ⟨p, m2, e2, hq, g2⟩ := rsat_ex (dpick_ev (m1 ++ X) (Fam.app g1.i _) (m1.length + 5) (K ++ K2) (by omega) (by rw [hX]; exact get_new _ _ 5) (by simp; omega) (by simp; omega))
      have gg := (g1.app X).trans g2
      have htop2 : (deckF j a).top = a := htop
      have hres : VV (N + 2) a m2 p := by
        have c0 : m2[m1.length]? = some (.lst [U, .tup L, S]) := g2.get (by rw [hX]; exact get_new m1 _ 0) (by omega)
        have c1 : m2[m1.length + 1]? = some (.dct []) := g2.get (by rw [hX]; exact get_new m1 _ 1) (by omega)
        have c2 : m2[m1.length + 2]? = some (.lst L) := g2.get (by rw [hX]; exact get_new m1 _ 2) (by omega)
        have sh : ∀ {V : PV} {k : Nat}, Good k V → k ≤ 4000 → (∀ u l s, V = .tup [u, .tup l, s] → errV V = .non → l.length ≤ N + 2) → VV (N + 2) a m2 V := fun h hk hs => .dat (h.mono hk) fun e u l s r => hs u l s r e
        rw [hK, hK2] at hq
        simp only [List.cons_append, List.nil_append, List.mem_cons, List.not_mem_nil, or_false] at hq
        rcases hq with rfl | rfl | rfl | rfl | rfl | rfl | rfl | rfl | rfl | rfl | rfl | rfl
        · exact .lst _ _ rfl (by omega) c0 ((Goods.cons gU (Goods.cons gB' (Goods.cons gS Goods.nil))).mono (by omega))
        · exact sh (Good.tup (Goods.cons gU (Goods.cons gB' Goods.nil)) (by simp; omega)) (by omega) fun _ _ _ e => by simp at e
        · exact sh (Good.tup (Goods.cons gU (Goods.cons gB' (Goods.cons gS (Goods.cons (k := 1) (j := 0) (p := .non) ⟨by simp, by simp, by simp, by simp⟩ Goods.nil)))) (by simp; omega)) (by omega) fun _ _ _ e => by simp at e
        · exact sh (k := 1) ⟨by simp, by simp, by simp, by simp⟩ (by omega) fun _ _ _ e => by simp at e
        · exact sh (k := 1) ⟨by simp, by decide +kernel, by simp, by simp⟩ (by omega) fun _ _ _ e => by simp at e
        · exact sh (k := 1) ⟨by simp, by simp, by simp, by simp⟩ (by omega) fun _ _ _ e => by simp at e
        · exact .dct _ rfl (by omega) c1
        · exact .mid U S _ L rfl (gU.mono (by omega)) (gS.mono (by omega)) (by omega) c2 (gL.mono (by omega))
        · refine sh gB' (by omega) fun u l s e h => ?_
          simp only [PV.tup.injEq] at e
          rw [e] at h
          obtain ⟨u', s', bs', e', _⟩ := err_non h
          simp only [PV.tup.injEq, List.cons.injEq, and_true] at e'
          have := (g5L (.tup l) (by rw [e]; simp)).1.wt
          have hw : ∀ l : List PV, l.length ≤ PyData.wts (PV.pds l) := fun l => by
            induction l with
            | nil => simp
            | cons x l ih => simp only [pds_cons, wts_cons, List.length_cons]; have := wt_pos x.pd; omega
          have := hw l
          simp at *
          omega
        · exact sh (Good.tup (Goods.cons gU (Goods.cons (k := 1) (j := 1) (p := .non) ⟨by simp, by simp, by simp, by simp⟩ ((Goods.cons gS Goods.nil).mono (by omega)))) (by simp; omega)) (by omega) fun _ _ _ e => by simp at e
        · refine sh (k := 3100) ((Good.tup (Goods.cons gU (Goods.cons (Good.tup gR.1 (by omega)) (Goods.cons gS Goods.nil))) (by simp; omega)).mono (by omega)) (by omega) fun u l s e h => ?_
          simp only [PV.tup.injEq, List.cons.injEq, and_true] at e
          obtain ⟨_, e, _⟩ := e
          rw [hR] at h
          have := err_many h
          rw [← e, hRl, this]
          simp
        · refine sh (Good.tup (Goods.cons gU (Goods.cons (Good.tup (Goods.cons gB' Goods.nil) (by simp; omega)) (Goods.cons gS Goods.nil))) (by simp; omega)) (by omega) fun u l s e h => ?_
          simp only [PV.tup.injEq, List.cons.injEq, and_true] at e
          rw [← e.2.1]
          simp
      have sl2 : ∀ μ, fSl [.tup [U, .tup L, S], .non, .int 2] μ = .ok (.tup [U, .tup L]) μ := fun μ => by rw [fSl_tup01, cut_toI _ (by decide)]; rfl
      have ad1 := ad [U, .tup L, S] [.non] (by simp) (by simp)
      have mu : ∀ μ, fMulT [.tup L, .int 60] μ = .ok (.tup R) μ := fun μ => by
        simp only [fMulT]
        rw [if_pos ⟨by omega, by omega, by omega⟩, hR]
        rfl
      have f1 := fli [U, .tup L, S]
      have f2 := fli L
      have fK := fl K (by omega)
      have fK2 := fl K2 (by omega)
      have adK : fAdd [.ref (m1.length + 3), .ref (m1.length + 4)] (m1 ++ [.lst [U, .tup L, S], .dct [], .lst L, .lst K, .lst K2]) = .ok (.ref (m1.length + 5)) (m1 ++ X) := by
        have := fAdd_refs (μ := m1 ++ [.lst [U, .tup L, S], .dct [], .lst L, .lst K, .lst K2]) (a := m1.length + 3) (b := m1.length + 4) (get_new _ _ 3) (get_new _ _ 4) (by omega)
        rw [hX]
        simpa using this
      clear hq
      simp [-fAdd_ref, -fSl_tup01, f1, sl2, ad1, f2, ← hK, fK, mu, ← hK2, fK2, adK, e2]
      exact ⟨hres, gg⟩
    · simp [cw]
  rintro e m' ⟨rfl, cw0, rfl⟩
  have fe : ∀ μ, fEq [.tup L, .tup []] μ = .ok (.bl (decide (L = []))) μ := fun μ => by
    have d0 : D0 (.tup L) := ⟨gB.data, gB.sm, by have := gB.dp; omega, by have := gB.wt; omega⟩
    have n0 : D0 (.tup []) := ⟨by simp, by simp, by simp, by simp⟩
    have := d0_eq (p := .tup L) (q := .tup []) rfl d0 n0 μ
    rw [this]
    cases L with
    | nil => simp [PyData.eqv, PyData.eqvAll]
    | cons b bs => simp [PV.pd, PyData.eqv, PyData.eqvAll]
  -- an end exchanged
  refine seq_sat2 (fun e m => m = m' ∧ L ≠ [] ∧ e = [some (.ref j), some (.tup [U, .tup L, S]), some (.int way), none, none, some U, some (.tup L), some S, none, none, none, none, none, none, none, none]) ?_ ?_
  · have body : (PL.seq (PL.cond (app2 fEq (app m__law_draw (ac (v 0) (ac (c (.int 2)) an))) (c (.int 0)))
    (ret (app fTup (ac (app m__law_odd_item (ac (v 0) (ac (v 5) an))) (ac (v 6) (ac (v 7) an)))))
    skip)
   (ret (app fTup (ac (v 5) (ac (v 6) (ac (app m__law_odd_item (ac (v 0) (ac (v 7) an))) an)))))
   [some (.ref j), some (.tup [U, .tup L, S]), some (.int way), none, none, some U, some (.tup L), some S, none, none, none, none, none, none, none, none] m').sat { rt := fun q m2 => VV (N + 2) a m2 q ∧ (deckF j a).Go m0 m2 } := by
      obtain ⟨p, m2, e2, ⟨z, rfl, z0, z1⟩, g2⟩ := rsat_ex (ddraw_ev m' g1.i 2 (by omega))
      have g12 := g1.trans g2
      obtain ⟨q, m3, e3, hq3, g3⟩ := rsat_ex (odd_item_ev m2 g12.i cU)
      obtain ⟨r, m4, e4, hq4, g4⟩ := rsat_ex (odd_item_ev m2 g12.i cS)
      have r3 : VV (N + 2) a m3 (.tup [q, .tup L, S]) := .sig q S L rfl hq3 (q1S _) (by omega) (bvL _)
      have r4 : VV (N + 2) a m4 (.tup [U, .tup L, r]) := .sig U r L rfl (q1U _) hq4 (by omega) (bvL _)
      have gg3 := g12.trans g3
      have gg4 := g12.trans g4
      by_cases cz : z = 0
      · subst cz
        simp [e2, e3]
        exact ⟨r3, gg3⟩
      · simp [e2, cz, e4]
        exact ⟨r4, gg4⟩
    have ht : (PL.or (app2 fLt (v 2) (c (.int 3))) (app2 fEq (v 6) (app fTup an))) [some (.ref j), some (.tup [U, .tup L, S]), some (.int way), none, none, some U, some (.tup L), some S, none, none, none, none, none, none, none, none] m' = .ok (.bl (decide (way < 3) || decide (L = []))) m' := by
      by_cases cw : way < 3
      · simp [cw]
      · simp [cw, fe]
    rw [cond_ev, ht]
    by_cases cw : (decide (way < 3) || decide (L = [])) = true
    · rw [cw]
      exact sat_imp body (fun _ _ h => h.elim) (fun _ _ h => h) (fun _ _ h => h.elim) (fun _ _ h => h.elim)
    · rw [Bool.not_eq_true] at cw
      rw [cw]
      have : ¬ L = [] := by simp at cw; exact cw.2
      simp [this]
  rintro e m' ⟨rfl, hne, rfl⟩
  have hL0 : 0 < L.length := by cases L with | nil => exact absurd rfl hne | cons x l => simp
  refine seq_sat (fun e m1 => (deckF j a).Go m0 m1 ∧ ∃ k : Nat, k < L.length ∧ e = [some (.ref j), some (.tup [U, .tup L, S]), some (.int way), some (.int (k : Nat)), none, some U, some (.tup L), some S, none, none, none, none, none, none, none, none]) ?_ ?_
  · have le : ∀ μ, fLen [.tup L] μ = .ok (.int (L.length : Nat)) μ := fun μ => by simp
    obtain ⟨p, m2, e2, ⟨z, rfl, z0, z1⟩, g2⟩ := rsat_ex (ddraw_ev m' g1.i (L.length : Nat) (Int.lt_of_le_of_lt (show ((L.length : Nat) : Int) ≤ 10 by omega) (by decide)))
    simp [le, e2]
    exact ⟨g1.trans g2, z.toNat, by omega, by omega⟩
  clear g1 hl1
  rintro e m1 ⟨g1, k, hk, rfl⟩
  have hl1 := deck_lt g1.i
  obtain ⟨b, hb, hbk⟩ := hLb k hk
  obtain ⟨P4, hP4⟩ : ∃ P4 : List PV, P4 = [.int b.tick, .int b.on, .int b.off, .int b.times] := ⟨_, rfl⟩
  have hbp : b.pv = .tup P4 := by rw [hP4]; rfl
  have lP4 : P4.length = 4 := by rw [hP4]; rfl
  have ixP : ∀ μ, fIx [.tup L, .int (k : Nat)] μ = .ok (.tup P4) μ := ix L k _ (by rw [hbk, hbp])
  have st : ∀ μ, fSl [.tup L, .non, .int (k : Nat)] μ = .ok (.tup (L.take k)) μ := fun μ => by rw [fSl_tup01, cut_to]
  have sf : ∀ μ, fSl [.tup L, .int ((k : Int) + 1), .non] μ = .ok (.tup (L.drop (k + 1))) μ := fun μ => by
    have e : (k : Int) + 1 = ((k + 1 : Nat) : Int) := by omega
    rw [fSl_tup10, e, cut_from]
  have lt1 : (L.take k).length = k := by rw [List.length_take]; omega
  have ld1 : (L.drop (k + 1)).length = L.length - (k + 1) := by rw [List.length_drop]
  have mT : ∀ m' x, x ∈ L.take k → BV a m' x := fun m' x hx => bvL m' x (List.mem_of_mem_take hx)
  have mD : ∀ m' x, x ∈ L.drop (k + 1) → BV a m' x := fun m' x hx => bvL m' x (List.mem_of_mem_drop hx)
  have all3 : ∀ {m' : Mem} {M : List PV}, M.length ≤ 2 → (∀ x ∈ M, BV a m' x) → VV (N + 2) a m' (.tup [U, .tup (L.take k ++ M ++ L.drop (k + 1)), S]) := fun hM hx => mk3 (by simp; omega) fun x hx' => by
    rcases List.mem_append.mp hx' with h | h
    · rcases List.mem_append.mp h with h | h
      · exact mT _ x h
      · exact hx x h
    · exact mD _ x h
  have ad3 : ∀ (M : List PV), M.length ≤ 2 → (∀ μ, fAdd [.tup (L.take k), .tup M] μ = .ok (.tup (L.take k ++ M)) μ) ∧ ∀ μ, fAdd [.tup (L.take k ++ M), .tup (L.drop (k + 1))] μ = .ok (.tup (L.take k ++ M ++ L.drop (k + 1))) μ := fun M hM => ⟨ad _ _ (by omega) (by omega), ad _ _ (by simp; omega) (by omega)⟩
  have gt : Good 1 (.int b.tick) := by simpa using good_n60 hb.t 0 (by omega)
  have go : Good 1 (.int b.on) := by simpa using good_n60 hb.o 0 (by omega)
  have gf : Good 1 (.int b.off) := by simpa using good_n60 hb.f 0 (by omega)
  have gn : Good 1 (.int b.times) := by simpa using good_n60 hb.n 0 (by omega)
  have gP4 : Goods 4 P4 := by rw [hP4]; exact (Goods.cons gt (Goods.cons go (Goods.cons gf (Goods.cons gn Goods.nil)))).mono (by omega)
  have d0i : ∀ i : Int, (PV.int i).pd.depth = 0 := fun i => by simp
  have q1 : ∀ {m' : Mem} {q : PV}, Good 6 q → BV a m' q := fun h => .inl (.inl (h.mono (by omega)))
  have gP : Good 5 (.tup P4) := Good.tup gP4 (by rw [hP4]; simp)
  -- a burst exchanged
  refine seq_sat2 (fun e m => m = m1 ∧ way ≠ 3 ∧ e = [some (.ref j), some (.tup [U, .tup L, S]), some (.int way), some (.int (k : Nat)), none, some U, some (.tup L), some S, none, none, none, none, none, none, none, none]) ?_ ?_
  · by_cases cw : way = 3
    · subst cw
      obtain ⟨K, hK⟩ : ∃ K : List PV, K = [.ref m1.length, .tup [.int b.tick, .int b.on, .int b.off], .tup (P4 ++ [.int 0]), .non, .int 7, .tup [], .int b.tick] := ⟨_, rfl⟩
      have lK : K.length = 7 := by rw [hK]; rfl
      obtain ⟨p, m2, e2, hq, g2⟩ := rsat_ex (dpick_ev (m1 ++ [.lst P4, .lst K]) (Fam.app g1.i _) (m1.length + 1) K (by omega) (get_new _ _ 1) (by omega) (by omega))
      have gg := (g1.app [.lst P4, .lst K]).trans g2
      have hp : BV a m2 p := by
        have c0 : m2[m1.length]? = some (.lst P4) := g2.get (get_new m1 [.lst P4, .lst K] 0) (by omega)
        rw [hK] at hq
        simp only [List.mem_cons, List.not_mem_nil, or_false] at hq
        rcases hq with rfl | rfl | rfl | rfl | rfl | rfl | rfl
        · exact .inl (.inr ⟨_, _, rfl, by omega, c0, gP4.mono (by omega)⟩)
        · exact q1 ((Good.tup (Goods.cons gt (Goods.cons go (Goods.cons gf Goods.nil))) (by simp)).mono (by omega))
        · rw [hP4]
          exact q1 ((Good.tup (Goods.cons gt (Goods.cons go (Goods.cons gf (Goods.cons gn (Goods.cons (Good.int (i := 0) (by decide +kernel)) Goods.nil))))) (by simp)).mono (by omega))
        · exact q1 ⟨by simp, by simp, by simp, by simp⟩
        · exact q1 ((Good.int (i := 7) (by decide +kernel)).mono (by omega))
        · exact q1 ⟨by simp, by simp, by simp, by simp⟩
        · exact q1 (gt.mono (by omega))
      have hres := all3 (m' := m2) (M := [p]) (by simp) (fun x hx => by rw [List.mem_singleton] at hx; rw [hx]; exact hp)
      obtain ⟨a1, a2⟩ := ad3 [p] (by simp)
      have f1 := fli P4
      have s3 : ∀ μ, fSl [.tup P4, .non, .int 3] μ = .ok (.tup [.int b.tick, .int b.on, .int b.off]) μ := fun μ => by rw [fSl_tup01, cut_toI _ (by decide), hP4]; rfl
      have a0 := ad P4 [.int 0] (by omega) (by simp)
      have i0 : ∀ μ, fIx [.tup P4, .int 0] μ = .ok (.int b.tick) μ := fun μ => ix P4 0 _ (by rw [hP4]; rfl) μ
      have fK := fl K (by omega)
      clear hq
      generalize L.take k ++ [p] ++ L.drop (k + 1) = T1 at *
      generalize L.take k ++ [p] = T2 at *
      generalize L.take k = T3 at *
      generalize L.drop (k + 1) = T4 at *
      simp [-fSl_tup01, -fSl_tup10, -fIx_tup, ixP, f1, s3, a0, i0, ← hK, fK, e2, st, sf, a1, a2]
      exact ⟨hres, gg⟩
    · simp [cw]
  rintro e m' ⟨rfl, cw3, rfl⟩
  -- a burst left out
  refine seq_sat2 (fun e m => m = m' ∧ way ≠ 4 ∧ e = [some (.ref j), some (.tup [U, .tup L, S]), some (.int way), some (.int (k : Nat)), none, some U, some (.tup L), some S, none, none, none, none, none, none, none, none]) ?_ ?_
  · by_cases cw : way = 4
    · subst cw
      have hres := all3 (m' := m') (M := []) (by simp) (fun x hx => nomatch hx)
      have a1 := ad (L.take k) (L.drop (k + 1)) (by omega) (by omega)
      rw [List.append_nil] at hres
      generalize L.take k ++ L.drop (k + 1) = T1 at *
      generalize L.take k = T3 at *
      generalize L.drop (k + 1) = T4 at *
      simp [-fSl_tup01, -fSl_tup10, st, sf, a1]
      exact ⟨hres, g1⟩
    · simp [cw]
  rintro e m' ⟨rfl, cw4, rfl⟩
  -- a burst twice
  refine seq_sat2 (fun e m => m = m' ∧ way ≠ 5 ∧ e = [some (.ref j), some (.tup [U, .tup L, S]), some (.int way), some (.int (k : Nat)), none, some U, some (.tup L), some S, none, none, none, none, none, none, none, none]) ?_ ?_
  · by_cases cw : way = 5
    · subst cw
      have hres := all3 (m' := m') (M := [.tup P4, .tup P4]) (by simp) (fun x hx => by simp at hx; rw [hx]; exact q1 (gP.mono (by omega)))
      obtain ⟨a1, a2⟩ := ad3 [.tup P4, .tup P4] (by simp)
      have s1 : ∀ μ, fSl [.tup L, .int (k : Nat), .int ((k : Int) + 1)] μ = .ok (.tup [.tup P4]) μ := fun μ => by
        rw [fSl_tup11, cut_midX (by omega) (by omega) (by omega)]
        have e1 : ((k : Nat) : Int).toNat = k := by omega
        have e2 : ((k : Int) + 1 - k).toNat = 1 := by omega
        rw [e1, e2]
        have : L.drop k = .tup P4 :: L.drop (k + 1) := by
          rw [List.drop_eq_getElem_cons hk]
          have := (List.getElem?_eq_some_iff.mp hbk).2
          rw [this, hbp]
        rw [this]
        rfl
      have mu : ∀ μ, fMul [.tup [.tup P4], .int 2] μ = .ok (.tup [.tup P4, .tup P4]) μ := fun μ => by
        simp only [fMul]
        rw [if_pos ⟨by simp, by omega, by omega, by simp⟩]
        rfl
      generalize L.take k ++ [.tup P4, .tup P4] ++ L.drop (k + 1) = T1 at *
      generalize L.take k ++ [.tup P4, .tup P4] = T2 at *
      generalize L.take k = T3 at *
      generalize L.drop (k + 1) = T4 at *
      simp [-fSl_tup01, -fSl_tup10, -fSl_tup11, st, sf, s1, mu, a1, a2]
      exact ⟨hres, g1⟩
    · simp [cw]
  rintro e m' ⟨rfl, cw5, rfl⟩
  -- a burst parted, or one more
  refine seq_sat2 (fun e m => m = m' ∧ e = [some (.ref j), some (.tup [U, .tup L, S]), some (.int way), some (.int (k : Nat)), none, some U, some (.tup L), some S, none, none, none, none, none, none, none, none]) ?_ ?_
  · by_cases cw : way > 7
    · obtain ⟨t1, t2⟩ := n60_iff.mp hb.t
      obtain ⟨o1, o2⟩ := n60_iff.mp hb.o
      obtain ⟨f1, f2⟩ := n60_iff.mp hb.f
      obtain ⟨n1, n2⟩ := n60_iff.mp hb.n
      have mo1 := hb.m1
      have mo2 := hb.m2
      obtain ⟨Q, hQ⟩ : ∃ Q, Q = M60 * M60 := ⟨_, rfl⟩
      have big : ∀ z : Int, -(5 * Q) ≤ z → z ≤ 5 * Q → sml z := fun z h1 h2 => by
        have e : 5 * Q = ((5 * 10 ^ 120 : Nat) : Int) := by rw [hQ]; decide +kernel
        have : (5 * 10 ^ 120 : Nat) ≤ 10 ^ 200 := by decide +kernel
        unfold sml
        omega
      have e60 : M60 * 2 ≤ Q := by rw [hQ]; decide +kernel
      have p1 : 0 ≤ b.times * b.on ∧ b.times * b.on ≤ Q := by
        rw [hQ]
        have h1 := hb.on; have h2 := hb.times
        exact ⟨Int.mul_nonneg (by omega) (by omega), Int.mul_le_mul n2 o2 (by omega) (by decide +kernel)⟩
      have off0 : 0 ≤ b.off := hb.off
      have p2 : 0 ≤ (b.times - 1) * b.off ∧ (b.times - 1) * b.off ≤ Q := by
        rw [hQ]
        have h2 := hb.times
        exact ⟨Int.mul_nonneg (by omega) off0, Int.mul_le_mul (by omega) f2 off0 (by decide +kernel)⟩
      obtain ⟨bh, hbh⟩ : ∃ z, z = b.tick + b.times * b.on + (b.times - 1) * b.off := ⟨_, rfl⟩
      have ht : (app2 fGt (v 2) (c (.int 7))) [some (.ref j), some (.tup [U, .tup L, S]), some (.int way), some (.int (k : Nat)), none, some U, some (.tup L), some S, none, none, none, none, none, none, none, none] m' = .ok (.bl true) m' := by
        simp
        exact cw
      rw [cond_ev, ht]
      simp only [Out.of_ok]
      refine (onS_sat true _ _ _).mpr ⟨fun _ => ?_, fun h => nomatch h⟩
      refine seq_sat (fun e m => m = m' ∧ e = [some (.ref j), some (.tup [U, .tup L, S]), some (.int way), some (.int (k : Nat)), none, some U, some (.tup L), some S, none, none, none, none, some (.int b.tick), some (.int b.on), some (.int b.off), some (.int b.times)]) ?_ ?_
      · have ttP : ∀ (r : Tgs) (env : PL.Env) (μ : Mem), tt 4 r (.tup P4) env μ = r [.int b.tick, .int b.on, .int b.off, .int b.times] env μ := fun r env μ => by rw [← hbp]; exact tt_b b r env μ
        simp [-fIx_tup, ixP, ttP, cw]
      rintro e m ⟨rfl, rfl⟩
      refine seq_sat (fun e m2 => m2 = m ∧ e = [some (.ref j), some (.tup [U, .tup L, S]), some (.int way), some (.int (k : Nat)), none, some U, some (.tup L), some S, none, some (.int bh), none, none, some (.int b.tick), some (.int b.on), some (.int b.off), some (.int b.times)]) ?_ ?_
      · simp [mo1, mo2, hbh]
      rintro e m ⟨rfl, rfl⟩
      have hE : b.tick + b.on + b.off ≤ 3 * M60 ∧ -(3 * M60) ≤ b.tick + b.on + b.off := by omega
      have hon := hb.on
      have gEq : Good 1 (.int (b.tick + b.on + b.off)) := Good.int (big _ (by omega) (by omega))
      have gN1 : Good 1 (.int (b.times - 1)) := Good.int (big _ (by omega) (by omega))
      have g0 : Good 1 (.int 0) := Good.int (by decide +kernel)
      have g11 : Good 1 (.int 1) := Good.int (by decide +kernel)
      have g4 : ∀ {x y z w : Int}, Good 1 (.int x) → Good 1 (.int y) → Good 1 (.int z) → Good 1 (.int w) → Good 6 (.tup [.int x, .int y, .int z, .int w]) := fun a b c d => (Good.tup (Goods.cons a (Goods.cons b (Goods.cons c (Goods.cons d Goods.nil)))) (by simp)).mono (by omega)
      refine seq_sat (fun e m2 => m2 = m ∧ ∃ A B : PV, Good 6 A ∧ Good 6 B ∧ e = [some (.ref j), some (.tup [U, .tup L, S]), some (.int way), some (.int (k : Nat)), none, some U, some (.tup L), some S, none, some (.int bh), some (.tup [A, B]), none, some (.int b.tick), some (.int b.on), some (.int b.off), some (.int b.times)]) ?_ ?_
      · have hA := g4 gt go g0 g11
        by_cases c2 : b.times > 2
        · have hB := g4 gEq go gf gN1
          simp [c2]
          exact ⟨hA, hB⟩
        · have hB := g4 gEq go g0 gN1
          simp [c2]
          exact ⟨hA, hB⟩
      rintro e m ⟨rfl, A, B, hA, hB, rfl⟩
      refine seq_sat (fun e m2 => (deckF j a).Go m0 m2 ∧ ∃ A B : PV, Good 6 A ∧ Good 6 B ∧ e = [some (.ref j), some (.tup [U, .tup L, S]), some (.int way), some (.int (k : Nat)), none, some U, some (.tup L), some S, none, some (.int bh), some (.tup [A, B]), none, some (.int b.tick), some (.int b.on), some (.int b.off), some (.int b.times)]) ?_ ?_
      · by_cases c1 : b.times = 1
        · obtain ⟨p, m2, e2, ⟨z, rfl, z0, z1⟩, g2⟩ := rsat_ex (ddraw_ev m g1.i 2 (by omega))
          have gg := g1.trans g2
          have gZ : Good 1 (.int (bh + 1 + z)) := Good.int (big _ (by omega) (by omega))
          have hB2 := g4 gZ go g0 g11
          simp [-fIx_tup, ixP, c1, e2]
          exact ⟨gg, gP.mono (by omega), hB2⟩
        · simp [c1]
          exact ⟨g1, hA, hB⟩
      rintro e m2 ⟨g2, A, B, hA, hB, rfl⟩
      have hres := all3 (m' := m2) (M := [A, B]) (by simp) (fun x hx => by
        simp only [List.mem_cons, List.not_mem_nil, or_false] at hx
        rcases hx with rfl | rfl
        · exact q1 hA
        · exact q1 hB)
      obtain ⟨a1, a2⟩ := ad3 [A, B] (by simp)
      generalize L.take k ++ [A, B] ++ L.drop (k + 1) = T1 at *
      generalize L.take k ++ [A, B] = T2 at *
      generalize L.take k = T3 at *
      generalize L.drop (k + 1) = T4 at *
      simp [-fSl_tup01, -fSl_tup10, st, sf, a1, a2]
      exact ⟨hres, g2⟩
    · simp [cw]
  rintro e m' ⟨rfl, rfl⟩
  -- a number of a burst exchanged
  refine seq_sat (fun e m1 => (deckF j a).Go m0 m1 ∧ ∃ i : Nat, i < 4 ∧ e = [some (.ref j), some (.tup [U, .tup L, S]), some (.int way), some (.int (k : Nat)), some (.tup P4), some U, some (.tup L), some S, none, none, none, some (.int (i : Nat)), none, none, none, none]) ?_ ?_
  · obtain ⟨p, m2, e2, ⟨z, rfl, z0, z1⟩, g2⟩ := rsat_ex (ddraw_ev m' g1.i 4 (by omega))
    simp [-fIx_tup, par_ev, ixP, e2]
    exact ⟨g1.trans g2, z.toNat, by omega, by omega⟩
  clear g1 hl1
  rintro e m1 ⟨g1, i, hi, rfl⟩
  obtain ⟨x, hx4, hxn⟩ : ∃ x : Int, P4[i]? = some (.int x) ∧ n60 x = true := by
    rw [hP4]
    have : i = 0 ∨ i = 1 ∨ i = 2 ∨ i = 3 := by omega
    rcases this with rfl | rfl | rfl | rfl
    · exact ⟨_, rfl, hb.t⟩
    · exact ⟨_, rfl, hb.o⟩
    · exact ⟨_, rfl, hb.f⟩
    · exact ⟨_, rfl, hb.n⟩
  have ix4 := ix P4 i _ hx4
  obtain ⟨q, m2, e2, hq, g2⟩ := rsat_ex (odd_item_ev m1 g1.i (p := .int x) (.inr ⟨x, rfl, hxn⟩))
  have gg := g1.trans g2
  have st4 : ∀ μ, fSl [.tup P4, .non, .int (i : Nat)] μ = .ok (.tup (P4.take i)) μ := fun μ => by rw [fSl_tup01, cut_to]
  have sf4 : ∀ μ, fSl [.tup P4, .int ((i : Int) + 1), .non] μ = .ok (.tup (P4.drop (i + 1))) μ := fun μ => by
    have e : (i : Int) + 1 = ((i + 1 : Nat) : Int) := by omega
    rw [fSl_tup10, e, cut_from]
  have lt4 : (P4.take i).length ≤ 4 := by rw [List.length_take]; omega
  have ld4 : (P4.drop (i + 1)).length ≤ 4 := by rw [List.length_drop]; omega
  have b1 := ad (P4.take i) [q] (by omega) (by simp)
  have b2 := ad (P4.take i ++ [q]) (P4.drop (i + 1)) (by simp; omega) (by omega)
  obtain ⟨Z, hZ⟩ : ∃ Z, Z = P4.take i ++ [q] ++ P4.drop (i + 1) := ⟨_, rfl⟩
  have hZl : Z.length ≤ 5 := by rw [hZ]; simp; omega
  have p4 : ∀ y ∈ P4, Q1 a m2 y := fun y hy => by
    rw [hP4] at hy
    simp only [List.mem_cons, List.not_mem_nil, or_false] at hy
    rcases hy with rfl | rfl | rfl | rfl
    · exact .inl (gt.mono (by omega))
    · exact .inl (go.mono (by omega))
    · exact .inl (gf.mono (by omega))
    · exact .inl (gn.mono (by omega))
  have hZq : BV a m2 (.tup Z) := .inr ⟨Z, rfl, hZl, fun y hy => by
    rw [hZ] at hy
    rcases List.mem_append.mp hy with h | h
    · rcases List.mem_append.mp h with h | h
      · exact p4 y (List.mem_of_mem_take h)
      · rw [List.mem_singleton] at h; rw [h]; exact hq
    · exact p4 y (List.mem_of_mem_drop h)⟩
  have hres := all3 (m' := m2) (M := [.tup Z]) (by simp) (fun x hx => by rw [List.mem_singleton] at hx; rw [hx]; exact hZq)
  obtain ⟨a1, a2⟩ := ad3 [.tup Z] (by simp)
  rw [← hZ] at b2
  clear hZ hZq p4
  refine seq_sat (fun e m => m = m2 ∧ e = [some (.ref j), some (.tup [U, .tup L, S]), some (.int way), some (.int (k : Nat)), some (.tup Z), some U, some (.tup L), some S, none, none, none, some (.int (i : Nat)), none, none, none, none]) ?_ ?_
  · generalize P4.take i ++ [q] = T2 at *
    generalize P4.take i = T3 at *
    generalize P4.drop (i + 1) = T4 at *
    simp [-fSl_tup01, -fSl_tup10, -fIx_tup, st4, sf4, ix4, e2, b1, b2]
  rintro e m ⟨rfl, rfl⟩
  generalize L.take k ++ [.tup Z] ++ L.drop (k + 1) = T1 at *
  generalize L.take k ++ [.tup Z] = T2 at *
  generalize L.take k = T3 at *
  generalize L.drop (k + 1) = T4 at *
  simp [-fSl_tup01, -fSl_tup10, st, sf, a1, a2]
  exact ⟨hres, gg⟩
end Law
end
section
set_option autoImplicit false
/-! Signals bent in more places (k01): run. -/
namespace Law
open PySem PL
theorem datas_mem {l : List PV} (h : PV.datas l = true) {x : PV} (hx : x ∈ l) : x.data = true := (datas_iff l).mp h x hx
/-- a list of such things written anew: what stands in it stays what it is -/
theorem set_bv {a k : Nat} {m : Mem} {R : List PV} (hk : m[k]? = some (.lst R)) (hR : ∀ x ∈ R, BV a m x) (o : PO) : ∀ x ∈ R, BV a (m.set k o) x := fun x hx => by
  have q1 : ∀ y, Q1 a m y → (PV.datas R = true → y.data = true) → Q1 a (m.set k o) y := fun y hy hd => by
    rcases hy with h | ⟨k', l, rfl, b, d, e⟩
    · exact .inl h
    · by_cases hkk : k' = k
      · subst hkk
        rw [hk] at d
        simp only [Option.some.injEq, PO.lst.injEq] at d
        rw [← d] at e
        have := hd e.data
        simp [PV.data] at this
      · exact .inr ⟨k', l, rfl, b, by rw [List.getElem?_set_ne (by omega)]; exact d, e⟩
  rcases hR x hx with h | ⟨l, rfl, b, d⟩
  · exact .inl (q1 x h fun hd => datas_mem hd hx)
  · exact .inr ⟨l, rfl, b, fun y hy => q1 y (d y hy) fun hd => by
      have := datas_mem hd hx
      exact datas_mem (by simpa [PV.data] using this) hy⟩
/-- == with the empty list -/
theorem eqR_nilB {a0 a b : Nat} {μ : Mem} {l : List PV} (ha : μ[a]? = some (.lst l)) (hb : μ[b]? = some (.lst [])) (hB : ∀ x ∈ l, BV a0 μ x) : eqR μ (.ref a) (.ref b) = some l.isEmpty := by
  obtain ⟨ds, h1, h2, _, h4⟩ := Cw.tup (w := 60) (e := 12) fun q hq => (hB q hq).cw
  have e1 := h1 μ 3 (Ext.refl μ)
  have hl : ds.isEmpty = l.isEmpty := by
    cases l with
    | nil => simp only [PV.convs, Option.some.injEq] at e1; rw [← e1]; rfl
    | cons x l =>
      cases ds with
      | cons d ds => rfl
      | nil =>
        exfalso
        simp only [PV.convs] at e1
        cases hx : PV.conv (fun j => toDn μ (3 + 1) (.ref j)) x with
        | none => rw [hx] at e1; simp at e1
        | some d =>
          rw [hx] at e1
          simp at e1
  have ta : toD μ (.ref a) = some (.list ds) := by
    rw [toD_ref, ha]
    simp only
    rw [e1]
    rfl
  unfold eqR
  simp only [scalP]
  rw [ta, toD_lst hb (by simp)]
  simp only
  rw [if_pos ⟨shaped_sm (by simpa using h2) (by simp; omega), shaped_sm (by simp) (by simp)⟩, ← hl]
  cases ds <;> simp [PyData.eqv, PyData.eqvAll]
theorem eq_nilB {a0 a b : Nat} {μ : Mem} {l : List PV} (ha : μ[a]? = some (.lst l)) (hb : μ[b]? = some (.lst [])) (hB : ∀ x ∈ l, BV a0 μ x) : fEq [.ref a, .ref b] μ = .ok (.bl l.isEmpty) μ ∧ fNe [.ref a, .ref b] μ = .ok (.bl (!l.isEmpty)) μ := by
  simp only [fEq, fNe, eqR_nilB ha hb hB, and_self]
theorem cond_no {t : Ex} {A B : Sm} {env : PL.Env} {m m1 : Mem} {W : Wp} (h : t env m = .ok (.bl false) m1) (hB : (B env m1).sat W) : (PL.cond t A B env m).sat W := by
  rw [cond_ev, h]
  simp only [Out.of_ok]
  exact (onS_sat false _ _ _).mpr ⟨(fun h => nomatch h), fun _ => hB⟩
theorem cond_yes {t : Ex} {A B : Sm} {env : PL.Env} {m m1 : Mem} {W : Wp} (h : t env m = .ok (.bl true) m1) (hA : (A env m1).sat W) : (PL.cond t A B env m).sat W := by
  rw [cond_ev, h]
  simp only [Out.of_ok]
  exact (onS_sat true _ _ _).mpr ⟨fun _ => hA, fun h => nomatch h⟩
/-- amid the bending -/
def BmI (j a N : Nat) (p0 pL : PV) (m0 : Mem) (i : Nat) (e : PL.Env) (m' : Mem) : Prop := ∃ (U S : PV) (k : Nat) (R : List PV) (q3 q7 q8 : Option PV), (deckF j a).Go m0 m' ∧ Good 10 U ∧ Good 10 S ∧ m0.length ≤ k ∧ m'[k]? = some (.lst R) ∧ R.length ≤ N + i ∧ (∀ x ∈ R, BV a m' x) ∧ e = [some (.ref j), some p0, some (.ref k), q3, some U, some pL, some S, q7, q8]
theorem BmI.mk {j a N : Nat} {p0 pL : PV} {m0 : Mem} {i : Nat} {m' : Mem} {U S : PV} {k : Nat} {R : List PV} {q3 q7 q8 : Option PV} (g : (deckF j a).Go m0 m') (gU : Good 10 U) (gS : Good 10 S) (hk : m0.length ≤ k) (hc : m'[k]? = some (.lst R)) (hR : R.length ≤ N + i) (hB : ∀ x ∈ R, BV a m' x) : BmI j a N p0 pL m0 i [some (.ref j), some p0, some (.ref k), q3, some U, some pL, some S, q7, q8] m' := ⟨U, S, k, R, q3, q7, q8, g, gU, gS, hk, hc, hR, hB, rfl⟩
theorem bent_more_ev {j a N : Nat} (hN : N ≤ 10) (m : Mem) (hp : (deckF j a).inv m) {V : PV} {u s : Option Int} {bs : List Bu} (h : SB N V u s bs) : (m__law_bent_more [.ref j, V] m).sat fun q m' => VV (N + 3) a m' q ∧ (deckF j a).Go m m' := by
  refine fn_sat (P := fun q m' => VV (N + 3) a m' q ∧ (deckF j a).Go m m') ?_ (fun p m' ⟨h1, h2⟩ h3 h4 => ⟨h1.take h4, h2.take hp⟩)
  apply run_sat
  unfold b__law_bent_more
  simp only [List.map_cons, List.map_nil, List.length_cons, List.length_nil, List.replicate, List.cons_append, List.nil_append, Nat.reduceAdd, Nat.reduceSub]
  have hlt := deck_lt hp
  have htop := deckF_top hp
  have hSL : SL = 16777216 := rfl
  obtain ⟨hV, hok, hlen, hnu, hns⟩ := h
  obtain ⟨L, hL⟩ : ∃ L, L = bs.map Bu.pv := ⟨_, rfl⟩
  obtain ⟨U0, hU⟩ : ∃ U, U = opt u := ⟨_, rfl⟩
  obtain ⟨S0, hS⟩ : ∃ S, S = opt s := ⟨_, rfl⟩
  rw [← hL, ← hU, ← hS] at hV
  subst hV
  have hLl : L.length ≤ N := by rw [hL]; simpa using hlen
  have gU0 : Good 10 U0 := by rw [hU]; exact (opt_good1 hnu).mono (by omega)
  have gS0 : Good 10 S0 := by rw [hS]; exact (opt_good1 hns).mono (by omega)
  have bvL : ∀ m' x, x ∈ L → BV a m' x := fun m' x hx => by
    rw [hL] at hx
    obtain ⟨b, hb, rfl⟩ := List.mem_map.mp hx
    exact .inl (.inl ((bw_good (hok b hb)).mono (by omega)))
  clear hL hU hS
  obtain ⟨r, hr⟩ : ∃ r, r = m.length := ⟨_, rfl⟩
  have fl : ∀ (K : List PV), K.length ≤ 100 → ∀ μ, fLst K μ = .ok (.ref μ.length) (μ ++ [.lst K]) := fun K hK μ => by
    have : K.length ≤ SL := by omega
    simp only [fLst]
    rw [if_pos this]
    rfl
  have fli : ∀ (K : List PV) μ, fList [.tup K] μ = .ok (.ref μ.length) (μ ++ [.lst K]) := fun K μ => rfl
  refine seq_sat (fun e m' => m' = m ∧ e = [some (.ref j), some (.tup [U0, .tup L, S0]), none, none, some U0, some (.tup L), some S0, none, none]) (by simp) ?_
  rintro e m0 ⟨rfl, rfl⟩
  refine seq_sat (fun e m' => m' = m0 ++ [.lst L] ∧ e = [some (.ref j), some (.tup [U0, .tup L, S0]), some (.ref m0.length), none, some U0, some (.tup L), some S0, none, none]) (by simp [fli]) ?_
  rintro e m1 ⟨rfl, rfl⟩
  have g0 := Fam.go_app hp [PO.lst L]
  obtain ⟨p, m2, e2, ⟨z, rfl, z0, z1⟩, g2⟩ := rsat_ex (ddraw_ev (m0 ++ [.lst L]) g0.i 2 (by omega))
  simp only [seq_ev, forS_ev]
  have hrng : iRng1 (app2 fAdd (c (.int 2)) (app m__law_draw (ac (v 0) (ac (c (.int 2)) an)))) [some (.ref j), some (.tup [U0, .tup L, S0]), some (.ref m0.length), none, some U0, some (.tup L), some S0, none, none] (m0 ++ [.lst L]) = .ok ⟨(List.range (2 + z.toNat)).map (fun k : Nat => PV.int (0 + k)), []⟩ m2 := by
    have hz : (2 + z).toNat = 2 + z.toNat := by omega
    simp [iRng1, e2, big62, rangeL, hz]
    omega
  rw [hrng]
  simp only [Out.of_ok]
  refine for_thru (fun k : Nat => PV.int (0 + k)) (List.range (2 + z.toNat)) (fun i e m' => BmI j a N (.tup [U0, .tup L, S0]) (.tup L) m0 i e m') (fun _ _ _ _ => locked_nil _) ?_ ?_ ?_
  · exact .mk (g0.trans g2) gU0 gS0 (Nat.le_refl _) (g2.get (get_new0 m0 _) (by omega)) (by omega) (bvL _)
  · rintro i y e m3 hi ⟨U, S, k, R, q3, q7, q8, g3, gU, gS, hk, hc, hR, hB, rfl⟩
    have him : i < 2 + z.toNat := by have := (List.getElem?_eq_some_iff.mp hi).1; simpa using this
    have hz3 : 2 + z.toNat ≤ 3 := by omega
    simp only [turn_ev, tn_ev, Out.of_ok, List.set]
    have hl3 := deck_lt g3.i
    refine seq_sat (fun e m' => (deckF j a).Go m3 m' ∧ ∃ (w t : Int), 0 ≤ t ∧ (t < R.length ∨ t = 0) ∧ e = [some (.ref j), some (.tup [U0, .tup L, S0]), some (.ref k), some (.int (0 + y)), some U, some (.tup L), some S, some (.int w), some (.int t)]) ?_ ?_
    · obtain ⟨p, m4, e4, ⟨w, rfl, w0, w1⟩, g4⟩ := rsat_ex (ddraw_ev m3 g3.i 6 (by omega))
      obtain ⟨p, m5, e5, ⟨t, rfl, t0, t1⟩, g5⟩ := rsat_ex (ddraw_ev m4 g4.i (R.length : Nat) (Int.lt_of_le_of_lt (show ((R.length : Nat) : Int) ≤ 20 by omega) (by decide)))
      have le : fLen [.ref k] m4 = .ok (.int (R.length : Nat)) m4 := by
        have := g4.get hc (by omega)
        simp [this]
      simp [-fLen_ref, par_ev, e4, le, e5]
      exact ⟨g4.trans g5, w, t, t0, by omega, rfl, rfl⟩
    rintro e m4 ⟨g4, w, t, ht0, ht, rfl⟩
    have hc4 := g4.get hc (by omega)
    have hB4 : ∀ x ∈ R, BV a m4 x := fun x hx => (hB x hx).ab (.of_go g3.i g4)
    have g04 := g3.trans g4
    have hl4 := deck_lt g4.i
    clear hB hc g4 g3
    have p61 : ∀ μ, fPow [.int 10, .int 61] μ = .ok (.int (10 ^ 61)) μ := fun μ => pow10 (n := 61) (by decide) μ
    have gi : ∀ i : Int, sml i → Good 10 (.int i) := fun i h => (Good.int h).mono (by omega)
    have gn : Good 10 .non := ⟨by simp, by simp, by simp, by simp⟩
    have gx : Good 10 (.str ("x" : Str)) := ⟨by simp, by decide +kernel, by simp, by simp⟩
    have gb : ∀ b, Good 10 (.bl b) := fun b => (Good.bl b).mono (by omega)
    by_cases c0 : w = 0
    · subst c0
      obtain ⟨p, m5, e5, hq, g5⟩ := rsat_ex (dpick_lit m4 g04.i [.non, .str ("x" : Str), .int 0, .int (-9), .int 30, .bl true, .int (10 ^ 61)] (by simp) (by simp))
      have gp : Good 10 p := by
        simp only [List.mem_cons, List.not_mem_nil, or_false] at hq
        rcases hq with rfl | rfl | rfl | rfl | rfl | rfl | rfl
        · exact gn
        · exact gx
        · exact gi _ (by decide +kernel)
        · exact gi _ (by decide +kernel)
        · exact gi _ (by decide +kernel)
        · exact gb _
        · exact gi _ (by decide +kernel)
      have fin := g04.trans g5
      have hc5 := g5.get hc4 (by omega)
      have hB5 : ∀ x ∈ R, BV a m5 x := fun x hx => (hB4 x hx).ab (.of_go g04.i g5)
      simp [p61, e5, -Int.reducePow]
      exact .mk fin gp gS hk hc5 (by omega) hB5
    by_cases c1 : w = 1
    · subst c1
      obtain ⟨p, m5, e5, hq, g5⟩ := rsat_ex (dpick_lit m4 g04.i [.non, .str ("x" : Str), .int 0, .int 4, .int 30, .bl false, .int (10 ^ 61)] (by simp) (by simp))
      have gp : Good 10 p := by
        simp only [List.mem_cons, List.not_mem_nil, or_false] at hq
        rcases hq with rfl | rfl | rfl | rfl | rfl | rfl | rfl
        · exact gn
        · exact gx
        · exact gi _ (by decide +kernel)
        · exact gi _ (by decide +kernel)
        · exact gi _ (by decide +kernel)
        · exact gb _
        · exact gi _ (by decide +kernel)
      have fin := g04.trans g5
      have hc5 := g5.get hc4 (by omega)
      have hB5 : ∀ x ∈ R, BV a m5 x := fun x hx => (hB4 x hx).ab (.of_go g04.i g5)
      simp [p61, e5, -Int.reducePow]
      exact .mk fin gU gp hk hc5 (by omega) hB5
    -- one more
    have more : ∀ M : Mem, (deckF j a).Go m0 M → M[k]? = some (.lst R) → (∀ x ∈ R, BV a M x) → ((PL.exp (mth .list fAppend (v 2) (ac (app fTup (ac (app2 fSub (app m__law_draw (ac (v 0) (ac (c (.int 20)) an))) (c (.int 9))) (ac (app2 fAdd (c (.int 1)) (app m__law_draw (ac (v 0) (ac (c (.int 2)) an)))) (ac (c (.int 0)) (ac (c (.int 1)) an))))) an))) [some (.ref j), some (.tup [U0, .tup L, S0]), some (.ref k), some (.int (0 + y)), some U, some (.tup L), some S, some (.int w), some (.int t)] M).sat { nx := BmI j a N (.tup [U0, .tup L, S0]) (.tup L) m0 (i + 1), ct := BmI j a N (.tup [U0, .tup L, S0]) (.tup L) m0 (i + 1) } := by
      intro M gM hcM hBM
      have hlM := deck_lt gM.i
      obtain ⟨p, m5, e5, ⟨x, rfl, x0, x1⟩, g5⟩ := rsat_ex (ddraw_ev M gM.i 20 (by omega))
      obtain ⟨p, m6, e6, ⟨o, rfl, o0, o1⟩, g6⟩ := rsat_ex (ddraw_ev m5 g5.i 2 (by omega))
      have g46 := g5.trans g6
      have hc6 := g46.get hcM (by omega)
      have hB6 : ∀ x ∈ R, BV a m6 x := fun x hx => (hBM x hx).ab (.of_go gM.i g46)
      have kd : isKd .list M (.ref k) = true := by simp [isKd, hcM]
      obtain ⟨T, hT⟩ : ∃ T : PV, T = .tup [.int (x - 9), .int (1 + o), .int 0, .int 1] := ⟨_, rfl⟩
      have gT : Good 6 T := by
        have e200 : (100 : Nat) < 10 ^ 200 := by decide +kernel
        have z : ∀ i : Int, -50 ≤ i → i ≤ 50 → Good 1 (.int i) := fun i h1 h2 => Good.int (by unfold sml; omega)
        rw [hT]
        exact (Good.tup (Goods.cons (z _ (by omega) (by omega)) (Goods.cons (z _ (by omega) (by omega)) (Goods.cons (z _ (by omega) (by omega)) (Goods.cons (z _ (by omega) (by omega)) Goods.nil)))) (by simp)).mono (by omega)
      have ap : fAppend [.ref k, T] m6 = .ok .non (m6.set k (.lst (R ++ [T]))) := append_ok _ hc6 (by omega)
      have gs := (gM.trans g46).set (by omega) hk (.lst (R ++ [T]))
      have hcs : (m6.set k (.lst (R ++ [T])))[k]? = some (.lst (R ++ [T])) := get_set_same hc6
      have hBs : ∀ x ∈ R ++ [T], BV a (m6.set k (.lst (R ++ [T]))) x := fun x hx => by
        rcases List.mem_append.mp hx with h | h
        · exact set_bv hc6 hB6 _ x h
        · rw [List.mem_singleton] at h; rw [h]; exact .inl (.inl (gT.mono (by omega)))
      simp [kd, e5, e6, ← hT, ap, -fAppend_ref]
      exact .mk gs gU gS hk hcs (by simp; omega) hBs
    have hce : (m4 ++ [PO.lst []])[k]? = some (.lst R) := get_some hc4
    have hBe : ∀ x ∈ R, BV a (m4 ++ [PO.lst []]) x := fun x hx => (hB4 x hx).ab (.app _ _)
    have ⟨eqe, ne⟩ := eq_nilB hce (get_new0 m4 [PO.lst []]) hBe
    by_cases c2 : w = 2
    · subst c2
      by_cases hRe : R = []
      · subst hRe
        refine cond_no (m1 := m4) (by simp) (cond_no (m1 := m4) (by simp) (cond_no (m1 := m4 ++ [.lst []]) (by simp [ne]) (cond_no (m1 := m4 ++ [.lst []]) (by simp) (cond_yes (m1 := m4 ++ [.lst []] ++ [.lst []]) ?_ (more _ ((g04.app _).app _) (get_some hce) fun x hx => nomatch hx)))))
        have := (eq_nilB (a0 := a) (get_some hce : (m4 ++ [PO.lst []] ++ [PO.lst []])[k]? = some (.lst [])) (get_new0 (m4 ++ [PO.lst []]) [PO.lst []]) (fun x hx => nomatch hx)).1
        simp at this
        simp [this]
      · have htl : t < R.length := by rcases ht with h | h
                                      · exact h
                                      · cases R with
                                        | nil => exact absurd rfl hRe
                                        | cons x R => simp; omega
        have hRi : R.isEmpty = false := by cases R with | nil => exact absurd rfl hRe | cons x R => rfl
        rw [hRi] at ne
        obtain ⟨K, hK⟩ : ∃ K : List PV, K = [.non, .tup [.int 9, .int 0, .int 0, .int 1], .tup [.int 9, .int 1, .int 0], .ref (m4.length + 1), .tup [.int 9, .int 1, .int 1, .int 1], .tup [.int 9, .int 1, .int 0, .bl true]] := ⟨_, rfl⟩
        have lK : K.length = 6 := by rw [hK]; rfl
        obtain ⟨p, m5, e5, hq, g5⟩ := rsat_ex (dpick_ev (m4 ++ [PO.lst [], .lst [.int 9, .int 1, .int 0, .int 1], .lst K]) (Fam.app g04.i _) (m4.length + 2) K (by omega) (get_new _ _ 2) (by omega) (by omega))
        have g45 := (Fam.go_app g04.i [PO.lst [], .lst [.int 9, .int 1, .int 0, .int 1], .lst K]).trans g5
        have hc5 := g45.get hc4 (by omega)
        have hB5 : ∀ x ∈ R, BV a m5 x := fun x hx => (hB4 x hx).ab (.of_go g04.i g45)
        have hkl : k < m4.length := (List.getElem?_eq_some_iff.mp hc4).1
        have cell : m5[m4.length + 1]? = some (.lst [.int 9, .int 1, .int 0, .int 1]) := g5.get (get_new m4 _ 1) (by omega)
        have hp : BV a (m5.set k (.lst (R.set t.toNat p))) p := by
          have gl : Goods 4 [.int 9, .int 1, .int 0, .int 1] := ⟨by simp, by decide +kernel, by simp, by simp⟩
          have gd : ∀ {m' : Mem} {q : PV}, q.data = true → q.pd.sm = true → q.pd.wt ≤ 10 → q.pd.depth ≤ 10 → BV a m' q := fun a b c d => .inl (.inl ⟨a, b, c, d⟩)
          rw [hK] at hq
          simp only [List.mem_cons, List.not_mem_nil, or_false] at hq
          rcases hq with rfl | rfl | rfl | rfl | rfl | rfl
          · exact gd (by simp) (by decide +kernel) (by simp) (by simp)
          · exact gd (by simp) (by decide +kernel) (by simp) (by simp)
          · exact gd (by simp) (by decide +kernel) (by simp) (by simp)
          · exact .inl (.inr ⟨_, _, rfl, by omega, by rw [List.getElem?_set_ne (by omega)]; exact cell, gl.mono (by omega)⟩)
          · exact gd (by simp) (by decide +kernel) (by simp) (by simp)
          · exact gd (by simp) (by decide +kernel) (by simp) (by simp)
        have st : fSet [.ref k, .int t, p] m5 = .ok .non (m5.set k (.lst (R.set t.toNat p))) := set_ok m5 hc5 ht0 htl
        have gs := (g04.trans g45).set (by omega) hk (.lst (R.set t.toNat p))
        have hcs : (m5.set k (.lst (R.set t.toNat p)))[k]? = some (.lst (R.set t.toNat p)) := get_set_same hc5
        have hBs : ∀ x ∈ R.set t.toNat p, BV a (m5.set k (.lst (R.set t.toNat p))) x := fun x hx => by
          rcases List.mem_or_eq_of_mem_set hx with h | rfl
          · exact set_bv hc5 hB5 _ x h
          · exact hp
        have fK := fl K (by omega)
        have f4 := fl [.int 9, .int 1, .int 0, .int 1] (by simp)
        clear hq
        simp [-fSet_ref, ne, f4, ← hK, fK, e5, st]
        exact .mk gs gU gS hk hcs (by simp; omega) hBs
    by_cases c3 : w = 3
    · subst c3
      have s1 : fSl [.ref k, .int 1, .non] m4 = .ok (.ref m4.length) (m4 ++ [.lst (R.drop 1)]) := by
        have := cut_from R 1
        simp only [fSl_ref, hc4, optI]
        rw [← this]
        rfl
      have hc5 : (m4 ++ [PO.lst (R.drop 1)])[k]? = some (.lst R) := get_some hc4
      have s2 : fSl [.ref k, .non, .int 1] (m4 ++ [.lst (R.drop 1)]) = .ok (.ref (m4.length + 1)) (m4 ++ [.lst (R.drop 1), .lst (R.take 1)]) := by
        have := cut_to R 1
        simp only [fSl_ref, hc5, optI]
        rw [← this]
        simp
      have ad : fAdd [.ref m4.length, .ref (m4.length + 1)] (m4 ++ [.lst (R.drop 1), .lst (R.take 1)]) = .ok (.ref (m4.length + 2)) (m4 ++ [.lst (R.drop 1), .lst (R.take 1), .lst (R.drop 1 ++ R.take 1)]) := by
        have := fAdd_refs (μ := m4 ++ [.lst (R.drop 1), .lst (R.take 1)]) (a := m4.length) (b := m4.length + 1) (get_new _ _ 0) (get_new _ _ 1) (by simp; omega)
        simpa using this
      have gs := g04.app [PO.lst (R.drop 1), .lst (R.take 1), .lst (R.drop 1 ++ R.take 1)]
      have hkl : k < m4.length := (List.getElem?_eq_some_iff.mp hc4).1
      have hcs : (m4 ++ [PO.lst (R.drop 1), .lst (R.take 1), .lst (R.drop 1 ++ R.take 1)])[m4.length + 2]? = some (.lst (R.drop 1 ++ R.take 1)) := get_new _ _ 2
      have hBs : ∀ x ∈ R.drop 1 ++ R.take 1, BV a (m4 ++ [PO.lst (R.drop 1), .lst (R.take 1), .lst (R.drop 1 ++ R.take 1)]) x := fun x hx => by
        have hx : x ∈ R := by
          rcases List.mem_append.mp hx with h | h
          · exact List.mem_of_mem_drop h
          · exact List.mem_of_mem_take h
        exact (hB4 x hx).ab (.app _ _)
      have hln : (R.drop 1 ++ R.take 1).length ≤ N + (i + 1) := by simp; omega
      generalize R.drop 1 ++ R.take 1 = R2 at *
      generalize R.drop 1 = R3 at *
      generalize R.take 1 = R4 at *
      simp [-fSl_ref, -fAdd_ref, s1, s2, ad]
      exact .mk gs gU gS (by omega) hcs hln hBs
    by_cases c4 : w = 4
    · subst c4
      exact cond_no (m1 := m4) (by simp) (cond_no (m1 := m4) (by simp) (cond_no (m1 := m4) (by simp) (cond_no (m1 := m4) (by simp) (cond_yes (m1 := m4) (by simp) (more m4 g04 hc4 hB4)))))
    by_cases hRe : R = []
    · subst hRe
      exact cond_no (m1 := m4) (by simp [c0]) (cond_no (m1 := m4) (by simp [c1]) (cond_no (m1 := m4) (by simp [c2]) (cond_no (m1 := m4) (by simp [c3]) (cond_yes (m1 := m4 ++ [.lst []]) (by simp [c4, eqe]) (more _ (g04.app _) hce hBe)))))
    have htl : t < R.length := by
      rcases ht with h | h
      · exact h
      · cases R with
        | nil => exact absurd rfl hRe
        | cons x R => simp; omega
    have hRi : R.isEmpty = false := by cases R with | nil => exact absurd rfl hRe | cons x R => rfl
    rw [hRi] at eqe
    refine cond_no (m1 := m4) (by simp [c0]) (cond_no (m1 := m4) (by simp [c1]) (cond_no (m1 := m4) (by simp [c2]) (cond_no (m1 := m4) (by simp [c3]) (cond_no (m1 := m4 ++ [.lst []]) (by simp [c4, eqe]) ?_))))
    obtain ⟨x, hx⟩ : ∃ x, R[t.toNat]? = some x := ⟨R[t.toNat], List.getElem?_eq_getElem (by omega)⟩
    have ixx : fIx [.ref k, .int t] (m4 ++ [.lst []]) = .ok x (m4 ++ [.lst []]) := by
      have e : t = ((t.toNat : Nat) : Int) := by omega
      rw [fIx_lst _ _ hce, e]
      exact ixOf_nat _ (by simpa using hx)
    have kd : isKd .list (m4 ++ [PO.lst []]) (.ref k) = true := by simp [isKd, hce]
    have ap : fAppend [.ref k, x] (m4 ++ [.lst []]) = .ok .non ((m4 ++ [PO.lst []]).set k (.lst (R ++ [x]))) := append_ok _ hce (by omega)
    have gs := (g04.app [PO.lst []]).set (by omega) hk (.lst (R ++ [x]))
    have hcs : ((m4 ++ [PO.lst []]).set k (.lst (R ++ [x])))[k]? = some (.lst (R ++ [x])) := get_set_same hce
    have hBs : ∀ y ∈ R ++ [x], BV a ((m4 ++ [PO.lst []]).set k (.lst (R ++ [x]))) y := fun y hy => by
      rcases List.mem_append.mp hy with h | h
      · exact set_bv hce hBe _ y h
      · rw [List.mem_singleton] at h; rw [h]; exact set_bv hce hBe _ x (List.mem_of_getElem? hx)
    generalize m4 ++ [PO.lst []] = M4 at *
    simp [kd, ixx, ap, -fAppend_ref, -fIx_ref]
    exact .mk gs gU gS hk hcs (by simp; omega) hBs
  · rintro e m3 ⟨U, S, k, R, q3, q7, q8, g3, gU, gS, hk, hc, hR, hB, rfl⟩
    have hz3 : 2 + z.toNat ≤ 3 := by omega
    simp only [List.length_range] at hR
    have hres : VV (N + 3) a m3 (.tup [U, .tup R, S]) := .sig U S R rfl (.inl gU) (.inl gS) (by omega) hB
    simp [hc]
    exact ⟨hres, g3⟩
end Law
end
section
set_option autoImplicit false
/-! What k01 starts from: signals drawn, made great, and one of about a hundred bursts. -/
namespace Law
open PySem PL
theorem sb_of {M : Int} (hM : Big M) (h60 : 2 * M ≤ M60) {x : Fl} (h : FOk M x) (hl : bl x ≤ 7) : SB 7 (ofF x).pv (ofF x).u (ofF x).s (group (ofF x).R) := by
  have ⟨_, sf⟩ := group_fit (fit2_fine (fok_fit h) (show bl x ≤ 150 by omega)).ok
  have n : ∀ {z : Int}, -(2 * M) ≤ z → z ≤ 2 * M → n60 z = true := fun h1 h2 => n60_iff.mpr ⟨by omega, by omega⟩
  have f2 := fok_fit h
  have hu : ∀ v, (ofF x).u = some v → -M ≤ v ∧ v ≤ M := by
    rcases f2 with h | h
    · exact fun v hv => ⟨(h.z.u v hv).1, (h.z.u v hv).2.1⟩
    · rw [h]; intro v hv; simp [AO] at hv; subst hv; exact ⟨by have := hM.1; omega, hM.1⟩
  have hs : ∀ v, (ofF x).s = some v → -M ≤ v ∧ v ≤ M := by
    rcases f2 with h | h
    · exact fun v hv => ⟨(h.s v hv).1, (h.s v hv).2.1⟩
    · rw [h]; intro v hv; simp [AO] at hv; subst hv; exact ⟨by have := hM.1; omega, hM.1⟩
  have m0 := hM.1
  refine ⟨rfl, fun b hb => ?_, hl, fun z hz => by have := hu z hz; exact n (by omega) (by omega), fun z hz => by have := hs z hz; exact n (by omega) (by omega)⟩
  have hf := sf.fs b hb
  obtain ⟨a1, a2, a3, a4, a5, a6⟩ := fit_more hf
  have t1 := hf.ok.times
  have o1 := hf.on
  have f1 := hf.off
  have l1 := hf.lo
  exact ⟨n (by omega) (by omega), n (by omega) (by omega), n (by omega) (by omega), n (by omega) (by omega), o1, t1, f1⟩
def rMany (k : Nat) : Run := (10 * (k : Int), 10 * (k : Int) + 1 + (k : Int) % 2)
theorem group_many (n : Nat) : group ((List.range n).map rMany) = ((List.range n).map rMany).map one := by
  induction n with
  | zero => rfl
  | succ n ih =>
    rw [List.range_succ, List.map_append, List.map_singleton, group_snoc, ih, List.map_append, List.map_singleton]
    cases n with
    | zero => rfl
    | succ n =>
      rw [List.range_succ, List.map_append, List.map_singleton, List.map_append, List.map_singleton, add_snoc]
      have : takes (one (rMany n)) (rMany (n + 1)).1 ((rMany (n + 1)).2 - (rMany (n + 1)).1) = false := by
        unfold takes one rMany
        simp only [Bool.and_eq_false_iff, decide_eq_false_iff_not]
        left
        push_cast
        omega
      rw [this]
      rfl
theorem bl_lenX (x : Fl) : 2 * bl x ≤ x.2.length := by
  have := group_len (ofF x).R
  have := ofF_len x
  unfold bl
  omega
/-- a signal of about a hundred bursts -/
def PMany (p : PV) : Prop := ∃ n : Nat, 99 ≤ n ∧ n ≤ 101 ∧ p = sigP none (((List.range n).map rMany).map one) none
theorem many_ev {j a : Nat} (m : Mem) (hp : (deckF j a).inv m) : (m__law_many [.ref j] m).sat fun p m' => PMany p ∧ (deckF j a).Go m m' := by
  refine Fam.fn_go hp ?_
  apply run_sat
  unfold b__law_many
  simp only [List.map_cons, List.map_nil, List.length_cons, List.length_nil, List.replicate, List.cons_append, List.nil_append, Nat.reduceAdd, Nat.reduceSub]
  refine seq_sat (fun e m' => (deckF j a).Go m m' ∧ ∃ n : Nat, 99 ≤ n ∧ n ≤ 101 ∧ e = [some (.ref j), some (.int (n : Nat)), none, none]) ?_ ?_
  · obtain ⟨p, m1, e1, ⟨z, rfl, z0, z1⟩, g1⟩ := rsat_ex (ddraw_ev m hp 3 (by omega))
    simp [e1]
    exact ⟨g1, (99 + z).toNat, by omega, by omega, by omega⟩
  rintro e m1 ⟨g1, n, h1, h2, rfl⟩
  have key : lc (iRng1 (v 1)) (tn 3) yes (app fTup (ac (app2 fMul (c (.int 10)) (v 3)) (ac (app2 fAdd (app2 fAdd (app2 fMul (c (.int 10)) (v 3)) (c (.int 1))) (app2 fMod (app fInt (ac (v 3) an)) (c (.int 2)))) an))) [3] [some (.ref j), some (.int (n : Nat)), none, none] m1 = .ok (.ref m1.length) (m1 ++ [.lst (((List.range n).map rMany).map runP)]) := by
    have := lc_pure (it := iRng1 (v 1)) (g := tn 3) (t := yes) (e := app fTup (ac (app2 fMul (c (.int 10)) (v 3)) (ac (app2 fAdd (app2 fAdd (app2 fMul (c (.int 10)) (v 3)) (c (.int 1))) (app2 fMod (app fInt (ac (v 3) an)) (c (.int 2)))) an))) (vs := [3]) (env := [some (.ref j), some (.int (n : Nat)), none, none]) (μ := m1) (μ1 := m1) (lk := []) (fun k : Nat => PV.int (0 + k)) (fun k => some (runP (rMany k))) (List.range n) (by
        have : (n : Int) < 2 ^ 62 := by omega
        simp [iRng1, big62, rangeL]
        omega) (fun _ => locked_nil _) (by simp; omega) (fun k hk l => by
        have hk' : k < n := by simpa using hk
        have m1 : mulOk 10 (k : Int) := .inl (by decide)
        refine ⟨_, rfl, ?_, ?_⟩
        · simp
        · simp [wipe, m1, runP, rMany])
    have e2 : (List.range n).filterMap (fun k => some (runP (rMany k))) = ((List.range n).map rMany).map runP := by simp [List.filterMap_eq_map, Function.comp_def]
    rw [e2] at this
    exact this
  refine seq_sat (fun e m' => m' = m1 ++ [.lst (((List.range n).map rMany).map runP)] ∧ e = [some (.ref j), some (.int (n : Nat)), some (.ref m1.length), none]) (by
    generalize ((List.range n).map rMany).map runP = Q at *
    simp [key]) ?_
  rintro e m2 ⟨rfl, rfl⟩
  have gr := dgrouped_ev none none ((List.range n).map rMany) (by simp; omega) m1.length (m1 ++ [.lst (((List.range n).map rMany).map runP)]) (by simp)
  rw [group_many] at gr
  have go : opt none = .non := rfl
  rw [go] at gr
  have hP : PMany (sigP none (((List.range n).map rMany).map one) none) := ⟨n, h1, h2, rfl⟩
  have gg := g1.app [PO.lst (((List.range n).map rMany).map runP)]
  generalize sigP none (((List.range n).map rMany).map one) none = X at *
  generalize ((List.range n).map rMany).map runP = Q at *
  simp [gr]
  exact ⟨hP, gg⟩
end Law
end
section
set_option autoImplicit false
/-! k01: one thing asked. -/
namespace Law
open PySem PL
theorem VV.sb {N a : Nat} {m : Mem} {V : PV} (h : VV N a m V) (e : errV V = .non) : ∃ u s bs, SB N V u s bs := by
  obtain ⟨u, s, bs, hV, hok, nu, ns, _, _⟩ := err_non e
  refine ⟨u, s, bs, hV, fun b hb => (hok b hb).w, ?_, nu, ns⟩
  cases h with
  | dat h hs => simpa using hs e _ _ _ hV
  | sig u' s' l h' hu hs hl hB =>
    rw [hV] at h'
    simp only [PV.tup.injEq, List.cons.injEq, and_true] at h'
    have := congrArg List.length h'.2.1
    simp only [List.length_map] at this
    omega
  | lst k l h' => rw [hV] at h'; nomatch h'
  | mid u' s' k l h' =>
    rw [hV] at h'
    simp at h'
  | dct k h' => rw [hV] at h'; nomatch h'
theorem SB.vv {N a : Nat} {m : Mem} {V : PV} {u s : Option Int} {bs : List Bu} (h : SB N V u s bs) : VV N a m V :=
  .sig (opt u) (opt s) (bs.map Bu.pv) h.eq (.inl ((opt_good1 h.nu).mono (by omega))) (.inl ((opt_good1 h.ns).mono (by omega))) (by simpa using h.len) fun x hx => by
    obtain ⟨b, hb, rfl⟩ := List.mem_map.mp hx
    exact .inl (.inl ((bw_good (h.ok b hb)).mono (by omega)))
theorem tag_good {w : Str} {o : Option Nat} {z : PV} {n : Nat} {p : Nat → Bool} (hw : (PyData.str w).sm = true) (hn : n ≤ 1000000) (ho : o = (List.range n).find? p) (hz : Good 4 z) : Good 4 (tagV w o z) := by
  cases o with
  | none => exact hz
  | some i =>
    have hi : i < n := by
      have := List.mem_of_find?_eq_some ho.symm
      exact List.mem_range.mp this
    have gi : Good 1 (.int (i : Nat)) := Good.int (by
      have : (1000000 : Nat) < 10 ^ 200 := by decide +kernel
      unfold sml
      omega)
    have gw : Good 1 (.str w) := ⟨by simp, hw, by simp, by simp⟩
    exact (Good.tup (Goods.cons gw (Goods.cons gi Goods.nil)) (by simp)).mono (by omega)
theorem busOf_len {l : List PV} {bs : List Bu} (h : busOf l = some bs) : bs.length = l.length := by
  have := (busOf_some h).1
  rw [this]
  simp
theorem non_good : Good 4 .non := ⟨by simp, by simp, by simp, by simp⟩
theorem errV_good (V : PV) : Good 4 (errV V) := by
  have gf : Good 4 (.str ("form" : Str)) := ⟨by simp, by decide +kernel, by simp, by simp⟩
  unfold errV
  split
  · rename_i u l s
    split
    · rename_i hc
      simp only [Bool.and_eq_true, decide_eq_true_eq] at hc
      refine tag_good (by decide +kernel) (by omega) rfl ?_
      split
      · rename_i bs hb
        have hl := busOf_len hb
        unfold restV
        refine tag_good (by decide +kernel) (by omega) rfl ?_
        split
        · exact ⟨by simp, by decide +kernel, by simp, by simp⟩
        · exact tag_good (by decide +kernel) (by omega) rfl non_good
      · exact non_good
    · exact gf
  · exact gf
theorem errV_repr (V : PV) : ∃ S : Str, ∀ μ, fRepr [errV V] μ = .ok (.str S) μ := ⟨_, fun μ => repr_good ((errV_good V).mono (by omega))⟩
def En1 (j : Nat) (q2 q3 q4 q5 q6 q7 q8 q9 q10 q11 q12 q13 q14 : Option PV) : PL.Env := [some (.ref 0), some (.ref j), q2, q3, q4, q5, q6, q7, q8, q9, q10, q11, q12, q13, q14]
def InI (j a : Nat) (V : PV) (e : PL.Env) (m : Mem) : Prop := (deckF j a).inv m ∧ ∃ q2 q3 q4 q5 q6 q8 q9 q10 q11 q12 q13 q14, e = En1 j q2 q3 q4 q5 q6 (some V) q8 q9 q10 q11 q12 q13 q14
noncomputable def askS : Sm := (seq (setv 11 (PL.ite (app2 fGt (v 8) (c (.int 3))) (app m__law_bent_more (ac (v 1) (ac (v 7) an))) (app m__law_bent (ac (v 1) (ac (v 7) an)))))
    (seq (setv 11 (PL.ite (PL.and (app2 fEq (app m__law_draw (ac (v 1) (ac (c (.int 6)) an))) (c (.int 0))) (app2 fIsN (app m__law_due (ac (v 11) an)) (c .non))) (app m__law_bent (ac (v 1) (ac (v 11) an))) (v 11)))
    (seq (setv 13 (app fRepr (ac (v 11) an)))
    (seq (setv 14 (PL.ite (app2 fGt (v 8) (c (.int 0))) (app m_signal_error (ac (v 11) an)) (callK m_signal_error [0] an (ac (v 11) an))))
    (PL.cond (PL.or (app2 fNe (app fRepr (ac (v 14) an)) (app fRepr (ac (app m__law_due (ac (v 11) an)) an))) (app2 fNe (app fRepr (ac (v 11) an)) (v 13)))
     (ret (c (.bl false)))
     skip)))))
theorem ask_ev {j a : Nat} {V : PV} {u s : Option Int} {bs : List Bu} (hV : SB 7 V u s bs) (m : Mem) (hp : (deckF j a).inv m) (y : Int) (q2 q3 q4 q5 q6 q9 q10 q11 q12 q13 q14 : Option PV) : (askS (En1 j q2 q3 q4 q5 q6 (some V) (some (.int y)) q9 q10 q11 q12 q13 q14) m).sat { nx := InI j a V } := by
  unfold askS
  refine seq_sat (fun e m' => (deckF j a).inv m' ∧ ∃ T, VV 10 a m' T ∧ e = En1 j q2 q3 q4 q5 q6 (some V) (some (.int y)) q9 q10 (some T) q12 q13 q14) ?_ ?_
  · by_cases c : y > 3
    · obtain ⟨T, m1, e1, h1, g1⟩ := rsat_ex (bent_more_ev (by omega) m hp hV)
      simp [En1, c, e1]
      exact ⟨g1.i, h1⟩
    · obtain ⟨T, m1, e1, h1, g1⟩ := rsat_ex (bent_ev ⟨by omega, by omega⟩ m hp hV)
      simp [En1, c, e1]
      exact ⟨g1.i, h1.mono (by omega)⟩
  rintro e m1 ⟨hp1, T, hT, rfl⟩
  refine seq_sat (fun e m' => (deckF j a).inv m' ∧ ∃ T, VV 12 a m' T ∧ e = En1 j q2 q3 q4 q5 q6 (some V) (some (.int y)) q9 q10 (some T) q12 q13 q14) ?_ ?_
  · obtain ⟨p, m2, e2, ⟨z, rfl, z0, z1⟩, g2⟩ := rsat_ex (ddraw_ev m1 hp1 6 (by omega))
    have hT2 := hT.ab (.of_go hp1 g2)
    by_cases c : z = 0
    · subst c
      obtain ⟨_, due⟩ := hT2.err (by omega)
      by_cases cn : errV T = .non
      · obtain ⟨u', s', bs', hS⟩ := hT2.sb cn
        obtain ⟨T', m3, e3, h3, g3⟩ := rsat_ex (bent_ev ⟨by omega, by omega⟩ m2 g2.i hS)
        rw [cn] at due
        simp [En1, e2, due, isNon, e3]
        exact ⟨g3.i, h3⟩
      · have hn : isNon (errV T) = false := by
          cases h : errV T <;> first | rfl | exact absurd h cn
        simp [En1, e2, due, hn]
        exact ⟨g2.i, hT2.mono (by omega)⟩
    · simp [En1, e2, c]
      exact ⟨g2.i, hT2.mono (by omega)⟩
  rintro e m2 ⟨hp2, T, hT, rfl⟩
  obtain ⟨S, hS⟩ := hT.rp (by omega)
  have hS := hS m2 (Ext.refl m2)
  obtain ⟨err, due⟩ := hT.err (by omega)
  obtain ⟨R, hR⟩ := errV_repr T
  generalize errV T = E at *
  refine seq_sat (fun e m' => m' = m2 ∧ e = En1 j q2 q3 q4 q5 q6 (some V) (some (.int y)) q9 q10 (some T) q12 (some (.str S)) q14) (by simp [En1, hS]) ?_
  rintro e m' ⟨rfl, rfl⟩
  refine seq_sat (fun e m => m = m' ∧ e = En1 j q2 q3 q4 q5 q6 (some V) (some (.int y)) q9 q10 (some T) q12 (some (.str S)) (some E)) ?_ ?_
  · have pm : perm [0] [T] = [T] := rfl
    by_cases c : y > 0
    · simp [En1, c, err]
    · simp [En1, c, err, pm]
  rintro e m2 ⟨rfl, rfl⟩
  simp [En1, hR, due, hS]
  exact ⟨hp2, _, _, _, _, _, _, _, _, _, _, _, _, rfl⟩
end Law
end
section
set_option autoImplicit false
/-! The deck of k01 to k09, made. -/
namespace Law
open PySem PL
theorem ext_set {m m' : Mem} (h : Ext m m') {k : Nat} (hk : m.length ≤ k) (o : PO) : Ext m (m'.set k o) := by
  obtain ⟨l, rfl⟩ := h
  refine ⟨l.set (k - m.length) o, ?_⟩
  rw [List.set_append_right _ _ hk]
theorem deck_ev (m : Mem) (k : Nat) (ns : List Int) (hk : m[k]? = some (.ro (ns.map .int)) ∨ m[k]? = some (.lst (ns.map .int))) (hn : ns.length ≤ 64) : (m__law_deck [.ref k] m).sat fun p m' => ∃ j a, p = .ref j ∧ m.length ≤ j ∧ (deckF j a).inv m' ∧ Ext m m' := by
  refine fn_sat ?_ (fun p m' h h1 h2 => ?_)
  · apply run_sat
    unfold b__law_deck
    simp only [List.map_cons, List.map_nil, List.length_cons, List.length_nil, List.replicate, List.cons_append, List.nil_append, Nat.reduceAdd, Nat.reduceSub]
    have sl : ∀ l : Mem, fSl [.ref k, .non, .int 63] (m ++ l) = .ok (.ref (m ++ l).length) ((m ++ l) ++ [.lst ((ns.take 63).map PV.int)]) := by
      have key : ∀ o, m[k]? = some o → (o = .ro (ns.map .int) ∨ o = .lst (ns.map .int)) → ∀ l : Mem, fSl [.ref k, .non, .int 63] (m ++ l) = .ok (.ref (m ++ l).length) ((m ++ l) ++ [.lst ((ns.take 63).map PV.int)]) := by
        rintro o h1 (rfl | rfl) l <;>
        · have h2 := get_some (l := l) h1
          simp [h2]
      rcases hk with hk | hk
      · exact key _ hk (.inl rfl)
      · exact key _ hk (.inr rfl)
    refine seq_sat (fun e m' => Ext m m' ∧ (∃ s, m'[m.length]? = some (deckD (m.length + 1) s)) ∧ m'[m.length + 1]? = some (.lst (([] : List Int).map .int)) ∧ e = [some (.ref k), some (.ref m.length), none, none]) ?_ ?_
    · have sl1 := sl [.dct [], .lst []]
      have e1 : m ++ [PO.dct [], .lst []] = (m ++ [PO.dct []]) ++ [.lst []] := by simp
      simp [-fSl_ref] at sl1
      simp [sl1, dfin, mergeD, putD, -fSl_ref]
    rintro e m1 ⟨⟨l0, rfl⟩, ⟨s, h1⟩, h2, rfl⟩
    simp only [seq_ev, forS_ev]
    have hit : iVal (PL.sl (v 0) (c .non) (app1 fPart (c (.int 63)))) [some (.ref k), some (.ref m.length), none, none] (m ++ l0) = .ok ⟨(ns.take 63).map PV.int, [((m ++ l0).length, (ns.take 63).map PV.int)]⟩ (m ++ l0 ++ [.lst ((ns.take 63).map PV.int)]) := by
      have := sl l0
      generalize m ++ l0 = M at *
      simp [this, -fSl_ref]
    rw [hit]
    simp only [Out.of_ok]
    have hx0 : Ext m (m ++ l0) := Ext.app _ _
    generalize m ++ l0 = M at *
    have hw : (M ++ [PO.lst ((ns.take 63).map PV.int)])[M.length]? = some (.lst ((ns.take 63).map PV.int)) := by simp
    have l1 := (List.getElem?_eq_some_iff.mp h1).1
    have l2 := (List.getElem?_eq_some_iff.mp h2).1
    have hlt : (ns.take 63).length ≤ 63 := by simp; omega
    generalize ns.take 63 = cs at *
    generalize hW : M.length = w at *
    refine for_thru PV.int cs (fun i e m' => Ext m m' ∧ m'[w]? = some (.lst (cs.map PV.int)) ∧ ∃ (a : Nat) (s : Int) (bs : List Int) (q2 q3 : Option PV), m.length < a ∧ a ≠ w ∧ m'[m.length]? = some (deckD a s) ∧ m'[a]? = some (.lst (bs.map .int)) ∧ bs.length ≤ i ∧ e = [some (.ref k), some (.ref m.length), q2, q3]) ?_ ⟨hx0.trans (Ext.app _ _), hw, m.length + 1, s, [], none, none, by omega, by omega, get_some h1, get_some h2, by simp, rfl⟩ ?_ ?_
    · rintro i e m' ⟨_, h, _⟩
      exact locked_lst _ h
    · rintro i x e m' hi ⟨hx, hl, a, s, bs, q2, q3, h0, haw, e1, e2, hb, rfl⟩
      simp only [turn_ev, tn_ev, Out.of_ok, List.set]
      have hi63 : i < cs.length := (List.getElem?_eq_some_iff.mp hi).1
      have lw := (List.getElem?_eq_some_iff.mp hl).1
      have p18 : (10 : Int) ^ (18 : Nat) = 1000000000000000000 := by decide
      refine seq_sat (fun e m' => Ext m m' ∧ m'[w]? = some (.lst (cs.map PV.int)) ∧ ∃ (a : Nat) (s : Int) (bs : List Int), m.length < a ∧ a ≠ w ∧ m'[m.length]? = some (deckD a s) ∧ m'[a]? = some (.lst (bs.map .int)) ∧ bs.length ≤ i + 1 ∧ e = [some (.ref k), some (.ref m.length), some (.int x), q3]) ?_ ?_
      · obtain ⟨z, hz⟩ : ∃ z, z = if x < 0 then -x else x := ⟨_, rfl⟩
        by_cases c1 : z ≥ 1000000000000000000
        · have dg : fDGet [.ref m.length, .str ("deep" : Str)] (m' ++ [.lst [.int z]]) = .ok (.ref a) (m' ++ [.lst [.int z]]) := fDGet_ok (get_some e1) rfl (by simp)
          have ad : fAdd [.ref m'.length, .ref a] (m' ++ [.lst [.int z]]) = .ok (.ref (m'.length + 1)) (m' ++ [.lst [.int z], .lst ((z :: bs).map .int)]) := by
            have := fAdd_refs (μ := m' ++ [PO.lst [.int z]]) (a := m'.length) (b := a) (l := [.int z]) (r := bs.map .int) (by simp) (get_some e2) (by show _ ≤ 16777216; simp; omega)
            simpa using this
          have e1' : (m' ++ [PO.lst [.int z], .lst ((z :: bs).map .int)])[m.length]? = some (deckD a s) := get_some e1
          have dp : fDPut [.ref m.length, .str ("deep" : Str), .ref (m'.length + 1)] (m' ++ [.lst [.int z], .lst ((z :: bs).map .int)]) = .ok .non ((m' ++ [PO.lst [.int z], PO.lst ((z :: bs).map .int)]).set m.length (deckD (m'.length + 1) s)) := by
            have := fDPut_ok (q := .str ("deep" : Str)) (p := .ref (m'.length + 1)) e1' rfl (by show 2 < 16777216; decide)
            simpa [putD] using this
          have l3 := (List.getElem?_eq_some_iff.mp e1).1
          have fin : Ext m ((m' ++ [PO.lst [.int z], PO.lst ((z :: bs).map .int)]).set m.length (deckD (m'.length + 1) s)) ∧ ((m' ++ [PO.lst [.int z], PO.lst ((z :: bs).map .int)]).set m.length (deckD (m'.length + 1) s))[w]? = some (.lst (cs.map PV.int)) ∧ ∃ (a : Nat) (s' : Int) (bs' : List Int), m.length < a ∧ a ≠ w ∧ ((m' ++ [PO.lst [.int z], PO.lst ((z :: bs).map .int)]).set m.length (deckD (m'.length + 1) s))[m.length]? = some (deckD a s') ∧ ((m' ++ [PO.lst [.int z], PO.lst ((z :: bs).map .int)]).set m.length (deckD (m'.length + 1) s))[a]? = some (.lst (bs'.map .int)) ∧ bs'.length ≤ i + 1 :=
            ⟨ext_set (hx.trans (Ext.app _ _)) (Nat.le_refl _) _, by rw [List.getElem?_set_ne (by omega)]; exact get_some hl, m'.length + 1, s, z :: bs, by omega, by omega, get_set_same e1', by rw [List.getElem?_set_ne (by omega)]; exact get_new _ _ 1, by simp; omega⟩
          simp only [cond_ev, app2_ev, app_ev, ac_ev, an_ev, v0, vS, c_ev, Res.bind_ok, fAbs_int, ← hz]
          generalize (m' ++ [PO.lst [.int z], PO.lst ((z :: bs).map .int)]) = M2 at *
          simp [p18, c1, dg, ad, dp, ← hz, -fAdd_ref]
          obtain ⟨f1, f2, a', s', bs', f3, f4, f5, f6, f7⟩ := fin
          exact ⟨f1, f2, a', f3, f4, ⟨s', f5⟩, bs', f6, f7⟩
        · simp [p18, c1, ← hz]
          exact ⟨hx, hl, a, h0, haw, ⟨s, e1⟩, bs, e2, by omega⟩
      rintro e m2 ⟨hx, hl, a, s, bs, h0, haw, e1, e2, hb, rfl⟩
      refine seq_sat (fun e m' => m' = m2 ∧ ∃ z : Int, e = [some (.ref k), some (.ref m.length), some (.int x), some (.int z)]) ?_ ?_
      · have q1 : ∀ i : Int, mulOk 2 i := fun i => .inl (by decide)
        by_cases c1 : x < 0 <;> simp [c1, q1]
      rintro e m3 ⟨rfl, z, rfl⟩
      have ds : fDGet [.ref m.length, .str ("state" : Str)] m3 = .ok (.int s) m3 := fDGet_ok e1 rfl (by simp)
      have dp : ∀ t', fDPut [.ref m.length, .str ("state" : Str), .int t'] m3 = .ok .non (m3.set m.length (deckD a t')) := fun t' => by
        have := fDPut_ok (q := .str ("state" : Str)) (p := .int t') e1 rfl (by show 2 < 16777216; decide)
        simpa [putD] using this
      have q2 : ∀ i : Int, mulOk i 1181783497276652981 := fun i => .inr (.inl (by decide))
      have fin : ∀ t', Ext m (m3.set m.length (deckD a t')) ∧ (m3.set m.length (deckD a t'))[w]? = some (.lst (cs.map PV.int)) ∧ ∃ (a' : Nat) (s' : Int) (bs' : List Int), m.length < a' ∧ a' ≠ w ∧ (m3.set m.length (deckD a t'))[m.length]? = some (deckD a' s') ∧ (m3.set m.length (deckD a t'))[a']? = some (.lst (bs'.map .int)) ∧ bs'.length ≤ i + 1 := fun t' =>
        ⟨ext_set hx (Nat.le_refl _) _, by rw [List.getElem?_set_ne (by omega)]; exact hl, a, t', bs, h0, haw, get_set_same e1, by rw [List.getElem?_set_ne (by omega)]; exact e2, hb⟩
      simp [ds, dp, q2]
      obtain ⟨f1, f2, a', s', bs', f3, f4, f5, f6, f7⟩ := fin (((s + z + 1) * 1181783497276652981 + 521288629) % 2305843009213693951)
      exact ⟨f1, f2, a', f3, f4, ⟨s', f5⟩, bs', f6, f7⟩
    · rintro e m' ⟨hx, hl, a, s, bs, q2, q3, h0, haw, e1, e2, hb, rfl⟩
      simp
      exact ⟨⟨a, h0, bs, s, e1, e2, by omega⟩, hx⟩
  · obtain ⟨j, a, rfl, hj, _⟩ := h
    simp [PV.under] at h2
    omega
end Law
end
section
set_option autoImplicit false
/-! k01: one signal, and things made of it. -/
namespace Law
open PySem PL
theorem p57 (μ : Mem) : fPow [.int 10, .int 57] μ = .ok (.int (10 ^ 57)) μ := pow10 (n := 57) (by decide) μ
/-- a signal to start from -/
def OutI (j a : Nat) (e : PL.Env) (m : Mem) : Prop := (deckF j a).inv m ∧ ∃ q2 q3 q4 q5 q6 q7 q8 q9 q10 q11 q12 q13 q14, e = En1 j q2 q3 q4 q5 q6 q7 q8 q9 q10 q11 q12 q13 q14
noncomputable def startS : Sm := (seq (setv 7 (app m__law_signal (ac (v 1) (ac (c (.int 6)) (ac (c (.int 4)) an)))))
   (seq (PL.cond (app2 fEq (app m__law_draw (ac (v 1) (ac (c (.int 3)) an))) (c (.int 0)))
    (seq (setv 12 (app m__law_pick (ac (v 1) (ac (app fLst (ac (app2 fPow (c (.int 10)) (c (.int 57))) (ac (app2 fPow (c (.int 10)) (c (.int 30))) (ac (c (.int 7)) an)))) an))))
    (setv 7 (app m__law_great (ac (v 1) (ac (v 7) (ac (v 12) (ac (app m__law_draw (ac (v 1) (ac (c (.int 9)) an))) an)))))))
    skip)
   (seq (PL.cond (app2 fNe (app fRepr (ac (app m_signal_error (ac (v 7) an)) an)) (app fRepr (ac (app m__law_due (ac (v 7) an)) an)))
    (ret (c (.bl false)))
    skip)
   (forS (iRng1 (c (.int 6))) (tn 8) askS))))
def Sg62 (X : PV) : Prop := ∃ x : Fl, FOk 62 x ∧ bl x ≤ 7 ∧ X = (ofF x).pv
theorem start_ev {j a : Nat} (m : Mem) (hp : (deckF j a).inv m) (q2 q3 q4 q5 q6 q7 q8 q9 q10 q11 q12 q13 q14 : Option PV) : (startS (En1 j q2 q3 q4 q5 q6 q7 q8 q9 q10 q11 q12 q13 q14) m).sat { nx := OutI j a } := by
  unfold startS
  have B1 : Big 62 := by unfold Big; decide +kernel
  refine seq_sat (fun e m' => (deckF j a).inv m' ∧ ∃ X : PV, Sg62 X ∧ e = En1 j q2 q3 q4 q5 q6 (some X) q8 q9 q10 q11 q12 q13 q14) ?_ ?_
  · obtain ⟨p, m1, e1, ⟨x, rfl, xl, xf⟩, g1⟩ := rsat_ex (dsignal_ev m hp 6 (by omega) 4 (by omega) (by omega))
    have e1 : m__law_signal [.ref j, .int 6, .int 4] m = .ok (ofF x).pv m1 := e1
    have hb : bl x ≤ 7 := by have := bl_lenX x; omega
    have hx : Sg62 (ofF x).pv := ⟨x, xf, hb, rfl⟩
    generalize (ofF x).pv = X at *
    simp [En1, e1]
    exact ⟨g1.i, hx⟩
  rintro e m1 ⟨hp1, _, ⟨x, xf, xb, rfl⟩, rfl⟩
  refine seq_sat (fun e m' => (deckF j a).inv m' ∧ ∃ V u s bs q12, SB 7 V u s bs ∧ e = En1 j q2 q3 q4 q5 q6 (some V) q8 q9 q10 q11 q12 q13 q14) ?_ ?_
  · obtain ⟨p, m2, e2, ⟨z, rfl, z0, z1⟩, g2⟩ := rsat_ex (ddraw_ev m1 hp1 3 (by omega))
    by_cases c : z = 0
    · subst c
      obtain ⟨p, m3, e3, hq, g3⟩ := rsat_ex (dpick_lit m2 g2.i [.int (10 ^ 57), .int (10 ^ 30), .int 7] (by simp) (by simp))
      have hq : ∃ b : Int, p = .int b ∧ 0 < b ∧ b ≤ 10 ^ 57 := by
        simp only [List.mem_cons, List.not_mem_nil, or_false] at hq
        rcases hq with rfl | rfl | rfl
        · exact ⟨_, rfl, by decide +kernel, by decide +kernel⟩
        · exact ⟨_, rfl, by decide +kernel, by decide +kernel⟩
        · exact ⟨_, rfl, by decide +kernel, by decide +kernel⟩
      obtain ⟨b, rfl, b0, b1⟩ := hq
      obtain ⟨p, m4, e4, ⟨f, rfl, f0, f1⟩, g4⟩ := rsat_ex (ddraw_ev m3 g3.i 9 (by omega))
      have c57 : (10 : Int) ^ 57 = 1000000000000000000000000000000000000000000000000000000000 := by decide +kernel
      have c60 : (10 : Int) ^ 60 = 1000000000000000000000000000000000000000000000000000000000000 := by decide +kernel
      have gr := great_ev B1 xf (by omega) (b := b) (f := f) b0 (by omega) (.ref j) m4
      obtain ⟨w, hw⟩ : ∃ w, w = (if x = (true, []) then x else scl b f x) := ⟨_, rfl⟩
      rw [← hw] at gr
      have hN : 2 * (62 * (10 : Int) ^ 57) ≤ 2 * (62 * 10 ^ 57) := by omega
      have hwf : FOk (2 * (62 * 10 ^ 57)) w ∧ bl w ≤ 7 := by
        rw [hw]
        split
        · exact ⟨xf.mono (by omega), xb⟩
        · rename_i hne
          refine ⟨fok_scl b0 xf (by omega) ⟨by omega, by omega⟩, ?_⟩
          unfold bl
          rw [ofF_scl b f hne]
          show (group ((ofF x).R.map (sclR b f))).length ≤ 7
          rw [group_scl b0, List.length_map]
          exact xb
      have hS := sb_of (M := 2 * (62 * 10 ^ 57)) (by unfold Big; decide +kernel) (by decide +kernel) hwf.1 hwf.2
      have hfin : ∃ V u s bs q12', SB 7 V u s bs ∧ En1 j q2 q3 q4 q5 q6 (some (ofF w).pv) q8 q9 q10 q11 (some (.int b)) q13 q14 = En1 j q2 q3 q4 q5 q6 (some V) q8 q9 q10 q11 q12' q13 q14 := ⟨_, _, _, _, _, hS, rfl⟩
      have ginv := ((g2.trans g3).trans g4).i
      generalize (ofF w).pv = W at *
      generalize (ofF x).pv = X at *
      simp only [En1] at hfin ⊢
      simp [e2, p57, p30, e3, e4, gr, -Int.reducePow]
      exact ⟨ginv, by simpa using hfin⟩
    · have hS := sb_of B1 (by decide +kernel) xf xb
      have hfin : ∃ V u s bs q12', SB 7 V u s bs ∧ En1 j q2 q3 q4 q5 q6 (some (ofF x).pv) q8 q9 q10 q11 q12 q13 q14 = En1 j q2 q3 q4 q5 q6 (some V) q8 q9 q10 q11 q12' q13 q14 := ⟨_, _, _, _, _, hS, rfl⟩
      generalize (ofF x).pv = X at *
      simp only [En1] at hfin ⊢
      simp [e2, c]
      exact ⟨g2.i, by simpa using hfin⟩
  rintro e m2 ⟨hp2, V, u, s, bs, q12, hV, rfl⟩
  refine seq_sat (fun e m' => m' = m2 ∧ e = En1 j q2 q3 q4 q5 q6 (some V) q8 q9 q10 q11 q12 q13 q14) ?_ ?_
  · obtain ⟨err, due⟩ := (hV.vv (a := a) (m := m2)).err (by omega)
    obtain ⟨R, hR⟩ := errV_repr V
    generalize errV V = E at *
    simp [En1, err, due, hR]
  rintro e m3 ⟨rfl, rfl⟩
  simp only [forS_ev]
  have hrng : iRng1 (c (.int 6)) (En1 j q2 q3 q4 q5 q6 (some V) q8 q9 q10 q11 q12 q13 q14) m3 = .ok ⟨(List.range 6).map (fun k : Nat => PV.int (0 + k)), []⟩ m3 := by
    simp [iRng1, big62, rangeL]
  rw [hrng]
  simp only [Out.of_ok]
  refine for_sat0 (fun k : Nat => PV.int (0 + k)) (List.range 6) (fun _ e m => InI j a V e m) (fun _ _ _ _ => locked_nil _) ⟨hp2, _, _, _, _, _, _, _, _, _, _, _, _, rfl⟩ ?_ ?_
  · rintro i y e m' hy ⟨h, q2, q3, q4, q5, q6, q8, q9, q10, q11, q12, q13, q14, rfl⟩
    have t := ask_ev hV m' h (0 + y) q2 q3 q4 q5 q6 q9 q10 q11 q12 q13 q14
    simp only [turn_ev, tn_ev, Out.of_ok, En1, List.set] at t ⊢
    exact sat_imp t (fun _ _ h => h) (fun _ _ h => h.elim) (fun _ _ h => h.elim) (fun _ _ h => h.elim)
  · rintro e m' ⟨h, q2, q3, q4, q5, q6, q8, q9, q10, q11, q12, q13, q14, rfl⟩
    exact ⟨h, _, _, _, _, _, _, _, _, _, _, _, _, _, rfl⟩
end Law
end
section
set_option autoImplicit false
/-! k01: the law. -/
namespace Law
open PySem PL
theorem good_err {V : PV} (h : Good 4000 V) (m : Mem) : m_signal_error [V] m = .ok (errV V) m ∧ m__law_due [V] m = .ok (errV V) m := ⟨signal_error_ev (d0_s3 (good_d0X h (by omega))), law_due_ev (d0_s3 (good_d0X h (by omega)))⟩
structure Lg (L : List PV) (A : List PV) (t1 o1 t2 o2 : Int) : Prop where
  eq : L = A ++ [.tup [.int t1, .int o1, .int 0, .int 1], .tup [.int t2, .int o2, .int 0, .int 1]]
  len : A.length ≤ 99
  good : ∀ x ∈ A, Good 5 x ∧ x.pd.depth ≤ 2
  b : (0 ≤ t1 ∧ t1 ≤ 2000) ∧ (0 ≤ o1 ∧ o1 ≤ 2) ∧ (0 ≤ t2 ∧ t2 ≤ 2000) ∧ 0 ≤ o2 ∧ o2 ≤ 2
theorem lg_of {p : PV} (h : PMany p) : ∃ L A t1 o1 t2 o2, p = .tup [.non, .tup L, .non] ∧ Lg L A t1 o1 t2 o2 := by
  obtain ⟨n, h1, h2, rfl⟩ := h
  obtain ⟨k, rfl⟩ : ∃ k, n = k + 2 := ⟨n - 2, by omega⟩
  refine ⟨_, (((List.range k).map rMany).map one).map Bu.pv, 10 * (k : Int), 1 + (k : Int) % 2, 10 * ((k + 1 : Nat) : Int), 1 + ((k + 1 : Nat) : Int) % 2, rfl, ?_, ?_, ?_, ?_⟩
  · rw [List.range_succ, List.range_succ, List.append_assoc]
    simp only [List.map_append, List.singleton_append, List.map_cons, List.map_nil]
    have e : ∀ k : Nat, (one (rMany k)).pv = .tup [.int (10 * (k : Int)), .int (1 + (k : Int) % 2), .int 0, .int 1] := fun k => by
      have : 10 * (k : Int) + 1 + (k : Int) % 2 - 10 * (k : Int) = 1 + (k : Int) % 2 := by omega
      simp [one, rMany, Bu.pv, this]
    rw [e, e]
  · simp; omega
  · intro x hx
    simp only [List.map_map, List.mem_map, List.mem_range, Function.comp_apply] at hx
    obtain ⟨i, hi, rfl⟩ := hx
    have c : (10000 : Nat) < 10 ^ 200 := by decide +kernel
    have z : ∀ v : Int, -10000 ≤ v → v ≤ 10000 → Good 1 (.int v) := fun v a b => Good.int (by unfold sml; omega)
    unfold one rMany Bu.pv
    exact ⟨Good.tup (Goods.cons (z _ (by simp only; omega) (by simp only; omega)) (Goods.cons (z _ (by simp only; omega) (by simp only; omega)) (Goods.cons (z _ (by simp only; omega) (by simp only; omega)) (Goods.cons (z _ (by simp only; omega) (by simp only; omega)) Goods.nil)))) (by simp), by simp⟩
  · omega
theorem always_none : errV (.tup [.int 0, .tup [], .int 0]) = .non := by
  have e1 : (endB (.int 0) && endB (.int 0) && decide (([] : List PV).length ≤ 100)) = true := by decide +kernel
  unfold errV
  simp only [e1, if_true]
  simp [tagV, busOf, restV, sinceB, isAll, aheadAt, optZ, PyData.eqv, PyData.eqvAll]
theorem cut_last (A : List PV) (p : PV) : PL.cut (A ++ [p]) none (some (-1)) = A := by
  unfold PL.cut
  have h1 : sIx (A ++ [p]).length 0 none = 0 := rfl
  have h2 : sIx (A ++ [p]).length (A ++ [p]).length (some (-1)) = A.length := by
    unfold sIx
    simp only
    rw [if_pos (by omega)]
    simp
    omega
  rw [h1, h2]
  simp
theorem ixOf_near (A : List PV) (p q : PV) (μ : Mem) : ixOf (A ++ [p, q]) (-2) μ = .ok p μ := by
  unfold ixOf atI ixN
  rw [if_neg (by omega), if_pos (by simp; omega)]
  have : ((-2 : Int) + ((A ++ [p, q]).length : Nat)).toNat = A.length := by simp; omega
  simp only [Option.bind_some, this]
  simp
noncomputable def endS : Sm := (seq (setv 3 (app m__law_many (ac (v 1) an)))
  (seq (setv 4 (app2 fIx (v 3) (c (.int 1))))
  (seq (par 9 10 (app2 fIx (v 4) (app1 fNeg (c (.int 1)))) (app2 fIx (v 4) (app1 fNeg (c (.int 2)))))
  (seq (setv 5 (app2 fAdd (app2 fIx (v 10) (c (.int 0))) (app2 fIx (v 10) (c (.int 1)))))
  (seq (forS (iVal (app fTup (ac (v 9) (ac (app fTup (ac (v 5) (ac (app2 fIx (v 9) (c (.int 1))) (ac (c (.int 0)) (ac (c (.int 1)) an))))) (ac (app fTup (ac (app2 fAdd (v 5) (c (.int 2))) (ac (app2 fIx (v 10) (c (.int 1))) (ac (c (.int 0)) (ac (c (.int 1)) an))))) (ac (app fTup (ac (app2 fIx (v 9) (c (.int 0))) (ac (app2 fIx (v 9) (c (.int 1))) (ac (c (.int 0)) (ac (c (.int 0)) an))))) (ac (v 10) an))))))) (tn 6)
   (seq (setv 11 (app fTup (ac (c .non) (ac (app2 fAdd (sl (v 4) (c .non) (app1 fPart (app1 fNeg (c (.int 1))))) (app fTup (ac (v 6) an))) (ac (app m__law_pick (ac (v 1) (ac (app fLst (ac (c .non) (ac (app2 fIx (v 9) (c (.int 0))) (ac (app2 fAdd (app2 fIx (v 9) (c (.int 0))) (c (.int 9))) an)))) an))) an)))))
   (PL.cond (app2 fNe (app fRepr (ac (app m_signal_error (ac (v 11) an)) an)) (app fRepr (ac (app m__law_due (ac (v 11) an)) an)))
    (ret (c (.bl false)))
    skip)))
  (ret (PL.and (app2 fEq (app fRepr (ac (app m_signal_error (ac (v 3) an)) an)) (app fRepr (ac (app m__law_due (ac (v 3) an)) an))) (app2 fIsN (app m_signal_error (ac (app fTup (ac (c (.int 0)) (ac (app fTup an) (ac (c (.int 0)) an)))) an)) (c .non)))))))))
theorem end_ev {j a : Nat} (m : Mem) (hp : (deckF j a).inv m) (q2 q3 q4 q5 q6 q7 q8 q9 q10 q11 q12 q13 q14 : Option PV) : (endS (En1 j q2 q3 q4 q5 q6 q7 q8 q9 q10 q11 q12 q13 q14) m).sat { rt := fun p _ => p = .bl true } := by
  unfold endS
  obtain ⟨p, m1, e1, hP, g1⟩ := rsat_ex (many_ev m hp)
  obtain ⟨L, A, t1, o1, t2, o2, rfl, hL⟩ := lg_of hP
  obtain ⟨hLe, hAl, hAg, ⟨b1, b2⟩, ⟨b3, b4⟩, ⟨b5, b6⟩, b7, b8⟩ := hL
  have hp1 := g1.i
  have cc : (10000 : Nat) < 10 ^ 200 := by decide +kernel
  have z : ∀ v : Int, -9000 ≤ v → v ≤ 9000 → Good 1 (.int v) := fun v a b => Good.int (by unfold sml; omega)
  have g4 : ∀ x y w u : Int, (-9000 ≤ x ∧ x ≤ 9000) → (-9000 ≤ y ∧ y ≤ 9000) → (-9000 ≤ w ∧ w ≤ 9000) → (-9000 ≤ u ∧ u ≤ 9000) → Good 5 (.tup [.int x, .int y, .int w, .int u]) ∧ (PV.tup [.int x, .int y, .int w, .int u]).pd.depth ≤ 2 := fun x y w u hx hy hw hu => ⟨Good.tup (Goods.cons (z _ hx.1 hx.2) (Goods.cons (z _ hy.1 hy.2) (Goods.cons (z _ hw.1 hw.2) (Goods.cons (z _ hu.1 hu.2) Goods.nil)))) (by simp), by simp⟩
  obtain ⟨P1, hP1⟩ : ∃ P : PV, P = .tup [.int t1, .int o1, .int 0, .int 1] := ⟨_, rfl⟩
  obtain ⟨P2, hP2⟩ : ∃ P : PV, P = .tup [.int t2, .int o2, .int 0, .int 1] := ⟨_, rfl⟩
  rw [← hP1, ← hP2] at hLe
  have gp1 : Good 5 P1 ∧ P1.pd.depth ≤ 2 := by rw [hP1]; exact g4 _ _ _ _ ⟨by omega, by omega⟩ ⟨by omega, by omega⟩ ⟨by omega, by omega⟩ ⟨by omega, by omega⟩
  have gp2 : Good 5 P2 ∧ P2.pd.depth ≤ 2 := by rw [hP2]; exact g4 _ _ _ _ ⟨by omega, by omega⟩ ⟨by omega, by omega⟩ ⟨by omega, by omega⟩ ⟨by omega, by omega⟩
  have gth : ∀ (b q : PV), (Good 5 b ∧ b.pd.depth ≤ 2) → (q = .non ∨ ∃ z : Int, q = .int z ∧ -9000 ≤ z ∧ z ≤ 9000) → Good 4000 (.tup [.non, .tup (A ++ [P1] ++ [b]), q]) := fun b q hb hq => by
    have hB : ∀ x ∈ A ++ [P1] ++ [b], Good 5 x ∧ x.pd.depth ≤ 2 := fun x hx => by
      rcases List.mem_append.mp hx with h | h
      · rcases List.mem_append.mp h with h | h
        · exact hAg x h
        · rw [List.mem_singleton] at h; rw [h]; exact gp1
      · rw [List.mem_singleton] at h; rw [h]; exact hb
    obtain ⟨gB, dB⟩ := goods_of hB
    have hl : (A ++ [P1] ++ [b]).length ≤ 101 := by simp; omega
    have gq : Good 1 q ∧ q.pd.depth ≤ 1 := by
      rcases hq with rfl | ⟨v, rfl, h1, h2⟩
      · exact ⟨⟨by simp, by simp, by simp, by simp⟩, by simp⟩
      · exact ⟨z v h1 h2, by simp⟩
    have gt : Good (5 * (A ++ [P1] ++ [b]).length + 1) (.tup (A ++ [P1] ++ [b])) := Good.tup gB (by omega)
    refine (Good.tup (Goods.cons (k := 1) (p := .non) ⟨by simp, by simp, by simp, by simp⟩ (Goods.cons gt (Goods.cons gq.1 Goods.nil))) ?_).mono (by omega)
    have := gq.2
    simp only [dps_cons, pds_cons, PV.pds, PyData.depthAll]
    simp at dB ⊢
    omega
  have gG : Good 4000 (.tup [.non, .tup L, .non]) := by
    have := gth P2 .non gp2 (.inl rfl)
    rw [hLe]
    simpa using this
  have i1 : ∀ μ, fIx [.tup L, .int (-1)] μ = .ok P2 μ := fun μ => by
    have : A ++ [P1, P2] = (A ++ [P1]) ++ [P2] := by simp
    rw [fIx_tup, hLe, this]
    exact ixOf_last μ _ _
  have i2 : ∀ μ, fIx [.tup L, .int (-2)] μ = .ok P1 μ := fun μ => by rw [fIx_tup, hLe]; exact ixOf_near _ _ _ μ
  have sl1 : ∀ μ, fSl [.tup L, .non, .int (-1)] μ = .ok (.tup (A ++ [P1])) μ := fun μ => by
    have : A ++ [P1, P2] = (A ++ [P1]) ++ [P2] := by simp
    rw [fSl_tup01, hLe, this, cut_last]
  have ad : ∀ (b : PV) μ, fAdd [.tup (A ++ [P1]), .tup [b]] μ = .ok (.tup (A ++ [P1] ++ [b])) μ := fun b μ => fAdd_tup μ (by have : SL = 16777216 := rfl; simp; omega)
  obtain ⟨T, hT⟩ : ∃ T : List PV, T = [P2, .tup [.int (t1 + o1), .int o2, .int 0, .int 1], .tup [.int (t1 + o1 + 2), .int o1, .int 0, .int 1], .tup [.int t2, .int o2, .int 0, .int 0], P1] := ⟨_, rfl⟩
  have hTg : ∀ b ∈ T, Good 5 b ∧ b.pd.depth ≤ 2 := fun b hb => by
    rw [hT] at hb
    simp only [List.mem_cons, List.not_mem_nil, or_false] at hb
    rcases hb with rfl | rfl | rfl | rfl | rfl
    · exact gp2
    · exact g4 _ _ _ _ ⟨by omega, by omega⟩ ⟨by omega, by omega⟩ ⟨by omega, by omega⟩ ⟨by omega, by omega⟩
    · exact g4 _ _ _ _ ⟨by omega, by omega⟩ ⟨by omega, by omega⟩ ⟨by omega, by omega⟩ ⟨by omega, by omega⟩
    · exact g4 _ _ _ _ ⟨by omega, by omega⟩ ⟨by omega, by omega⟩ ⟨by omega, by omega⟩ ⟨by omega, by omega⟩
    · exact gp1
  clear hLe hAg hP
  refine seq_sat (fun e m' => m' = m1 ∧ e = En1 j q2 (some (.tup [.non, .tup L, .non])) q4 q5 q6 q7 q8 q9 q10 q11 q12 q13 q14) (by simp [En1, e1]) ?_
  rintro e m' ⟨rfl, rfl⟩
  refine seq_sat (fun e m => m = m' ∧ e = En1 j q2 (some (.tup [.non, .tup L, .non])) (some (.tup L)) q5 q6 q7 q8 q9 q10 q11 q12 q13 q14) (by simp [En1]) ?_
  rintro e m2 ⟨rfl, rfl⟩
  refine seq_sat (fun e m => m = m2 ∧ e = En1 j q2 (some (.tup [.non, .tup L, .non])) (some (.tup L)) q5 q6 q7 q8 (some P2) (some P1) q11 q12 q13 q14) (by simp [-fIx_tup, En1, par_ev, i1, i2]) ?_
  rintro e m ⟨rfl, rfl⟩
  refine seq_sat (fun e m2 => m2 = m ∧ e = En1 j q2 (some (.tup [.non, .tup L, .non])) (some (.tup L)) (some (.int (t1 + o1))) q6 q7 q8 (some P2) (some P1) q11 q12 q13 q14) (by simp [En1, hP1]) ?_
  rintro e m2 ⟨rfl, rfl⟩
  refine seq_sat (fun e m => (deckF j a).inv m ∧ ∃ q6 q11, e = En1 j q2 (some (.tup [.non, .tup L, .non])) (some (.tup L)) (some (.int (t1 + o1))) q6 q7 q8 (some P2) (some P1) q11 q12 q13 q14) ?_ ?_
  · simp only [forS_ev]
    have hrng : iVal (app fTup (ac (v 9) (ac (app fTup (ac (v 5) (ac (app2 fIx (v 9) (c (.int 1))) (ac (c (.int 0)) (ac (c (.int 1)) an))))) (ac (app fTup (ac (app2 fAdd (v 5) (c (.int 2))) (ac (app2 fIx (v 10) (c (.int 1))) (ac (c (.int 0)) (ac (c (.int 1)) an))))) (ac (app fTup (ac (app2 fIx (v 9) (c (.int 0))) (ac (app2 fIx (v 9) (c (.int 1))) (ac (c (.int 0)) (ac (c (.int 0)) an))))) (ac (v 10) an)))))) (En1 j q2 (some (.tup [.non, .tup L, .non])) (some (.tup L)) (some (.int (t1 + o1))) q6 q7 q8 (some P2) (some P1) q11 q12 q13 q14) m2 = .ok ⟨T.map id, []⟩ m2 := by
      rw [List.map_id, hT, hP1, hP2]
      simp [En1]
    rw [hrng]
    simp only [Out.of_ok]
    refine for_sat0 id T (fun _ e m => (deckF j a).inv m ∧ ∃ q6 q11, e = En1 j q2 (some (.tup [.non, .tup L, .non])) (some (.tup L)) (some (.int (t1 + o1))) q6 q7 q8 (some P2) (some P1) q11 q12 q13 q14) (fun _ _ _ _ => locked_nil _) ⟨hp1, _, _, rfl⟩ ?_ (fun _ _ h => h)
    rintro i b e m hb ⟨h, q6, q11, rfl⟩
    have hbg := hTg b (List.mem_of_getElem? hb)
    simp only [turn_ev, tn_ev, Out.of_ok, En1, List.set, id_eq]
    obtain ⟨q, m3, e3, hq, g3⟩ := rsat_ex (dpick_lit m h [.non, .int t2, .int (t2 + 9)] (by simp) (by simp))
    have hq : q = .non ∨ ∃ z : Int, q = .int z ∧ -9000 ≤ z ∧ z ≤ 9000 := by
      simp only [List.mem_cons, List.not_mem_nil, or_false] at hq
      rcases hq with rfl | rfl | rfl
      · exact .inl rfl
      · exact .inr ⟨_, rfl, by omega, by omega⟩
      · exact .inr ⟨_, rfl, by omega, by omega⟩
    have gt := gth b q hbg hq
    obtain ⟨er, du⟩ := good_err gt m3
    obtain ⟨R, hR⟩ := errV_repr (.tup [.non, .tup (A ++ [P1] ++ [b]), q])
    have adb := ad b
    have j0 : ∀ μ, fIx [P2, .int 0] μ = .ok (.int t2) μ := fun μ => by rw [hP2]; simp
    generalize errV (.tup [.non, .tup (A ++ [P1] ++ [b]), q]) = E at *
    generalize A ++ [P1] ++ [b] = AB at *
    generalize A ++ [P1] = AP at *
    simp [-fSl_tup01, sl1, adb, j0, e3, er, du, hR]
    exact g3.i
  rintro e m ⟨h, q6, q11, rfl⟩
  obtain ⟨er, du⟩ := good_err gG m
  obtain ⟨R, hR⟩ := errV_repr (.tup [.non, .tup L, .non])
  have al := (good_err (V := .tup [.int 0, .tup [], .int 0]) ⟨by simp, by decide +kernel, by simp, by simp⟩ m).1
  rw [always_none] at al
  generalize errV (.tup [.non, .tup L, .non]) = E at *
  simp [En1, er, du, hR, al, isNon]
theorem law_pure (ns : List Int) (hn : ns.length ≤ 63) (_ : ∀ z ∈ ns, Builtin.Int.intBits z ≤ 1048576) : ∃ μ', m_law [.ref 0] [.ro (ns.map PV.int)] = .ok (.bl true) μ' := by
  have key : (run 15 b_law [.ref 0] [.ro (ns.map PV.int)]).sat fun p _ => p = .bl true := by
    apply run_sat
    unfold b_law
    simp only [List.map_cons, List.map_nil, List.length_cons, List.length_nil, List.replicate, List.cons_append, List.nil_append, Nat.reduceAdd, Nat.reduceSub]
    obtain ⟨p, m1, e1, j, a, rfl, hj, hinv, hx⟩ := rsat_ex (deck_ev [.ro (ns.map PV.int)] 0 ns (.inl (by simp)) (by omega))
    refine seq_sat (fun e m => m = m1 ∧ e = En1 j none none none none none none none none none none none none none) (by simp [En1, e1]) ?_
    rintro e m ⟨rfl, rfl⟩
    refine seq_sat (OutI j a) ?_ ?_
    · simp only [forS_ev]
      have hrng : iRng1 (c (.int 4)) (En1 j none none none none none none none none none none none none none) m = .ok ⟨(List.range 4).map (fun k : Nat => PV.int (0 + k)), []⟩ m := by
        simp [iRng1, big62, rangeL]
      rw [hrng]
      simp only [Out.of_ok]
      refine for_sat0 (fun k : Nat => PV.int (0 + k)) (List.range 4) (fun _ e m => OutI j a e m) (fun _ _ _ _ => locked_nil _) ⟨hinv, _, _, _, _, _, _, _, _, _, _, _, _, _, rfl⟩ ?_ (fun _ _ h => h)
      rintro i y e m' hy ⟨h, q2, q3, q4, q5, q6, q7, q8, q9, q10, q11, q12, q13, q14, rfl⟩
      have t := start_ev m' h (some (.int (0 + y))) q3 q4 q5 q6 q7 q8 q9 q10 q11 q12 q13 q14
      simp only [turn_ev, tn_ev, Out.of_ok, En1, List.set] at t ⊢
      exact sat_imp t (fun _ _ h => h) (fun _ _ h => h.elim) (fun _ _ h => h.elim) (fun _ _ h => h.elim)
    rintro e m2 ⟨h, q2, q3, q4, q5, q6, q7, q8, q9, q10, q11, q12, q13, q14, rfl⟩
    exact sat_imp (end_ev m2 h q2 q3 q4 q5 q6 q7 q8 q9 q10 q11 q12 q13 q14) (fun _ _ h => h.elim) (fun _ _ h => h) (fun _ _ h => h.elim) (fun _ _ h => h.elim)
  obtain ⟨p, m, e, rfl⟩ := rsat_ex key
  unfold m_law
  rw [fn_ev, e]
  unfold gc
  simp only
  split
  · exact ⟨_, rfl⟩
  · exact ⟨_, rfl⟩
end Law
end
section
set_option Elab.async false
open PySem PySem.W PyProof.Rows
set_option maxRecDepth 100000 in
set_option maxHeartbeats 0 in
theorem PySem.Challenge.cw_latewires_k01_what_is_a_signal_holds : PySem.Challenge.rw_latewires_k01_what_is_a_signal.Holds := by
  w_on; o_law; k_head; (case hw => w_witness2)
  k_fill
  refine PL.walkP (l := PySem.Challenge.rw_latewires_k01_what_is_a_signal) (n := 63) (k := 5) (x := "script") (st := Law.s_law) (m := Law.m_law) rfl (by decide) rfl ⟨rfl, by decide, by decide⟩ (fun w h Y => PySem.W.kIn_of Y) Law.bd_law ?F Law.law_pure
  case F =>
    intro w mg h base KX G Kb Gb
    refine' Law.all_mk KX G ?z_abs ?z_bool ?z_enumerate ?z_int ?z_isinstance ?z_len ?z_list ?z_range ?z_repr ?z_str ?z_tuple ?y_ALWAYS_ON ?q_ALWAYS_ON ?q_ALWAYS_ON_1 ?y_MAX_BURSTS ?y_MAX_NUMBER ?a_is_integer ?l_is_integer ?c_is_integer ?k_is_integer ?a_is_number ?l_is_number ?c_is_number ?k_is_number ?a_is_burst ?l_is_burst ?c_is_burst ?k_is_burst ?a_end_of ?l_end_of ?c_end_of ?k_end_of ?a_takes_on ?l_takes_on ?c_takes_on ?k_takes_on ?a_order_error ?l_order_error ?c_order_error ?k_order_error ?a_ends_of ?l_ends_of ?c_ends_of ?k_ends_of ?a_signal_error ?l_signal_error ?c_signal_error ?k_signal_error ?a__law_deck ?l__law_deck ?c__law_deck ?k__law_deck ?a__law_draw ?l__law_draw ?c__law_draw ?k__law_draw ?a__law_pick ?l__law_pick ?c__law_pick ?k__law_pick ?a__law_grouped ?l__law_grouped ?c__law_grouped ?k__law_grouped ?a__law_row_of_runs ?l__law_row_of_runs ?c__law_row_of_runs ?k__law_row_of_runs ?a__law_signal ?l__law_signal ?c__law_signal ?k__law_signal ?a__law_great ?l__law_great ?c__law_great ?k__law_great ?a__law_is_number ?l__law_is_number ?c__law_is_number ?k__law_is_number ?a__law_is_burst ?l__law_is_burst ?c__law_is_burst ?k__law_is_burst ?a__law_is_formed ?l__law_is_formed ?c__law_is_formed ?k__law_is_formed ?a__law_due ?l__law_due ?c__law_due ?k__law_due ?a__law_odd_item ?l__law_odd_item ?c__law_odd_item ?k__law_odd_item ?a__law_bent ?l__law_bent ?c__law_bent ?k__law_bent ?a__law_bent_more ?l__law_bent_more ?c__law_bent_more ?k__law_bent_more ?a__law_many ?l__law_many ?c__law_many ?k__law_many ?a_law ?l_law ?c_law ?k_law
    (case z_abs => k_is)
    (case z_bool => k_is)
    (case z_enumerate => k_is)
    (case z_int => k_is)
    (case z_isinstance => k_is)
    (case z_len => k_is)
    (case z_list => k_is)
    (case z_range => k_is)
    (case z_repr => k_is)
    (case z_str => k_is)
    (case z_tuple => k_is)
    (case y_ALWAYS_ON => k_is)
    (case q_ALWAYS_ON => k_is)
    (case q_ALWAYS_ON_1 => k_is)
    (case y_MAX_BURSTS => k_is)
    (case y_MAX_NUMBER => k_is)
    (case a_is_integer => k_is)
    (case l_is_integer => k_is)
    (case c_is_integer => k_is)
    (case k_is_integer => k_is)
    (case a_is_number => k_is)
    (case l_is_number => k_is)
    (case c_is_number => k_is)
    (case k_is_number => k_is)
    (case a_is_burst => k_is)
    (case l_is_burst => k_is)
    (case c_is_burst => k_is)
    (case k_is_burst => k_is)
    (case a_end_of => k_is)
    (case l_end_of => k_is)
    (case c_end_of => k_is)
    (case k_end_of => k_is)
    (case a_takes_on => k_is)
    (case l_takes_on => k_is)
    (case c_takes_on => k_is)
    (case k_takes_on => k_is)
    (case a_order_error => k_is)
    (case l_order_error => k_is)
    (case c_order_error => k_is)
    (case k_order_error => k_is)
    (case a_ends_of => k_is)
    (case l_ends_of => k_is)
    (case c_ends_of => k_is)
    (case k_ends_of => k_is)
    (case a_signal_error => k_is)
    (case l_signal_error => k_is)
    (case c_signal_error => k_is)
    (case k_signal_error => k_is)
    (case a__law_deck => k_is)
    (case l__law_deck => k_is)
    (case c__law_deck => k_is)
    (case k__law_deck => k_is)
    (case a__law_draw => k_is)
    (case l__law_draw => k_is)
    (case c__law_draw => k_is)
    (case k__law_draw => k_is)
    (case a__law_pick => k_is)
    (case l__law_pick => k_is)
    (case c__law_pick => k_is)
    (case k__law_pick => k_is)
    (case a__law_grouped => k_is)
    (case l__law_grouped => k_is)
    (case c__law_grouped => k_is)
    (case k__law_grouped => k_is)
    (case a__law_row_of_runs => k_is)
    (case l__law_row_of_runs => k_is)
    (case c__law_row_of_runs => k_is)
    (case k__law_row_of_runs => k_is)
    (case a__law_signal => k_is)
    (case l__law_signal => k_is)
    (case c__law_signal => k_is)
    (case k__law_signal => k_is)
    (case a__law_great => k_is)
    (case l__law_great => k_is)
    (case c__law_great => k_is)
    (case k__law_great => k_is)
    (case a__law_is_number => k_is)
    (case l__law_is_number => k_is)
    (case c__law_is_number => k_is)
    (case k__law_is_number => k_is)
    (case a__law_is_burst => k_is)
    (case l__law_is_burst => k_is)
    (case c__law_is_burst => k_is)
    (case k__law_is_burst => k_is)
    (case a__law_is_formed => k_is)
    (case l__law_is_formed => k_is)
    (case c__law_is_formed => k_is)
    (case k__law_is_formed => k_is)
    (case a__law_due => k_is)
    (case l__law_due => k_is)
    (case c__law_due => k_is)
    (case k__law_due => k_is)
    (case a__law_odd_item => k_is)
    (case l__law_odd_item => k_is)
    (case c__law_odd_item => k_is)
    (case k__law_odd_item => k_is)
    (case a__law_bent => k_is)
    (case l__law_bent => k_is)
    (case c__law_bent => k_is)
    (case k__law_bent => k_is)
    (case a__law_bent_more => k_is)
    (case l__law_bent_more => k_is)
    (case c__law_bent_more => k_is)
    (case k__law_bent_more => k_is)
    (case a__law_many => k_is)
    (case l__law_many => k_is)
    (case c__law_many => k_is)
    (case k__law_many => k_is)
    (case a_law => k_is)
    (case l_law => k_is)
    (case c_law => k_is)
    (case k_law => k_is)
end
