import PyProof.Rows.All
import Wide.All
import OpenK.AllK
import Wide.FinOn
import PyProof.ReprReads
import PyProof.EqLayable
import PyProof.ReprText
import PyProof.FitsInt
import PyProof.StrLawsRepr
import HandS.ForMost
import HandS.Deep
import HandS.TupAny
import HandS.TupMul
import HandS.Wide
import HandS.Zip
import HandS.IsInst
import HandS.Style
import HandS.EndBits
import HandS.Star
import HandS.WideBits
import HandS.SortInts
import HandS.SetFor
import HandS.Strs
import HandS.Flow
import HandS.Text
import KE.GoesMore
import PySem.Challenge.RW_latewires_k15_whole_numbers_ahead
set_option Elab.async false
section
set_option autoImplicit false
/-! The pure layer: Python values without a heap, lists as cells of a small memory, defs as functions. -/
namespace PL
open PySem
/-- a value: tuples are data, a list (or dict) is a cell of the memory, cst: an object of the module by its address -/
inductive PV where
  | non | bl (b : Bool) | int (i : Int) | str (x : Str) | tup (l : List PV) | ref (n : Nat) | cst (a : Nat)
deriving Inhabited
/-- a cell -/
inductive PO where
  | lst (l : List PV) | ro (l : List PV) | dct (kvs : List (Sum Int Str × PV))
deriving Inhabited
abbrev Mem := List PO
abbrev Env := List (Option PV)
/-- an exception: its class by name, what it keeps -/
structure PX where
  cls : Str
  fs : List (Str × PV)
inductive Res (α : Type) where
  | ok (a : α) (μ : Mem) | exc (c : PX) (μ : Mem) | stuck
namespace Res
variable {α β : Type}
def bind (r : Res α) (k : α → Mem → Res β) : Res β := match r with | .ok a μ => k a μ | .exc c μ => .exc c μ | .stuck => .stuck
@[simp] theorem bind_ok (a : α) (μ : Mem) (k : α → Mem → Res β) : (Res.ok a μ).bind k = k a μ := id rfl
@[simp] theorem bind_exc (c : PX) (μ : Mem) (k : α → Mem → Res β) : (Res.exc c μ : Res α).bind k = .exc c μ := id rfl
@[simp] theorem bind_stuck (k : α → Mem → Res β) : (Res.stuck : Res α).bind k = .stuck := id rfl
end Res
abbrev Ex := Env → Mem → Res PV
abbrev Fn := List PV → Mem → Res PV
abbrev Ag := Env → Mem → Res (List PV)
abbrev SL : Nat := 16777216
/-! ### expressions -/
def v (i : Nat) : Ex := fun env μ => match env[i]? with | some (some p) => .ok p μ | _ => .stuck
def c (p : PV) : Ex := fun _ μ => .ok p μ
def an : Ag := fun _ μ => .ok [] μ
def ac (a : Ex) (r : Ag) : Ag := fun env μ => (a env μ).bind fun p μ1 => (r env μ1).bind fun ps μ2 => .ok (p :: ps) μ2
/-- *a, .. -/
def acs (a : Ex) (r : Ag) : Ag := fun env μ => (a env μ).bind fun p μ1 => match p with
  | .tup l => (r env μ1).bind fun ps μ2 => .ok (l ++ ps) μ2
  | .ref n => match μ1[n]? with | some (.lst l) => (r env μ1).bind fun ps μ2 => .ok (l ++ ps) μ2 | _ => .stuck
  | _ => .stuck
def app (f : Fn) (as : Ag) : Ex := fun env μ => (as env μ).bind fun ps μ1 => f ps μ1
def app1 (f : Fn) (a : Ex) : Ex := fun env μ => (a env μ).bind fun p μ1 => f [p] μ1
/-- the receiver of a method: a list, a text, a dict -/
inductive Kd where | list | str | dict
def isKd (k : Kd) (μ : Mem) (p : PV) : Bool := match k, p with
  | .str, .str _ => true
  | .list, .ref n => match μ[n]? with | some (.lst _) => true | _ => false
  | .dict, .ref n => match μ[n]? with | some (.dct _) => true | _ => false
  | _, _ => false
def mth (k : Kd) (f : Fn) (o : Ex) (g : Ag) : Ex := fun env μ => (o env μ).bind fun p μ1 => if isKd k μ1 p = true then (g env μ1).bind fun ps μ2 => f (p :: ps) μ2 else .stuck
def app2 (f : Fn) (a b : Ex) : Ex := fun env μ => (a env μ).bind fun p μ1 => (b env μ1).bind fun q μ2 => f [p, q] μ2
def app3 (f : Fn) (a b d : Ex) : Ex := fun env μ => (a env μ).bind fun p μ1 => (b env μ1).bind fun q μ2 => (d env μ2).bind fun r μ3 => f [p, q, r] μ3
/-- what follows a truth value -/
def onB {α : Type} (p : PV) (a b : Res α) : Res α := match p with | .bl true => a | .bl false => b | _ => .stuck
@[simp] theorem onB_true {α : Type} (a b : Res α) : onB (.bl true) a b = a := id rfl
@[simp] theorem onB_false {α : Type} (a b : Res α) : onB (.bl false) a b = b := id rfl
theorem onB_bl {α : Type} (t : Bool) (a b : Res α) : onB (.bl t) a b = if t = true then a else b := by cases t <;> rfl
def asB (p : PV) (μ : Mem) : Res Bool := match p with | .bl b => .ok b μ | _ => .stuck
theorem onB_asB {α : Type} (p : PV) (μ : Mem) (a b : Res α) : onB p a b = (asB p μ).bind fun t _ => if t = true then a else b := by
  cases p with
  | bl t => cases t <;> rfl
  | _ => rfl
def ite (t a b : Ex) : Ex := fun env μ => (t env μ).bind fun p μ1 => onB p (a env μ1) (b env μ1)
def and (a b : Ex) : Ex := fun env μ => (a env μ).bind fun p μ1 => onB p (b env μ1) (.ok (.bl false) μ1)
def or (a b : Ex) : Ex := fun env μ => (a env μ).bind fun p μ1 => onB p (.ok (.bl true) μ1) (b env μ1)
def chain (f g : Fn) (a b d : Ex) : Ex := fun env μ => (a env μ).bind fun p μ1 => (b env μ1).bind fun q μ2 => (f [p, q] μ2).bind fun t μ3 =>
  onB t ((d env μ3).bind fun r μ4 => g [q, r] μ4) (.ok (.bl false) μ3)
/-! ### targets -/
abbrev Tg := PV → Env → Mem → Res Env
abbrev Tgs := List PV → Env → Mem → Res Env
def tn (i : Nat) : Tg := fun p env μ => .ok (env.set i (some p)) μ
def t0 : Tgs := fun ps env μ => match ps with | [] => .ok env μ | _ => .stuck
def tc (g : Tg) (r : Tgs) : Tgs := fun ps env μ => match ps with | p :: qs => (g p env μ).bind fun e μ1 => r qs e μ1 | [] => .stuck
def tt (n : Nat) (r : Tgs) : Tg := fun p env μ => match p with
  | .tup l => if l.length = n then r l env μ else .stuck
  | .ref k => match μ[k]? with | some (.lst l) => if l.length = n then r l env μ else .stuck | _ => .stuck
  | _ => .stuck
def tsub (f : Fn) (o i : Ex) : Tg := fun p env μ => (o env μ).bind fun x μ1 => (i env μ1).bind fun y μ2 => (f [x, y, p] μ2).bind fun _ μ3 => .ok env μ3
/-! ### statements -/
inductive Out where
  | nx (env : Env) (μ : Mem) | rt (p : PV) (μ : Mem) | bk (env : Env) (μ : Mem) | ct (env : Env) (μ : Mem) | exc (c : PX) (μ : Mem) | stuck
def Out.of {α : Type} (r : Res α) (k : α → Mem → Out) : Out := match r with | .ok a μ => k a μ | .exc c μ => .exc c μ | .stuck => .stuck
@[simp] theorem Out.of_ok {α : Type} (a : α) (μ : Mem) (k : α → Mem → Out) : Out.of (.ok a μ) k = k a μ := id rfl
@[simp] theorem Out.of_exc {α : Type} (c : PX) (μ : Mem) (k : α → Mem → Out) : Out.of (.exc c μ : Res α) k = .exc c μ := id rfl
@[simp] theorem Out.of_stuck {α : Type} (k : α → Mem → Out) : Out.of (.stuck : Res α) k = .stuck := id rfl
def Out.then (o : Out) (k : Env → Mem → Out) : Out := match o with | .nx e m => k e m | o => o
@[simp] theorem Out.then_nx (e : Env) (m : Mem) (k : Env → Mem → Out) : (Out.nx e m).then k = k e m := id rfl
@[simp] theorem Out.then_rt (p : PV) (m : Mem) (k : Env → Mem → Out) : (Out.rt p m).then k = .rt p m := id rfl
@[simp] theorem Out.then_bk (e : Env) (m : Mem) (k : Env → Mem → Out) : (Out.bk e m).then k = .bk e m := id rfl
@[simp] theorem Out.then_ct (e : Env) (m : Mem) (k : Env → Mem → Out) : (Out.ct e m).then k = .ct e m := id rfl
@[simp] theorem Out.then_exc (x : PX) (m : Mem) (k : Env → Mem → Out) : (Out.exc x m).then k = .exc x m := id rfl
@[simp] theorem Out.then_stuck (k : Env → Mem → Out) : (Out.stuck).then k = .stuck := id rfl
abbrev Sm := Env → Mem → Out
/-- what this layer does not follow -/
def stuckS : Sm := fun _ _ => .stuck
def skip : Sm := fun env μ => .nx env μ
def brk : Sm := fun env μ => .bk env μ
def cnt : Sm := fun env μ => .ct env μ
def seq (a b : Sm) : Sm := fun env μ => (a env μ).then b
def exp (e : Ex) : Sm := fun env μ => .of (e env μ) fun _ μ1 => .nx env μ1
def ret (e : Ex) : Sm := fun env μ => .of (e env μ) fun p μ1 => .rt p μ1
def onS (p : PV) (a b : Out) : Out := match p with | .bl true => a | .bl false => b | _ => .stuck
@[simp] theorem onS_true (a b : Out) : onS (.bl true) a b = a := id rfl
@[simp] theorem onS_false (a b : Out) : onS (.bl false) a b = b := id rfl
theorem onS_bl (t : Bool) (a b : Out) : onS (.bl t) a b = if t = true then a else b := by cases t <;> rfl
def cond (t : Ex) (a b : Sm) : Sm := fun env μ => .of (t env μ) fun p μ1 => onS p (a env μ1) (b env μ1)
def asg (g : Tg) (e : Ex) : Sm := fun env μ => .of (e env μ) fun p μ1 => .of (g p env μ1) fun e2 μ2 => .nx e2 μ2
def setv (i : Nat) (e : Ex) : Sm := fun env μ => .of (e env μ) fun p μ1 => .nx (env.set i (some p)) μ1
def par (i j : Nat) (a b : Ex) : Sm := fun env μ => .of (a env μ) fun p μ1 => .of (b env μ1) fun q μ2 => .nx ((env.set i (some p)).set j (some q)) μ2
def par3 (i j k : Nat) (a b d : Ex) : Sm := fun env μ => .of (a env μ) fun p μ1 => .of (b env μ1) fun q μ2 => .of (d env μ2) fun r μ3 => .nx (((env.set i (some p)).set j (some q)).set k (some r)) μ3
/-! ### loops -/
/-- what is walked: the items, the list cells that must stay as they are -/
structure Its where
  items : List PV
  lk : List (Nat × List PV)
abbrev It := Env → Mem → Res Its
def locked (lk : List (Nat × List PV)) (μ : Mem) : Prop := ∀ x ∈ lk, μ[x.1]? = some (.lst x.2) ∨ μ[x.1]? = some (.ro x.2)
theorem locked_nil (μ : Mem) : locked [] μ := fun _ h => (nomatch h)
open Classical in
noncomputable def forN (lk : List (Nat × List PV)) (g : Tg) (body : Sm) : List PV → Env → Mem → Out
  | [], env, μ => if locked lk μ then .nx env μ else .stuck
  | p :: ps, env, μ => if locked lk μ then .of (g p env μ) fun e1 μ1 => match body e1 μ1 with
      | .nx e m => forN lk g body ps e m
      | .ct e m => forN lk g body ps e m
      | .bk e m => .nx e m
      | o => o
    else .stuck
noncomputable def forS (it : It) (g : Tg) (body : Sm) : Sm := fun env μ => .of (it env μ) fun z μ1 => forN z.lk g body z.items env μ1
def whileN (t : Ex) (body : Sm) : Nat → Env → Mem → Out
  | 0, _, _ => .stuck
  | n + 1, env, μ => .of (t env μ) fun p μ1 => onS p (match body env μ1 with
      | .nx e m => whileN t body n e m
      | .ct e m => whileN t body n e m
      | .bk e m => .nx e m
      | o => o) (.nx env μ1)
def fuel : Nat := 100000000
def whileS (t : Ex) (body : Sm) : Sm := fun env μ => whileN t body fuel env μ
/-! ### comprehensions -/
def wipe (env : Env) : List Nat → Env
  | [] => env
  | i :: is => (wipe env is).set i none
def push1 (n : Nat) (p : PV) (μ : Mem) : Option Mem := match μ[n]? with
  | some (.lst l) => if l.length < SL then some (μ.set n (.lst (l ++ [p]))) else none
  | _ => none
/- n: the cell of the list that is made -/
open Classical in
noncomputable def lcN (lk : List (Nat × List PV)) (g : Tg) (t e : Ex) (vs : List Nat) (n : Nat) (env : Env) : List PV → Mem → Res Unit
  | [], μ => if locked lk μ then .ok () μ else .stuck
  | p :: ps, μ => if locked lk μ then (g p (wipe env vs) μ).bind fun e1 μ1 => (t e1 μ1).bind fun b μ2 =>
      onB b ((e e1 μ2).bind fun q μ3 => match push1 n q μ3 with
        | some μ4 => lcN lk g t e vs n env ps μ4
        | none => .stuck) (lcN lk g t e vs n env ps μ2)
    else .stuck
noncomputable def lc (it : It) (g : Tg) (t e : Ex) (vs : List Nat) : Ex := fun env μ => (it env μ).bind fun z μ1 =>
  (lcN z.lk g t e vs μ1.length env z.items (μ1 ++ [.lst []])).bind fun _ μ2 => .ok (.ref μ1.length) μ2
def yes : Ex := c (.bl true)
/-! ### values -/
mutual
def PV.under (n : Nat) : PV → Bool
  | .non => true | .bl _ => true | .int _ => true | .str _ => true | .cst _ => true
  | .tup l => PV.unders n l
  | .ref k => decide (k < n)
def PV.unders (n : Nat) : List PV → Bool
  | [] => true
  | p :: ps => PV.under n p && PV.unders n ps
end
def PO.under (n : Nat) : PO → Bool
  | .lst l => PV.unders n l
  | .ro l => PV.unders n l
  | .dct kvs => PV.unders n (kvs.map (·.2))
/-- what a def's own lists leave behind goes, where nothing speaks of it -/
def GcOk (μ : Mem) (p : PV) (m : Mem) : Prop := μ.length ≤ m.length ∧ p.under μ.length = true ∧ ∀ i, i < μ.length → m[i]? = μ[i]? ∨ ∃ o, m[i]? = some o ∧ o.under μ.length = true
open Classical in
noncomputable def gc (μ : Mem) (r : Res PV) : Res PV := match r with
  | .ok p m => if GcOk μ p m then .ok p (m.take μ.length) else .ok p m
  | r => r
/-- a body's end as a call's result -/
def Out.res : Out → Res PV
  | .rt p m => .ok p m
  | .nx _ m => .ok .non m
  | .exc x m => .exc x m
  | _ => .stuck
def run (n : Nat) (b : Sm) : Fn := fun args μ => (b (args.map some ++ List.replicate (n - args.length) none) μ).res
/-- a def of so many names with a body -/
noncomputable def fn (n : Nat) (b : Sm) : Fn := fun args μ => gc μ (run n b args μ)
/-! ### what is read of the memory -/
mutual
def PV.conv (r : Nat → Option PyData) : PV → Option PyData
  | .non => some .none
  | .bl b => some (.bool b)
  | .int i => some (.int i)
  | .str x => some (.str x)
  | .tup l => (PV.convs r l).map .tuple
  | .ref n => r n
  | .cst _ => none
def PV.convs (r : Nat → Option PyData) : List PV → Option (List PyData)
  | [] => some []
  | p :: ps => (PV.conv r p).bind fun d => (PV.convs r ps).map fun ds => d :: ds
end
def toDn (μ : Mem) : Nat → PV → Option PyData
  | 0 => PV.conv fun _ => none
  | n + 1 => PV.conv fun k => match μ[k]? with
    | some (.lst l) => (PV.convs (fun j => toDn μ n (.ref j)) l).map .list
    | some (.ro l) => (PV.convs (fun j => toDn μ n (.ref j)) l).map .list
    | _ => none
def toD (μ : Mem) (p : PV) : Option PyData := toDn μ 5 p
/-- data, or an empty dict -/
def toI (μ : Mem) (p : PV) : Option PyData := match toD μ p with
  | some d => some d
  | none => match p with
    | .ref n => match μ[n]? with
      | some (.dct []) => some (.dict [])
      | _ => none
    | _ => none
def toIs (μ : Mem) : List PV → Option (List PyData)
  | [] => some []
  | p :: ps => (toI μ p).bind fun d => (toIs μ ps).map fun ds => d :: ds
/-- a list of data and of empty dicts -/
def toX (μ : Mem) (p : PV) : Option PyData := match p with
  | .ref n => match μ[n]? with
    | some (.lst l) => (toIs μ l).map .list
    | some (.dct []) => some (.dict [])
    | _ => none
  | _ => none
def getL (μ : Mem) (p : PV) : Option (List PV) := match p with
  | .ref n => match μ[n]? with | some (.lst l) => some l | some (.ro l) => some l | _ => none
  | .tup l => some l
  | _ => none
/-! ### operations -/
def mulOk (i j : Int) : Prop := (-(2 ^ 64) < i ∧ i < 2 ^ 64) ∨ (-(2 ^ 64) < j ∧ j < 2 ^ 64) ∨ i.natAbs.log2 + j.natAbs.log2 < 1000000
instance (i j : Int) : Decidable (mulOk i j) := by unfold mulOk; infer_instance
def divOk (j : Int) : Prop := 0 < j ∧ j.natAbs.log2 < 9000
instance (j : Int) : Decidable (divOk j) := by unfold divOk; infer_instance
def newL (l : List PV) (μ : Mem) : Res PV := .ok (.ref μ.length) (μ ++ [.lst l])
def fTup : Fn := fun ps μ => if ps.length ≤ SL then .ok (.tup ps) μ else .stuck
def fLst : Fn := fun ps μ => if ps.length ≤ SL then newL ps μ else .stuck
def fAdd : Fn
  | [.int i, .int j], μ => .ok (.int (i + j)) μ
  | [.str a, .str b], μ => if a.length + b.length ≤ SL then .ok (.str (a ++ b)) μ else .stuck
  | [.tup a, .tup b], μ => if a.length + b.length ≤ SL then .ok (.tup (a ++ b)) μ else .stuck
  | [.ref a, .ref b], μ => match μ[a]?, μ[b]? with
    | some (.lst xs), some (.lst ys) => if xs.length + ys.length ≤ SL then newL (xs ++ ys) μ else .stuck
    | _, _ => .stuck
  | _, _ => .stuck
def fSub : Fn
  | [.int i, .int j], μ => .ok (.int (i - j)) μ
  | _, _ => .stuck
def fMul : Fn
  | [.int i, .int j], μ => if mulOk i j then .ok (.int (i * j)) μ else .stuck
  | [.ref a, .int k], μ => match μ[a]? with
    | some (.lst xs) => if -(2 ^ 63) ≤ k ∧ k < 2 ^ 63 ∧ xs.length * k.toNat ≤ SL then newL (List.replicate k.toNat xs).flatten μ else .stuck
    | _ => .stuck
  | [.tup xs, .int k], μ => if xs ≠ [] ∧ 2 ≤ k ∧ k ≤ 1000 ∧ xs.length ≤ 1000 then .ok (.tup (List.replicate k.toNat xs).flatten) μ else .stuck
  | _, _ => .stuck
def fDiv : Fn
  | [.int i, .int j], μ => if divOk j then .ok (.int (i / j)) μ else .stuck
  | _, _ => .stuck
def fMod : Fn
  | [.int i, .int j], μ => if 0 < j then .ok (.int (i % j)) μ else .stuck
  | _, _ => .stuck
def fPow : Fn
  | [.int i, .int j], μ => if 0 ≤ j ∧ j ≤ 1000000 ∧ i.natAbs < 2 ^ 64 then .ok (.int (i ^ j.toNat)) μ else .stuck
  | _, _ => .stuck
def shlOk (i j : Int) : Prop := 0 ≤ j ∧ (Builtin.Int.intBits i : Int) + j ≤ 2 ^ 27
instance (i j : Int) : Decidable (shlOk i j) := by unfold shlOk; infer_instance
def fShl : Fn
  | [.int i, .int j], μ => if shlOk i j then .ok (.int (i * 2 ^ j.toNat)) μ else .stuck
  | _, _ => .stuck
def fShr : Fn
  | [.int i, .int j], μ => if 0 ≤ j then .ok (.int (i / 2 ^ j.toNat)) μ else .stuck
  | _, _ => .stuck
def fBAnd : Fn
  | [.int i, .int j], μ => .ok (.int (Builtin.bitAnd i j)) μ
  | _, _ => .stuck
def fBOr : Fn
  | [.int i, .int j], μ => .ok (.int (Builtin.bitOr i j)) μ
  | _, _ => .stuck
def fBXor : Fn
  | [.int i, .int j], μ => .ok (.int (Builtin.bitXor i j)) μ
  | _, _ => .stuck
def fNeg : Fn
  | [.int i], μ => .ok (.int (-i)) μ
  | _, _ => .stuck
def fNot : Fn
  | [.bl b], μ => .ok (.bl (!b)) μ
  | _, _ => .stuck
/-- two flat values of one kind, or None beside one -/
def scalP : PV → PV → Option Bool
  | .int i, .int j => some (decide (i = j))
  | .str x, .str y => some (decide (x = y))
  | .bl x, .bl y => some (decide (x = y))
  | _, _ => none
def eqR (μ : Mem) (p q : PV) : Option Bool := match scalP p q with
  | some b => some b
  | none => match toD μ p, toD μ q with
    | some d, some e => if SeqAt.shaped d = true ∧ SeqAt.shaped e = true then some (PyData.eqv d e) else none
    | _, _ => none
def fEq : Fn
  | [p, q], μ => match eqR μ p q with | some b => .ok (.bl b) μ | none => .stuck
  | _, _ => .stuck
def fNe : Fn
  | [p, q], μ => match eqR μ p q with | some b => .ok (.bl (!b)) μ | none => .stuck
  | _, _ => .stuck
def fLt : Fn
  | [.int i, .int j], μ => .ok (.bl (decide (i < j))) μ
  | _, _ => .stuck
def fLe : Fn
  | [.int i, .int j], μ => .ok (.bl (decide (i ≤ j))) μ
  | _, _ => .stuck
def fGt : Fn
  | [.int i, .int j], μ => .ok (.bl (decide (j < i))) μ
  | _, _ => .stuck
def fGe : Fn
  | [.int i, .int j], μ => .ok (.bl (decide (j ≤ i))) μ
  | _, _ => .stuck
def isNon : PV → Bool
  | .non => true
  | _ => false
def fIsN : Fn
  | [p, .non], μ => .ok (.bl (isNon p)) μ
  | _, _ => .stuck
def fNotN : Fn
  | [p, .non], μ => .ok (.bl (!isNon p)) μ
  | _, _ => .stuck
def flatP : PV → Bool
  | .non => true | .bl _ => true | .int _ => true | .str _ => true
  | _ => false
/-- == of flat values -/
def eqF : PV → PV → Bool
  | .non, .non => true
  | .bl a, .bl b => a == b
  | .bl a, .int b => (if a then 1 else 0) == b
  | .int a, .bl b => a == (if b then 1 else 0)
  | .int a, .int b => a == b
  | .str a, .str b => a == b
  | _, _ => false
def inDeep (μ : Mem) (p q : PV) : Option Bool := match q with
  | .ref _ => match toD μ p, toD μ q with
    | some d, some (.list es) => if SeqAt.shaped d = true ∧ SeqAt.shaped (.list es) = true then some (es.any fun z => PyData.eqv z d) else none
    | _, _ => none
  | .tup _ => match toD μ p, toD μ q with
    | some d, some (.tuple es) => if SeqAt.shaped d = true ∧ SeqAt.shaped (.tuple es) = true then some (es.any fun z => PyData.eqv z d) else none
    | _, _ => none
  | _ => none
def inSeq (μ : Mem) (p q : PV) : Option Bool := match getL μ q with
  | some l => if flatP p = true ∧ l.all flatP = true then some (l.any fun z => eqF z p) else inDeep μ p q
  | none => none
def strPair (p q : PV) : Option (Str × Str) := match p, q with
  | .str x, .str y => some (x, y)
  | _, _ => none
def inStr (x y : Str) : Option Bool := match x.cps.toList with
  | [k] => some (decide (k ∈ y.cps.toList))
  | _ => none
def inR (μ : Mem) (p q : PV) : Option Bool := match strPair p q with
  | some z => inStr z.1 z.2
  | none => inSeq μ p q
def fIn : Fn
  | [p, q], μ => match inR μ p q with | some b => .ok (.bl b) μ | none => .stuck
  | _, _ => .stuck
def fNotIn : Fn
  | [p, q], μ => match inR μ p q with | some b => .ok (.bl (!b)) μ | none => .stuck
  | _, _ => .stuck
/-! places -/
def ixN (n : Nat) (i : Int) : Option Nat := if 0 ≤ i then (if i < n then some i.toNat else none) else if -(n : Int) ≤ i then some (i + n).toNat else none
def atI {α : Type} (xs : List α) (i : Int) : Option α := (ixN xs.length i).bind fun j => xs[j]?
def sIx (n d : Nat) : Option Int → Nat
  | none => d
  | some v => if v < 0 then (v + (n : Int)).toNat else min v.toNat n
def cut {α : Type} (xs : List α) (lo hi : Option Int) : List α := (xs.drop (sIx xs.length 0 lo)).take (sIx xs.length xs.length hi - sIx xs.length 0 lo)
def fIx : Fn
  | [.str z, .int i], μ => if z.length ≤ SL then match atI z.cps.toList i with | some k => .ok (.str ⟨#[k]⟩) μ | none => .stuck else .stuck
  | [p, .int i], μ => match getL μ p with
    | some l => match atI l i with | some q => .ok q μ | none => .stuck
    | none => .stuck
  | _, _ => .stuck
def optI : PV → Option (Option Int)
  | .non => some none
  | .int i => some (some i)
  | _ => none
def fSl : Fn
  | [p, lo, hi], μ => match optI lo, optI hi with
    | some lo, some hi => match p with
      | .tup l => .ok (.tup (cut l lo hi)) μ
      | .ref n => match getL μ (.ref n) with | some l => newL (cut l lo hi) μ | none => .stuck
      | .str z => if z.length ≤ SL then .ok (.str ⟨(cut z.cps.toList lo hi).toArray⟩) μ else .stuck
      | _ => .stuck
    | _, _ => .stuck
  | _, _ => .stuck
def fRev : Fn
  | [.tup l], μ => .ok (.tup l.reverse) μ
  | [.ref n], μ => match getL μ (.ref n) with | some l => newL l.reverse μ | none => .stuck
  | _, _ => .stuck
def fRevL : Fn
  | [.ref n], μ => fRev [.ref n] μ
  | [.tup l], μ => .ok (.tup l.reverse) μ
  | _, _ => .stuck
def fPart : Fn
  | [.int i], μ => .ok (.int i) μ
  | _, _ => .stuck
def onPart (q : PV) (m : Mem) : Res PV := match optI q with | some _ => .ok q m | none => .stuck
def sl (a lo hi : Ex) : Ex := fun env μ => (a env μ).bind fun p μ1 => ((lo env μ1).bind onPart).bind fun ql μ2 => ((hi env μ2).bind onPart).bind fun qh μ3 => fSl [p, ql, qh] μ3
/-- the values in the parameters' order -/
def perm {α : Type} (is : List Nat) (l : List α) : List α := is.filterMap (l[·]?)
def callK (m : Fn) (is : List Nat) (g gk : Ag) : Ex := fun env μ => (g env μ).bind fun as μ1 => (gk env μ1).bind fun bs μ2 => m (perm is (as ++ bs)) μ2
def fLen : Fn
  | [.str z], μ => if z.length ≤ SL then .ok (.int z.length) μ else .stuck
  | [p], μ => match getL μ p with | some l => .ok (.int l.length) μ | none => .stuck
  | _, _ => .stuck
def fInt : Fn
  | [.int i], μ => .ok (.int i) μ
  | [.bl b], μ => .ok (.int (if b then 1 else 0)) μ
  | _, _ => .stuck
def fAbs : Fn
  | [.int i], μ => .ok (.int (if i < 0 then -i else i)) μ
  | _, _ => .stuck
def intsOf : List PV → Option (List Int)
  | [] => some []
  | .int i :: r => (intsOf r).map fun is => i :: is
  | _ => none
def boolsOf : List PV → Option (List Bool)
  | [] => some []
  | .bl i :: r => (boolsOf r).map fun is => i :: is
  | _ => none
def maxL : Int → List Int → Int
  | m, [] => m
  | m, x :: xs => maxL (if x > m then x else m) xs
def minL : Int → List Int → Int
  | m, [] => m
  | m, x :: xs => minL (if x < m then x else m) xs
def fMax : Fn
  | [.int i, .int j], μ => .ok (.int (if j > i then j else i)) μ
  | [.ref n], μ => match (getL μ (.ref n)).bind intsOf with
    | some (i :: is) => .ok (.int (maxL i is)) μ
    | _ => .stuck
  | _, _ => .stuck
def fMin : Fn
  | [.int i, .int j], μ => .ok (.int (if j < i then j else i)) μ
  | [.ref n], μ => match (getL μ (.ref n)).bind intsOf with
    | some (i :: is) => .ok (.int (minL i is)) μ
    | _ => .stuck
  | _, _ => .stuck
def fSum : Fn
  | [.ref n], μ => match (getL μ (.ref n)).bind intsOf with
    | some is => .ok (.int is.sum) μ
    | _ => .stuck
  | _, _ => .stuck
def fAll : Fn
  | [.ref n], μ => match (getL μ (.ref n)).bind boolsOf with
    | some bs => .ok (.bl (bs.all id)) μ
    | _ => .stuck
  | _, _ => .stuck
def fAny : Fn
  | [.ref n], μ => match (getL μ (.ref n)).bind boolsOf with
    | some bs => .ok (.bl (bs.any id)) μ
    | _ => .stuck
  | _, _ => .stuck
def fTuple : Fn
  | [p], μ => match getL μ p with | some l => .ok (.tup l) μ | none => .stuck
  | _, _ => .stuck
def fList : Fn
  | [p], μ => match getL μ p with | some l => newL l μ | none => .stuck
  | _, _ => .stuck
def fStr : Fn
  | [.int i], μ => if i.natAbs.log2 < 1920 then .ok (.str (toString i : String)) μ else .stuck
  | [.non], μ => .ok (.str "None") μ
  | _, _ => .stuck
def fRepr : Fn
  | [p], μ => match toD μ p with
    | some d => if d.showable = true ∧ d.shown.length ≤ SL ∧ d.depth ≤ 64 then .ok (.str d.shown) μ else .stuck
    | none => match p, toX μ p with
      | .ref _, some d => if d.showable = true ∧ d.shown.length ≤ SL ∧ d.depth ≤ 64 then .ok (.str d.shown) μ else .stuck
      | _, _ => .stuck
  | _, _ => .stuck
/-- the builtin types that isinstance asks for -/
inductive Ty where | int | bool | str | tuple | list | dict
def Ty.isL : Ty → Bool | .list => true | _ => false
def Ty.isD : Ty → Bool | .dict => true | _ => false
def isTy (μ : Mem) : Ty → PV → Option Bool
  | .int, .int _ => some true | .int, .bl _ => some true
  | .int, .non => some false | .int, .str _ => some false | .int, .tup _ => some false
  | .bool, .bl _ => some true
  | .bool, .int _ => some false | .bool, .non => some false | .bool, .str _ => some false | .bool, .tup _ => some false
  | .str, .str _ => some true
  | .str, .int _ => some false | .str, .bl _ => some false | .str, .non => some false | .str, .tup _ => some false
  | .tuple, .tup _ => some true
  | .tuple, .int _ => some false | .tuple, .bl _ => some false | .tuple, .non => some false | .tuple, .str _ => some false
  | .list, .int _ => some false | .list, .bl _ => some false | .list, .non => some false | .list, .str _ => some false | .list, .tup _ => some false
  | .dict, .int _ => some false | .dict, .bl _ => some false | .dict, .non => some false | .dict, .str _ => some false | .dict, .tup _ => some false
  | t, .ref n => match μ[n]? with
    | some (.lst _) => some t.isL
    | some (.dct _) => some t.isD
    | _ => none
  | _, .cst _ => none
def fIsi (t : Ty) : Fn
  | [p], μ => match isTy μ t p with | some b => .ok (.bl b) μ | none => .stuck
  | _, _ => .stuck
/-! methods of lists -/
def fAppend : Fn
  | [.ref n, p], μ => match push1 n p μ with | some m => .ok .non m | none => .stuck
  | _, _ => .stuck
def fExtend : Fn
  | [.ref n, .ref k], μ => match μ[n]?, μ[k]? with
    | some (.lst xs), some (.lst ys) => if xs.length + ys.length ≤ SL then .ok .non (μ.set n (.lst (xs ++ ys))) else .stuck
    | _, _ => .stuck
  | _, _ => .stuck
def fPop : Fn
  | [.ref n], μ => match μ[n]? with
    | some (.lst xs) => match xs[xs.length - 1]? with | some q => .ok q (μ.set n (.lst xs.dropLast)) | none => .stuck
    | _ => .stuck
  | [.ref n, .int i], μ => match μ[n]? with
    | some (.lst xs) => if -(2 ^ 63) ≤ i ∧ i < 2 ^ 63 then match ixN xs.length i with
      | some k => match xs[k]? with | some q => .ok q (μ.set n (.lst (xs.eraseIdx k))) | none => .stuck
      | none => .stuck
      else .stuck
    | _ => .stuck
  | _, _ => .stuck
def fSet : Fn
  | [.ref n, .int i, p], μ => match μ[n]? with
    | some (.lst xs) => match ixN xs.length i with | some k => .ok .non (μ.set n (.lst (xs.set k p))) | none => .stuck
    | _ => .stuck
  | _, _ => .stuck
/-! what a for walks -/
def itsOf (p : PV) (m : Mem) : Res Its := match p with
  | .tup l => .ok ⟨l, []⟩ m
  | .ref n => match getL m (.ref n) with | some l => .ok ⟨l, [(n, l)]⟩ m | none => .stuck
  | _ => .stuck
def iVal (e : Ex) : It := fun env μ => (e env μ).bind itsOf
def rangeL (i : Int) (n : Nat) : List PV := (List.range n).map fun (k : Nat) => .int (i + (k : Int))
def big62 (i : Int) : Prop := -(2 ^ 62) ≤ i ∧ i < 2 ^ 62
instance (i : Int) : Decidable (big62 i) := by unfold big62; infer_instance
def iRng1 (e : Ex) : It := fun env μ => (e env μ).bind fun p μ1 => match p with
  | .int j => if big62 j then .ok ⟨rangeL 0 j.toNat, []⟩ μ1 else .stuck
  | _ => .stuck
def iRng2 (a b : Ex) : It := fun env μ => (a env μ).bind fun p μ1 => (b env μ1).bind fun q μ2 => match p, q with
  | .int i, .int j => if big62 i ∧ big62 j then .ok ⟨rangeL i (j - i).toNat, []⟩ μ2 else .stuck
  | _, _ => .stuck
def iRng2w (a b : Ex) : It := fun env μ => (a env μ).bind fun p μ1 => (b env μ1).bind fun q μ2 => match p, q with
  | .int i, .int j => .ok ⟨rangeL i (j - i).toNat, []⟩ μ2
  | _, _ => .stuck
def enumL : Nat → List PV → List PV
  | _, [] => []
  | k, p :: ps => .tup [.int k, p] :: enumL (k + 1) ps
def enumOf (p : PV) (m : Mem) : Res Its := match p with
  | .tup l => .ok ⟨enumL 0 l, []⟩ m
  | .ref n => match getL m (.ref n) with | some l => .ok ⟨enumL 0 l, [(n, l)]⟩ m | none => .stuck
  | _ => .stuck
def iEnum (e : Ex) : It := fun env μ => (e env μ).bind enumOf
def zipL : List PV → List PV → List PV
  | p :: ps, q :: qs => .tup [p, q] :: zipL ps qs
  | _, _ => []
def iZip (a b : Ex) : It := fun env μ => (a env μ).bind fun p μ1 => (b env μ1).bind fun q μ2 => match p, q with
  | .tup l, .tup k => .ok ⟨zipL l k, []⟩ μ2
  | .ref n, .ref m => match getL μ2 (.ref n), getL μ2 (.ref m) with
    | some l, some k => .ok ⟨zipL l k, [(n, l), (m, k)]⟩ μ2
    | _, _ => .stuck
  | _, _ => .stuck
end PL
end
section
set_option autoImplicit false
/-! More pure operations. -/
namespace PL
open PySem
def fIndex : Fn
  | [.ref n, p], μ => match toD μ p, toD μ (.ref n) with
    | some d, some (.list es) => if SeqAt.shaped d = true ∧ SeqAt.shaped (.list es) = true then (match es.findIdx? (fun z => PyData.eqv z d) with
        | some j => .ok (.int (j : Nat)) μ
        | none => .stuck) else .stuck
    | _, _ => .stuck
  | _, _ => .stuck
/-- is True, is False -/
def fIsB : Fn
  | [.bl a, .bl b], μ => .ok (.bl (decide (a = b))) μ
  | _, _ => .stuck
def fNotB : Fn
  | [.bl a, .bl b], μ => .ok (.bl (!decide (a = b))) μ
  | _, _ => .stuck
end PL
end
section
set_option autoImplicit false
/-! Pure dicts with keys numbers and texts; divmod; sorted. -/
namespace PL
open PySem
abbrev DK := Sum Int Str
abbrev KVs := List (DK × PV)
def keyOf : PV → Option DK
  | .int i => some (.inl i)
  | .str x => some (.inr x)
  | _ => none
def valD (kvs : KVs) (k : DK) : Option PV := (kvs.find? fun kv => decide (kv.1 = k)).map (·.2)
def putD (kvs : KVs) (k : DK) (p : PV) : KVs := if (kvs.any fun kv => decide (kv.1 = k)) = true then kvs.map (fun kv => if kv.1 = k then (kv.1, p) else kv) else kvs ++ [(k, p)]
def mergeD (kvs more : KVs) : KVs := more.foldl (fun acc kv => putD acc kv.1 kv.2) kvs
def dctAt (μ : Mem) (p : PV) : Option KVs := match p with
  | .ref n => match μ[n]? with | some (.dct kvs) => some kvs | _ => none
  | _ => none
/-- d[k] -/
def fDGet : Fn
  | [d, q], μ => match dctAt μ d, keyOf q with
    | some kvs, some k => match valD kvs k with | some p => .ok p μ | none => .stuck
    | _, _ => .stuck
  | _, _ => .stuck
/-- d[k] = p -/
def fDPut : Fn
  | [.ref n, q, p], μ => match μ[n]?, keyOf q with
    | some (.dct kvs), some k => if kvs.length < SL then .ok .non (μ.set n (.dct (putD kvs k p))) else .stuck
    | _, _ => .stuck
  | _, _ => .stuck
/-- k in d -/
def fDIn : Fn
  | [q, d], μ => match dctAt μ d, keyOf q with
    | some kvs, some k => .ok (.bl (valD kvs k).isSome) μ
    | _, _ => .stuck
  | _, _ => .stuck
def fDNotIn : Fn
  | [q, d], μ => match dctAt μ d, keyOf q with
    | some kvs, some k => .ok (.bl (!(valD kvs k).isSome)) μ
    | _, _ => .stuck
  | _, _ => .stuck
def fDLen : Fn
  | [d], μ => match dctAt μ d with | some kvs => .ok (.int kvs.length) μ | none => .stuck
  | _, _ => .stuck
/-- d[k] = e, as a statement: e, d, k in this order -/
def dput (o i e : Ex) : Sm := fun env μ => .of (e env μ) fun p μ1 => .of (o env μ1) fun x μ2 => .of (i env μ2) fun y μ3 => .of (fDPut [x, y, p] μ3) fun _ μ4 => .nx env μ4
/-- the pairs of a display -/
abbrev Ap := Env → Mem → Res (List (PV × PV))
def dn : Ap := fun _ μ => .ok [] μ
def dc (k x : Ex) (r : Ap) : Ap := fun env μ => (k env μ).bind fun p μ1 => (x env μ1).bind fun q μ2 => (r env μ2).bind fun ps μ3 => .ok ((p, q) :: ps) μ3
def keysOf : List (PV × PV) → Option KVs
  | [] => some []
  | pq :: r => match keyOf pq.1, keysOf r with | some k, some ks => some ((k, pq.2) :: ks) | _, _ => none
def dfin (n : Nat) (ps : List (PV × PV)) (μ : Mem) : Res PV := match μ[n]?, keysOf ps with
  | some (.dct []), some kvs => if kvs.length ≤ 15 then .ok (.ref n) (μ.set n (.dct (mergeD [] kvs))) else .stuck
  | _, _ => .stuck
/-- {k: v, ..} -/
def dsp (r : Ap) : Ex := fun env μ => (r env (μ ++ [.dct []])).bind fun ps μ1 => dfin μ.length ps μ1
/-- {} -/
def dnew : Ex := fun _ μ => .ok (.ref μ.length) (μ ++ [.dct []])
def fDivmod : Fn
  | [.int i, .int j], μ => if 0 < j ∧ j < 2 ^ 62 ∧ -(2 ^ 62) < i ∧ i < 2 ^ 62 then .ok (.tup [.int (i / j), .int (i % j)]) μ else .stuck
  | _, _ => .stuck
/-- a tuple so many times -/
def fMulT : Fn
  | [.tup xs, .int k], μ => if -(2 ^ 63) ≤ k ∧ k ≤ 1000 ∧ xs.length ≤ 1000 then .ok (.tup (List.replicate k.toNat xs).flatten) μ else .stuck
  | _, _ => .stuck
end PL
end
section
set_option autoImplicit false
/-! `or` of values that are none, numbers or truth values. -/
namespace PL
open PySem
def truP : PV → Option Bool
  | .non => some false
  | .bl b => some b
  | .int i => some (i != 0)
  | _ => none
def orV (a b : Ex) : Ex := fun env μ => (a env μ).bind fun p μ1 => match truP p with
  | some true => .ok p μ1
  | some false => b env μ1
  | none => .stuck
end PL
end
section
set_option autoImplicit false
/-! divmod of great numbers; sorted of numbers. -/
namespace PL
open PySem
def fDivmodW : Fn
  | [.int i, .int j], μ => if 0 < j ∧ i.natAbs < 2 ^ 3000 then .ok (.tup [.int (i / j), .int (i % j)]) μ else .stuck
  | _, _ => .stuck
def insI (x : Int) : List Int → List Int
  | [] => [x]
  | y :: l => if x ≤ y then x :: y :: l else y :: insI x l
def sortI : List Int → List Int
  | [] => []
  | x :: l => insI x (sortI l)
def fSorted : Fn
  | [.ref n], μ => match (getL μ (.ref n)).bind intsOf with
    | some is => newL ((sortI is).map .int) μ
    | none => .stuck
  | _, _ => .stuck
theorem insI_perm (x : Int) : ∀ l, (insI x l).Perm (x :: l)
  | [] => List.Perm.refl _
  | y :: l => by
    unfold insI
    by_cases h : x ≤ y
    · rw [if_pos h]
    · rw [if_neg h]
      exact ((insI_perm x l).cons y).trans (List.Perm.swap x y l)
theorem sortI_perm : ∀ l, (sortI l).Perm l
  | [] => List.Perm.refl _
  | x :: l => (insI_perm x _).trans ((sortI_perm l).cons x)
theorem insI_asc (x : Int) : ∀ l : List Int, l.Pairwise (· ≤ ·) → (insI x l).Pairwise (· ≤ ·)
  | [], _ => List.pairwise_singleton _ _
  | y :: l, h => by
    unfold insI
    obtain ⟨h1, h2⟩ := List.pairwise_cons.mp h
    by_cases c : x ≤ y
    · rw [if_pos c]
      refine List.pairwise_cons.mpr ⟨fun z hz => ?_, h⟩
      rcases List.mem_cons.mp hz with rfl | hz
      · exact c
      · have := h1 z hz; omega
    · rw [if_neg c]
      refine List.pairwise_cons.mpr ⟨fun z hz => ?_, insI_asc x l h2⟩
      rcases List.mem_cons.mp ((insI_perm x l).mem_iff.mp hz) with rfl | hz
      · omega
      · exact h1 z hz
theorem sortI_asc : ∀ l : List Int, (sortI l).Pairwise (· ≤ ·)
  | [] => List.Pairwise.nil
  | x :: l => insI_asc x _ (sortI_asc l)
theorem asc_uniq : ∀ {a b : List Int}, a.Perm b → a.Pairwise (· ≤ ·) → b.Pairwise (· ≤ ·) → a = b
  | [], b, h, _, _ => (List.nil_perm.mp h).symm
  | x :: a, [], h, _, _ => absurd (List.perm_nil.mp h) (by simp)
  | x :: a, y :: b, h, ha, hb => by
    obtain ⟨a1, a2⟩ := List.pairwise_cons.mp ha
    obtain ⟨b1, b2⟩ := List.pairwise_cons.mp hb
    have e : x = y := by
      have h1 : y ≤ x := by
        rcases List.mem_cons.mp (h.mem_iff.mp (List.mem_cons_self (a := x) (l := a))) with e | e
        · omega
        · exact b1 x e
      have h2 : x ≤ y := by
        rcases List.mem_cons.mp (h.mem_iff.mpr (List.mem_cons_self (a := y) (l := b))) with e | e
        · omega
        · exact a1 y e
      omega
    subst e
    rw [asc_uniq (List.Perm.cons_inv h) a2 b2]
end PL
end
section
set_option autoImplicit false
set_option Elab.async false
set_option linter.all false
set_option maxRecDepth 100000
set_option maxHeartbeats 1000000
/-! The pure layer stands for the hand layer: relations between values, memories and the abstract heap. -/
namespace PL
open PySem L2
theorem SL_eq : sizeLine = SL := by rw [sizeLine_eq]
mutual
/-- a value of the hand layer bears a pure one; ρ: where the cells stand -/
def Rep (K : PySem.W.Frag) (H : Hp) (ρ : List Addr) : PV → V → Prop
  | .non, v => v = .non
  | .bl b, v => v = .bl b
  | .int i, v => v = .int i
  | .str x, v => v = .str x
  | .cst a, v => v = .ref a
  | .tup l, v => ∃ a xs, v = .ref a ∧ SqT K H a xs ∧ Reps K H ρ l xs
  | .ref n, v => ∃ a, ρ[n]? = some a ∧ v = .ref a
def Reps (K : PySem.W.Frag) (H : Hp) (ρ : List Addr) : List PV → List V → Prop
  | [], xs => xs = []
  | p :: ps, xs => ∃ y ys, xs = y :: ys ∧ Rep K H ρ p y ∧ Reps K H ρ ps ys
end
/-- a list that is only read -/
def RoL (K : PySem.W.Frag) (H : Hp) (a : Addr) (xs : List V) : Prop := (∃ o, H a = some (.frz o (.lst xs))) ∨ ∀ H', SqL K H' a xs
theorem RoL.seq {K : PySem.W.Frag} {H : Hp} {a : Addr} {xs : List V} (h : RoL K H a xs) : SqL K H a xs := by
  rcases h with ⟨o, h⟩ | h
  · exact .inl (.inr ⟨o, h⟩)
  · exact h H
def RepK (K : PySem.W.Frag) (H : Hp) (ρ : List Addr) : List (Sum Int Str × PV) → List (Key × V) → Prop
  | [], xs => xs = []
  | p :: ps, xs => ∃ y ys, xs = (p.1, y) :: ys ∧ Rep K H ρ p.2 y ∧ RepK K H ρ ps ys
def RepO (K : PySem.W.Frag) (H : Hp) (ρ : List Addr) : PO → Addr → Prop
  | .lst l, a => ∃ xs, H a = some (.lst xs) ∧ Reps K H ρ l xs
  | .ro l, a => ∃ xs, RoL K H a xs ∧ Reps K H ρ l xs
  | .dct kvs, a => ∃ xs, H a = some (.dK xs) ∧ RepK K H ρ kvs xs
/-- a cell that may be written -/
def PO.mut : PO → Bool
  | .ro _ => false
  | _ => true
structure MemOk (K : PySem.W.Frag) (H : Hp) (ρ : List Addr) (μ : Mem) : Prop where
  len : ρ.length = μ.length
  at' : ∀ (n : Nat) (o : PO) (a : Addr), μ[n]? = some o → ρ[n]? = some a → RepO K H ρ o a
  inj : ∀ (n m : Nat) (a : Addr) (o u : PO), ρ[n]? = some a → ρ[m]? = some a → μ[n]? = some o → μ[m]? = some u → o.mut = true → u.mut = true → n = m
structure EnvOk (K : PySem.W.Frag) (H : Hp) (ρ : List Addr) (env : Env) (σ : L2.St) : Prop where
  len : env.length = σ.length
  at' : ∀ (i : Nat) (p : PV), env[i]? = some (some p) → ∃ x, σ[i]? = some (some x) ∧ Rep K H ρ p x
/-- the tuples stay -/
def Keep (K : PySem.W.Frag) (H H' : Hp) : Prop := ∀ a xs, SqT K H a xs → SqT K H' a xs
theorem Keep.refl (K : PySem.W.Frag) (H : Hp) : Keep K H H := fun _ _ h => h
theorem Keep.trans {K : PySem.W.Frag} {H H1 H2 : Hp} (a : Keep K H H1) (b : Keep K H1 H2) : Keep K H H2 := fun c xs h => b c xs (a c xs h)
theorem Keep.upd {K : PySem.W.Frag} {H : Hp} {p : Addr} {o : HO} (h : ∀ xs, H p ≠ some (.tup xs)) (h' : ∀ ob xs, H p ≠ some (.frz ob (.tup xs))) : Keep K H (upd H p o) := by
  intro a xs k
  rcases k with (k | ⟨ob, k⟩) | k
  · exact .inl (.inl (by rw [upd_ne (show a ≠ p from fun e => by subst e; exact h xs k)]; exact k))
  · exact .inl (.inr ⟨ob, by rw [upd_ne (show a ≠ p from fun e => by subst e; exact h' ob xs k)]; exact k⟩)
  · exact .inr k
/-- a later state: more cells, the tuples as they were -/
structure Lat (K : PySem.W.Frag) (H : Hp) (ρ : List Addr) (H' : Hp) (ρ' : List Addr) : Prop where
  pre : ∃ t, ρ' = ρ ++ t
  keep : Keep K H H'
theorem Lat.refl (K : PySem.W.Frag) (H : Hp) (ρ : List Addr) : Lat K H ρ H ρ := ⟨⟨[], by simp⟩, .refl K H⟩
section
variable {K : PySem.W.Frag} {H H' H1 H2 : Hp} {ρ ρ' ρ1 ρ2 : List Addr}
theorem Lat.trans (a : Lat K H ρ H1 ρ1) (b : Lat K H1 ρ1 H2 ρ2) : Lat K H ρ H2 ρ2 := by
  obtain ⟨t, rfl⟩ := a.pre
  obtain ⟨u, rfl⟩ := b.pre
  exact ⟨⟨t ++ u, by simp⟩, a.keep.trans b.keep⟩
theorem Lat.get (l : Lat K H ρ H' ρ') {n : Nat} {a : Addr} (h : ρ[n]? = some a) : ρ'[n]? = some a := by
  obtain ⟨t, rfl⟩ := l.pre
  rw [List.getElem?_append_left (List.getElem?_eq_some_iff.mp h).1]
  exact h
mutual
theorem Rep.mono (l : Lat K H ρ H' ρ') : ∀ (p : PV) (x : V), Rep K H ρ p x → Rep K H' ρ' p x
  | .non, _, h => by simpa only [Rep] using h
  | .bl _, _, h => by simpa only [Rep] using h
  | .int _, _, h => by simpa only [Rep] using h
  | .str _, _, h => by simpa only [Rep] using h
  | .cst _, _, h => by simpa only [Rep] using h
  | .tup ps, x, h => by
    simp only [Rep] at h ⊢
    obtain ⟨a, xs, e, s, r⟩ := h
    exact ⟨a, xs, e, l.keep a xs s, Reps.mono l ps xs r⟩
  | .ref n, x, h => by
    simp only [Rep] at h ⊢
    obtain ⟨a, e, r⟩ := h
    exact ⟨a, l.get e, r⟩
theorem Reps.mono (l : Lat K H ρ H' ρ') : ∀ (ps : List PV) (xs : List V), Reps K H ρ ps xs → Reps K H' ρ' ps xs
  | [], _, h => by simpa only [Reps] using h
  | p :: ps, xs, h => by
    simp only [Reps] at h ⊢
    obtain ⟨y, ys, e, r, t⟩ := h
    exact ⟨y, ys, e, Rep.mono l p y r, Reps.mono l ps ys t⟩
end
theorem RepK.mono (l : Lat K H ρ H' ρ') : ∀ (ps : List (Sum Int Str × PV)) (xs : List (Key × V)), RepK K H ρ ps xs → RepK K H' ρ' ps xs
  | [], _, h => h
  | p :: ps, xs, h => by
    obtain ⟨y, ys, e, r, t⟩ := h
    exact ⟨y, ys, e, Rep.mono l p.2 y r, RepK.mono l ps ys t⟩
theorem EnvOk.mono {env : Env} {σ : L2.St} (e : EnvOk K H ρ env σ) (l : Lat K H ρ H' ρ') : EnvOk K H' ρ' env σ :=
  ⟨e.len, fun i p h => let ⟨x, a, b⟩ := e.at' i p h; ⟨x, a, Rep.mono l p x b⟩⟩
theorem Reps.length : ∀ {ps : List PV} {xs : List V}, Reps K H ρ ps xs → xs.length = ps.length
  | [], xs, h => by simp only [Reps] at h; subst h; rfl
  | p :: ps, xs, h => by
    simp only [Reps] at h
    obtain ⟨y, ys, rfl, _, t⟩ := h
    simp [Reps.length t]
theorem Reps.get : ∀ {ps : List PV} {xs : List V} {i : Nat} {p : PV}, Reps K H ρ ps xs → ps[i]? = some p → ∃ x, xs[i]? = some x ∧ Rep K H ρ p x
  | [], xs, i, p, h, e => by simp at e
  | q :: ps, xs, 0, p, h, e => by
    simp only [Reps] at h
    obtain ⟨y, ys, rfl, r, _⟩ := h
    simp only [List.getElem?_cons_zero, Option.some.injEq] at e
    subst e
    exact ⟨y, rfl, r⟩
  | q :: ps, xs, i + 1, p, h, e => by
    simp only [Reps] at h
    obtain ⟨y, ys, rfl, _, t⟩ := h
    simp only [List.getElem?_cons_succ] at e
    obtain ⟨x, a, b⟩ := Reps.get (i := i) t e
    exact ⟨x, by simpa using a, b⟩
theorem Reps.nil : Reps K H ρ [] [] := by simp only [Reps]
theorem Reps.cons {p : PV} {ps : List PV} {x : V} {xs : List V} (r : Rep K H ρ p x) (t : Reps K H ρ ps xs) : Reps K H ρ (p :: ps) (x :: xs) := by
  simp only [Reps]
  exact ⟨x, xs, rfl, r, t⟩
theorem Reps.cons_iff {p : PV} {ps : List PV} {zs : List V} : Reps K H ρ (p :: ps) zs ↔ ∃ x xs, zs = x :: xs ∧ Rep K H ρ p x ∧ Reps K H ρ ps xs := by
  simp only [Reps]
theorem Reps.append : ∀ {ps qs : List PV} {xs ys : List V}, Reps K H ρ ps xs → Reps K H ρ qs ys → Reps K H ρ (ps ++ qs) (xs ++ ys)
  | [], _, xs, _, h, t => by simp only [Reps] at h; subst h; exact t
  | p :: ps, _, xs, _, h, t => by
    obtain ⟨y, ys, rfl, r, u⟩ := Reps.cons_iff.mp h
    exact .cons r (Reps.append u t)
theorem Reps.take : ∀ {ps : List PV} {xs : List V} (n : Nat), Reps K H ρ ps xs → Reps K H ρ (ps.take n) (xs.take n)
  | [], xs, n, h => by simp only [Reps] at h; subst h; simp [Reps]
  | p :: ps, xs, 0, h => by simp [Reps]
  | p :: ps, xs, n + 1, h => by
    obtain ⟨y, ys, rfl, r, u⟩ := Reps.cons_iff.mp h
    simp only [List.take_succ_cons]
    exact .cons r (Reps.take n u)
theorem Reps.drop : ∀ {ps : List PV} {xs : List V} (n : Nat), Reps K H ρ ps xs → Reps K H ρ (ps.drop n) (xs.drop n)
  | [], xs, n, h => by simp only [Reps] at h; subst h; simp [Reps]
  | p :: ps, xs, 0, h => by simpa using h
  | p :: ps, xs, n + 1, h => by
    obtain ⟨y, ys, rfl, r, u⟩ := Reps.cons_iff.mp h
    simp only [List.drop_succ_cons]
    exact Reps.drop n u
theorem Reps.set : ∀ {ps : List PV} {xs : List V} {p : PV} {x : V} (n : Nat), Reps K H ρ ps xs → Rep K H ρ p x → Reps K H ρ (ps.set n p) (xs.set n x)
  | [], xs, _, _, n, h, _ => by simp only [Reps] at h; subst h; simp [Reps]
  | p :: ps, xs, _, _, 0, h, r => by
    obtain ⟨y, ys, rfl, _, u⟩ := Reps.cons_iff.mp h
    exact .cons r u
  | p :: ps, xs, _, _, n + 1, h, r => by
    obtain ⟨y, ys, rfl, q, u⟩ := Reps.cons_iff.mp h
    exact .cons q (Reps.set n u r)
theorem Reps.erase : ∀ {ps : List PV} {xs : List V} (n : Nat), Reps K H ρ ps xs → Reps K H ρ (ps.eraseIdx n) (xs.eraseIdx n)
  | [], xs, n, h => by simp only [Reps] at h; subst h; simp [Reps]
  | p :: ps, xs, 0, h => by
    obtain ⟨y, ys, rfl, _, u⟩ := Reps.cons_iff.mp h
    exact u
  | p :: ps, xs, n + 1, h => by
    obtain ⟨y, ys, rfl, q, u⟩ := Reps.cons_iff.mp h
    exact .cons q (Reps.erase n u)
theorem Reps.dropLast {ps : List PV} {xs : List V} (h : Reps K H ρ ps xs) : Reps K H ρ ps.dropLast xs.dropLast := by
  rw [List.dropLast_eq_take, List.dropLast_eq_take, h.length]
  exact h.take _
theorem Reps.reverse : ∀ {ps : List PV} {xs : List V}, Reps K H ρ ps xs → Reps K H ρ ps.reverse xs.reverse
  | [], xs, h => by simp only [Reps] at h; subst h; simp [Reps]
  | p :: ps, xs, h => by
    obtain ⟨y, ys, rfl, q, u⟩ := Reps.cons_iff.mp h
    rw [List.reverse_cons, List.reverse_cons]
    exact (Reps.reverse u).append (.cons q .nil)
theorem Reps.rep {ps : List PV} {xs : List V} (h : Reps K H ρ ps xs) : ∀ n : Nat, Reps K H ρ (List.replicate n ps).flatten (List.replicate n xs).flatten
  | 0 => by simp [Reps]
  | n + 1 => by
    rw [List.replicate_succ, List.replicate_succ, List.flatten_cons, List.flatten_cons]
    exact h.append (Reps.rep h n)
theorem RepO.mono {o : PO} {a : Addr} (l : Lat K H ρ H' ρ') (hs : H' a = H a) (h : RepO K H ρ o a) : RepO K H' ρ' o a := by
  cases o with
  | lst ps => obtain ⟨xs, e, r⟩ := h; exact ⟨xs, hs.trans e, Reps.mono l ps xs r⟩
  | ro ps =>
    obtain ⟨xs, e, r⟩ := h
    refine ⟨xs, ?_, Reps.mono l ps xs r⟩
    rcases e with ⟨o, e⟩ | e
    · exact .inl ⟨o, hs.trans e⟩
    · exact .inr e
  | dct ps => obtain ⟨xs, e, r⟩ := h; exact ⟨xs, hs.trans e, RepK.mono l ps xs r⟩
/-- a new cell -/
theorem MemOk.push {μ : Mem} {p : Addr} {ho : HO} {o : PO} (M : MemOk K H ρ μ) (hp : H p = none) (h : ∀ H' ρ', Lat K H ρ H' ρ' → H' p = some ho → RepO K H' ρ' o p) :
    MemOk K (upd H p ho) (ρ ++ [p]) (μ ++ [o]) ∧ Lat K H ρ (upd H p ho) (ρ ++ [p]) := by
  have L : Lat K H ρ (upd H p ho) (ρ ++ [p]) := ⟨⟨[p], rfl⟩, .upd (fun xs e => by rw [hp] at e; cases e) fun ob xs e => by rw [hp] at e; cases e⟩
  have hl := M.len
  have old : ∀ n u a, μ[n]? = some u → ρ[n]? = some a → RepO K (upd H p ho) (ρ ++ [p]) u a ∧ (u.mut = true → a ≠ p) := fun n u a hu ha => by
    have r := M.at' n u a hu ha
    by_cases e : a = p
    · subst e
      cases u with
      | lst ps => obtain ⟨xs, e, _⟩ := r; rw [hp] at e; cases e
      | ro ps =>
        obtain ⟨xs, e, q⟩ := r
        rcases e with ⟨o', e⟩ | e
        · rw [hp] at e; cases e
        · exact ⟨⟨xs, .inr e, Reps.mono L ps xs q⟩, fun z => nomatch z⟩
      | dct ps => obtain ⟨xs, e, _⟩ := r; rw [hp] at e; cases e
    · exact ⟨r.mono L (upd_ne e), fun _ => e⟩
  refine ⟨⟨by simp [hl], fun n u a hu ha => ?_, fun n m a u w hn hm hu hw mu mw => ?_⟩, L⟩
  · by_cases hn : n < μ.length
    · rw [List.getElem?_append_left hn] at hu
      rw [List.getElem?_append_left (by omega)] at ha
      exact (old n u a hu ha).1
    · have hn2 : n = μ.length := by
        have := (List.getElem?_eq_some_iff.mp hu).1
        simp at this
        omega
      subst hn2
      rw [List.getElem?_append_right (Nat.le_refl _)] at hu
      rw [List.getElem?_append_right (by omega)] at ha
      simp [hl] at hu ha
      subst hu ha
      exact h _ _ L upd_same
  · have key : ∀ k (b : Addr) (z : PO), (ρ ++ [p])[k]? = some b → (μ ++ [o])[k]? = some z → z.mut = true → (k < μ.length ∧ ρ[k]? = some b ∧ μ[k]? = some z ∧ b ≠ p) ∨ (k = μ.length ∧ b = p) := fun k b z hb hz mz => by
      by_cases hk : k < μ.length
      · rw [List.getElem?_append_left hk] at hz
        rw [List.getElem?_append_left (by omega)] at hb
        exact .inl ⟨hk, hb, hz, (old k z b hz hb).2 mz⟩
      · have hk2 : k = μ.length := by
          have := (List.getElem?_eq_some_iff.mp hz).1
          simp at this
          omega
        subst hk2
        rw [List.getElem?_append_right (by omega)] at hb
        simp [hl] at hb
        exact .inr ⟨rfl, hb.symm⟩
    rcases key n a u hn hu mu with ⟨h1, h2, h3, h4⟩ | ⟨h1, h2⟩
    · rcases key m a w hm hw mw with ⟨g1, g2, g3, g4⟩ | ⟨g1, g2⟩
      · exact M.inj n m a u w h2 g2 h3 g3 mu mw
      · exact absurd g2 h4
    · rcases key m a w hm hw mw with ⟨g1, g2, g3, g4⟩ | ⟨g1, g2⟩
      · exact absurd h2 g4
      · omega
/-- a cell written -/
theorem MemOk.set {μ : Mem} {n : Nat} {p : Addr} {ho : HO} {o u : PO} (M : MemOk K H ρ μ) (hn : μ[n]? = some o) (hr : ρ[n]? = some p) (hm : o.mut = true)
    (h : RepO K (upd H p ho) ρ u p) : MemOk K (upd H p ho) ρ (μ.set n u) ∧ Lat K H ρ (upd H p ho) ρ := by
  have hH : (∃ xs, H p = some (.lst xs)) ∨ ∃ xs, H p = some (.dK xs) := by
    have r := M.at' n o p hn hr
    cases o with
    | lst ps => obtain ⟨xs, e, _⟩ := r; exact .inl ⟨xs, e⟩
    | ro ps => cases hm
    | dct ps => obtain ⟨xs, e, _⟩ := r; exact .inr ⟨xs, e⟩
  have L : Lat K H ρ (upd H p ho) ρ := by
    refine ⟨⟨[], by simp⟩, .upd (fun xs e => ?_) fun ob xs e => ?_⟩
    · rcases hH with ⟨ys, q⟩ | ⟨ys, q⟩ <;> (rw [q] at e; cases e)
    · rcases hH with ⟨ys, q⟩ | ⟨ys, q⟩ <;> (rw [q] at e; cases e)
  have hnl : n < μ.length := (List.getElem?_eq_some_iff.mp hn).1
  refine ⟨⟨by simp [M.len], fun m w a hw ha => ?_, fun k m a w z hk hm' hw hz mw mz => ?_⟩, L⟩
  · by_cases e : n = m
    · subst e
      rw [List.getElem?_set_self hnl] at hw
      rw [hr] at ha
      cases hw
      cases ha
      exact h
    · rw [List.getElem?_set_ne e] at hw
      have r := M.at' m w a hw ha
      by_cases ea : a = p
      · subst ea
        cases w with
        | lst ps => exact absurd (M.inj n m a o _ hr ha hn hw hm rfl) e
        | dct ps => exact absurd (M.inj n m a o _ hr ha hn hw hm rfl) e
        | ro ps =>
          obtain ⟨xs, e1, q⟩ := r
          refine ⟨xs, ?_, Reps.mono L ps xs q⟩
          rcases e1 with ⟨o', e1⟩ | e1
          · rcases hH with ⟨ys, q⟩ | ⟨ys, q⟩ <;> (rw [q] at e1; cases e1)
          · exact .inr e1
      · exact r.mono L (upd_ne ea)
  · have key : ∀ (j : Nat) (y : PO), (μ.set n u)[j]? = some y → y.mut = true → ∃ y', μ[j]? = some y' ∧ y'.mut = true := fun j y hy my => by
      by_cases e : n = j
      · subst e
        exact ⟨o, hn, hm⟩
      · rw [List.getElem?_set_ne e] at hy
        exact ⟨y, hy, my⟩
    obtain ⟨w', hw', mw'⟩ := key k w hw mw
    obtain ⟨z', hz', mz'⟩ := key m z hz mz
    exact M.inj k m a w' z' hk hm' hw' hz' mw' mz'
/-- a new tuple, which is no cell -/
theorem MemOk.other {μ : Mem} {p : Addr} {ho : HO} (M : MemOk K H ρ μ) (hp : H p = none) : MemOk K (upd H p ho) ρ μ ∧ Lat K H ρ (upd H p ho) ρ := by
  have L : Lat K H ρ (upd H p ho) ρ := ⟨⟨[], by simp⟩, .upd (fun xs e => by rw [hp] at e; cases e) fun ob xs e => by rw [hp] at e; cases e⟩
  refine ⟨⟨M.len, fun n u a hu ha => ?_, M.inj⟩, L⟩
  have r := M.at' n u a hu ha
  by_cases e : a = p
  · subst e
    cases u with
    | lst ps => obtain ⟨xs, e, _⟩ := r; rw [hp] at e; cases e
    | ro ps =>
      obtain ⟨xs, e, q⟩ := r
      rcases e with ⟨o', e⟩ | e
      · rw [hp] at e; cases e
      · exact ⟨xs, .inr e, Reps.mono L ps xs q⟩
    | dct ps => obtain ⟨xs, e, _⟩ := r; rw [hp] at e; cases e
  · exact r.mono L (upd_ne e)
end
end PL
end
section
set_option autoImplicit false
set_option Elab.async false
set_option linter.all false
set_option maxRecDepth 100000
set_option maxHeartbeats 1000000
/-! What a pure result asks; the judgements; operations by values. -/
namespace PL
open PySem L2
section
variable (K : PySem.W.Frag) (mg : Str → Option Value) (E : XK)
/-- fields of an exception -/
def RepF (H : Hp) (ρ : List Addr) (fs : List (Str × PV)) (ys : List (Str × V)) : Prop := fs.map (·.1) = ys.map (·.1) ∧ Reps K H ρ (fs.map (·.2)) (ys.map (·.2))
/-- what a pure result asks of the wish Q -/
def Post {α β : Type} (R : Hp → List Addr → α → β → Prop) (H : Hp) (ρ : List Addr) (Q : β → Hp → Prop) : Res α → Prop
  | .ok a m => ∀ b H' ρ', Lat K H ρ H' ρ' → MemOk K H' ρ' m → R H' ρ' a b → Q b H'
  | .exc x m => ∃ C, mg x.cls = some (.ref C) ∧ ∀ H' ρ', Lat K H ρ H' ρ' → MemOk K H' ρ' m → match x.fs with
    | [] => E (.ref C) none H'
    | fs => ∀ d ys, H' d = some (.xd ys) → RepF K H' ρ' fs ys → E (.ref C) (some d) H'
  | .stuck => False
variable {K mg E} {α β γ δ : Type} {R : Hp → List Addr → α → β → Prop} {R' : Hp → List Addr → γ → δ → Prop} {H H1 : Hp} {ρ ρ1 : List Addr} {Q : β → Hp → Prop}
theorem Post.later {r : Res α} (h : Post K mg E R H ρ Q r) (l : Lat K H ρ H1 ρ1) : Post K mg E R H1 ρ1 Q r := by
  cases r with
  | ok a m => exact fun b H' ρ' l' => h b H' ρ' (l.trans l')
  | exc x m => obtain ⟨C, e, h⟩ := h; exact ⟨C, e, fun H' ρ' l' => h H' ρ' (l.trans l')⟩
  | stuck => exact h
theorem Post.imp {r : Res α} {Q' : β → Hp → Prop} (h : Post K mg E R H ρ Q r) (i : ∀ b H', Q b H' → Q' b H') : Post K mg E R H ρ Q' r := by
  cases r with
  | ok a m => exact fun b H' ρ' l M r => i _ _ (h b H' ρ' l M r)
  | exc x m => exact h
  | stuck => exact h
theorem Post.rel {R2 : Hp → List Addr → α → β → Prop} {r : Res α} (h : Post K mg E R H ρ Q r) (i : ∀ H' ρ' a b, R2 H' ρ' a b → R H' ρ' a b) : Post K mg E R2 H ρ Q r := by
  cases r with
  | ok a m => exact fun b H' ρ' l M q => h b H' ρ' l M (i _ _ _ _ q)
  | exc x m => exact h
  | stuck => exact h
theorem Post.bind {r : Res α} {k : α → Mem → Res γ} {Q' : δ → Hp → Prop} (h : Post K mg E R' H ρ Q' (r.bind k)) :
    Post K mg E R H ρ (fun b H1 => ∃ a m ρ1, r = .ok a m ∧ Lat K H ρ H1 ρ1 ∧ MemOk K H1 ρ1 m ∧ R H1 ρ1 a b ∧ Post K mg E R' H1 ρ1 Q' (k a m)) r := by
  cases r with
  | ok a m => exact fun b H' ρ' l M r => ⟨a, m, ρ', rfl, l, M, r, Post.later (r := k a m) h l⟩
  | exc x m => exact h
  | stuck => exact h
theorem Post.val {a : α} {μ : Mem} {b : β} (h : Post K mg E R H ρ Q (.ok a μ)) (M : MemOk K H ρ μ) (r : R H ρ a b) : Q b H := h b H ρ (.refl K H ρ) M r
end
section
variable {K : PySem.W.Frag} {mg : Str → Option Value} {E : XK} {H : Hp} {ρ : List Addr} {Q : V → Hp → Prop} {μ : Mem}
abbrev RP (K : PySem.W.Frag) : Hp → List Addr → PV → V → Prop := Rep K
theorem Post.newL {l : List PV} {xs : List V} (h : Post K mg E (RP K) H ρ Q (newL l μ)) (M : MemOk K H ρ μ) (r : Reps K H ρ l xs) : ∀ p, H p = none → Q (.ref p) (upd H p (.lst xs)) := fun p hp => by
  have q := M.push (ho := .lst xs) (o := .lst l) hp fun H' ρ' L e => ⟨xs, e, Reps.mono L l xs r⟩
  refine h (.ref p) _ _ q.2 q.1 ?_
  show Rep K _ _ (.ref μ.length) (.ref p)
  simp only [Rep]
  exact ⟨p, by rw [← M.len, List.getElem?_append_right (Nat.le_refl _)]; simp, rfl⟩
theorem Post.newT {l : List PV} {xs : List V} (h : Post K mg E (RP K) H ρ Q (.ok (.tup l) μ)) (M : MemOk K H ρ μ) (r : Reps K H ρ l xs) : ∀ p, H p = none → Q (.ref p) (upd H p (.tup xs)) := fun p hp => by
  have q := M.other (ho := .tup xs) hp
  refine h (.ref p) _ _ q.2 q.1 ?_
  show Rep K _ _ (.tup l) (.ref p)
  simp only [Rep]
  exact ⟨p, xs, rfl, SqT.of upd_same, Reps.mono q.2 l xs r⟩
/-- a cell is written -/
theorem Post.write {n : Nat} {a : Addr} {l l' : List PV} {xs' : List V} {p : PV} {b : V} (h : Post K mg E (RP K) H ρ Q (.ok p (μ.set n (.lst l')))) (M : MemOk K H ρ μ) (hn : μ[n]? = some (.lst l)) (ha : ρ[n]? = some a)
    (r : Reps K H ρ l' xs') (rp : Rep K H ρ p b) : Q b (upd H a (.lst xs')) := by
  have L0 : Lat K H ρ (upd H a (.lst xs')) ρ := by
    obtain ⟨ys, e, _⟩ := M.at' n _ a hn ha
    exact ⟨⟨[], by simp⟩, .upd (fun xs q => by rw [e] at q; cases q) fun ob xs q => by rw [e] at q; cases q⟩
  have q := M.set (ho := .lst xs') (u := .lst l') hn ha rfl ⟨xs', upd_same, Reps.mono L0 l' xs' r⟩
  exact h b _ _ q.2 q.1 (Rep.mono q.2 p b rp)
/-! what is read -/
theorem rep_ref {n : Nat} {x : V} (M : MemOk K H ρ μ) (r : Rep K H ρ (.ref n) x) : ∃ a, ρ[n]? = some a ∧ x = .ref a := by simpa only [Rep] using r
theorem mem_lst {n : Nat} {x : V} {l : List PV} (M : MemOk K H ρ μ) (r : Rep K H ρ (.ref n) x) (e : μ[n]? = some (.lst l)) : ∃ a xs, ρ[n]? = some a ∧ x = .ref a ∧ H a = some (.lst xs) ∧ Reps K H ρ l xs := by
  obtain ⟨a, h1, h2⟩ := rep_ref M r
  obtain ⟨xs, h3, h4⟩ := M.at' n _ a e h1
  exact ⟨a, xs, h1, h2, h3, h4⟩
theorem getL_ref {n : Nat} {x : V} {l : List PV} (M : MemOk K H ρ μ) (r : Rep K H ρ (.ref n) x) (e : getL μ (.ref n) = some l) : ∃ a xs, x = .ref a ∧ SqL K H a xs ∧ Reps K H ρ l xs ∧ (μ[n]? = some (.lst l) ∨ μ[n]? = some (.ro l)) := by
  obtain ⟨a, h1, h2⟩ := rep_ref M r
  simp only [getL] at e
  split at e
  · rename_i l' q
    cases e
    obtain ⟨xs, h3, h4⟩ := M.at' n _ a q h1
    exact ⟨a, xs, h2, SqL.of h3, h4, .inl q⟩
  · rename_i l' q
    cases e
    obtain ⟨xs, h3, h4⟩ := M.at' n _ a q h1
    exact ⟨a, xs, h2, h3.seq, h4, .inr q⟩
  · cases e
theorem rep_tup {x : V} {l : List PV} (r : Rep K H ρ (.tup l) x) : ∃ a xs, x = .ref a ∧ SqT K H a xs ∧ Reps K H ρ l xs := by simpa only [Rep] using r
theorem getL_any {p : PV} {x : V} {l : List PV} (M : MemOk K H ρ μ) (r : Rep K H ρ p x) (e : getL μ p = some l) : ∃ a xs, x = .ref a ∧ (SqL K H a xs ∨ SqT K H a xs) ∧ Reps K H ρ l xs := by
  cases p with
  | tup l' =>
    simp only [getL, Option.some.injEq] at e
    subst e
    obtain ⟨a, xs, h1, h2, h3⟩ := rep_tup r
    exact ⟨a, xs, h1, .inr h2, h3⟩
  | ref n =>
    obtain ⟨a, xs, h1, h2, h3, _⟩ := getL_ref M r e
    exact ⟨a, xs, h1, .inl h2, h3⟩
  | _ => simp [getL] at e
theorem intsOf_map : ∀ {l : List PV} {is : List Int} {xs : List V}, intsOf l = some is → Reps K H ρ l xs → xs = is.map V.int
  | [], is, xs, e, r => by
    simp only [intsOf, Option.some.injEq] at e
    subst e
    simp only [Reps] at r
    exact r
  | p :: ps, is, xs, e, r => by
    cases p with
    | int i =>
      obtain ⟨y, ys, rfl, h1, h2⟩ := Reps.cons_iff.mp r
      simp only [intsOf] at e
      cases q : intsOf ps with
      | none => rw [q] at e; simp at e
      | some js =>
        rw [q] at e
        simp only [Option.map_some, Option.some.injEq] at e
        subst e
        simp only [Rep] at h1
        rw [h1, intsOf_map q h2]
        rfl
    | _ => simp [intsOf] at e
theorem boolsOf_map : ∀ {l : List PV} {is : List Bool} {xs : List V}, boolsOf l = some is → Reps K H ρ l xs → xs = is.map V.bl
  | [], is, xs, e, r => by
    simp only [boolsOf, Option.some.injEq] at e
    subst e
    simp only [Reps] at r
    exact r
  | p :: ps, is, xs, e, r => by
    cases p with
    | bl i =>
      obtain ⟨y, ys, rfl, h1, h2⟩ := Reps.cons_iff.mp r
      simp only [boolsOf] at e
      cases q : boolsOf ps with
      | none => rw [q] at e; simp at e
      | some js =>
        rw [q] at e
        simp only [Option.map_some, Option.some.injEq] at e
        subst e
        simp only [Rep] at h1
        rw [h1, boolsOf_map q h2]
        rfl
    | _ => simp [boolsOf] at e
mutual
theorem dp_conv {r : Nat → Option PyData} (hr : ∀ n d x, r n = some d → Rep K H ρ (.ref n) x → Dp K H x d) : ∀ (p : PV) (d : PyData) (x : V), PV.conv r p = some d → Rep K H ρ p x → Dp K H x d
  | .non, d, x, e, h => by simp only [PV.conv, Option.some.injEq] at e; subst e; simp only [Rep] at h; subst h; exact .non
  | .bl b, d, x, e, h => by simp only [PV.conv, Option.some.injEq] at e; subst e; simp only [Rep] at h; subst h; exact .bl b
  | .int b, d, x, e, h => by simp only [PV.conv, Option.some.injEq] at e; subst e; simp only [Rep] at h; subst h; exact .int b
  | .str b, d, x, e, h => by simp only [PV.conv, Option.some.injEq] at e; subst e; simp only [Rep] at h; subst h; exact .str b
  | .tup l, d, x, e, h => by
    simp only [PV.conv] at e
    obtain ⟨a, xs, rfl, h2, h3⟩ := rep_tup h
    cases q : PV.convs r l with
    | none => rw [q] at e; simp at e
    | some ds =>
      rw [q] at e
      simp only [Option.map_some, Option.some.injEq] at e
      subst e
      exact .tup h2 (dp_convs hr l ds xs q h3)
  | .ref n, d, x, e, h => hr n d x (by simpa only [PV.conv] using e) h
  | .cst _, d, x, e, h => by simp [PV.conv] at e
theorem dp_convs {r : Nat → Option PyData} (hr : ∀ n d x, r n = some d → Rep K H ρ (.ref n) x → Dp K H x d) : ∀ (l : List PV) (ds : List PyData) (xs : List V), PV.convs r l = some ds → Reps K H ρ l xs → DpAll K H xs ds
  | [], ds, xs, e, h => by simp only [PV.convs, Option.some.injEq] at e; subst e; simp only [Reps] at h; subst h; exact .nil
  | p :: ps, ds, xs, e, h => by
    obtain ⟨y, ys, rfl, h1, h2⟩ := Reps.cons_iff.mp h
    simp only [PV.convs] at e
    cases q : PV.conv r p with
    | none => rw [q] at e; simp at e
    | some d =>
      rw [q] at e
      simp only [Option.bind_some] at e
      cases q2 : PV.convs r ps with
      | none => rw [q2] at e; simp at e
      | some es =>
        rw [q2] at e
        simp only [Option.map_some, Option.some.injEq] at e
        subst e
        exact .cons (dp_conv hr p d y q h1) (dp_convs hr ps es ys q2 h2)
end
theorem dp_toDn (M : MemOk K H ρ μ) : ∀ (n : Nat) (p : PV) (d : PyData) (x : V), toDn μ n p = some d → Rep K H ρ p x → Dp K H x d
  | 0, p, d, x, e, h => dp_conv (fun _ _ _ q => by cases q) p d x e h
  | n + 1, p, d, x, e, h => by
    have hr : ∀ (k : Nat) (d : PyData) (x : V), (match μ[k]? with
        | some (.lst l) => (PV.convs (fun j => toDn μ n (.ref j)) l).map PyData.list
        | some (.ro l) => (PV.convs (fun j => toDn μ n (.ref j)) l).map PyData.list
        | _ => none) = some d → Rep K H ρ (.ref k) x → Dp K H x d := fun k d x e h => by
      have go : ∀ l, getL μ (.ref k) = some l → (PV.convs (fun j => toDn μ n (.ref j)) l).map PyData.list = some d → Dp K H x d := fun l hl e => by
        obtain ⟨a, xs, rfl, h2, h3, _⟩ := getL_ref M h hl
        cases q : PV.convs (fun j => toDn μ n (.ref j)) l with
        | none => rw [q] at e; simp at e
        | some ds =>
          rw [q] at e
          simp only [Option.map_some, Option.some.injEq] at e
          subst e
          exact .lst h2 (dp_convs (fun j d x q h => dp_toDn M n (.ref j) d x q h) l ds xs q h3)
      split at e
      · rename_i l q; exact go l (by simp [getL, q]) e
      · rename_i l q; exact go l (by simp [getL, q]) e
      · cases e
    exact dp_conv hr p d x e h
theorem dp_toD (M : MemOk K H ρ μ) {p : PV} {d : PyData} {x : V} (e : toD μ p = some d) (h : Rep K H ρ p x) : Dp K H x d := dp_toDn M 5 p d x e h
theorem reps1 {p : PV} {xs : List V} (h : Reps K H ρ [p] xs) : ∃ x, xs = [x] ∧ Rep K H ρ p x := by
  obtain ⟨y, ys, rfl, h1, h2⟩ := Reps.cons_iff.mp h
  simp only [Reps] at h2
  subst h2
  exact ⟨y, rfl, h1⟩
theorem reps2 {p q : PV} {xs : List V} (h : Reps K H ρ [p, q] xs) : ∃ x y, xs = [x, y] ∧ Rep K H ρ p x ∧ Rep K H ρ q y := by
  obtain ⟨y, ys, rfl, h1, h2⟩ := Reps.cons_iff.mp h
  obtain ⟨z, rfl, h3⟩ := reps1 h2
  exact ⟨y, z, rfl, h1, h3⟩
end
/-! ### readings by pure functions of values -/
section
variable (K : PySem.W.Frag) (mg : Str → Option Value) (E : XK) (f : Fn)
def rP2 : R2 := fun x y H Q => ∃ μ ρ p q, MemOk K H ρ μ ∧ Rep K H ρ p x ∧ Rep K H ρ q y ∧ Post K mg E (RP K) H ρ Q (f [p, q] μ)
def rP1 : V → Hp → VK → Prop := fun x H Q => ∃ μ ρ p, MemOk K H ρ μ ∧ Rep K H ρ p x ∧ Post K mg E (RP K) H ρ Q (f [p] μ)
def rPn : List V → Hp → VK → Prop := fun xs H Q => ∃ μ ρ ps, MemOk K H ρ μ ∧ Reps K H ρ ps xs ∧ Post K mg E (RP K) H ρ Q (f ps μ)
def rPm : V → List V → Hp → VK → Prop := fun x xs H Q => ∃ μ ρ p ps, MemOk K H ρ μ ∧ Rep K H ρ p x ∧ Reps K H ρ ps xs ∧ Post K mg E (RP K) H ρ Q (f (p :: ps) μ)
end
theorem vint {K : PySem.W.Frag} {H : Hp} {ρ : List Addr} {i : Int} {x : V} (h : Rep K H ρ (.int i) x) : x = .int i := by simpa only [Rep] using h
theorem vbl {K : PySem.W.Frag} {H : Hp} {ρ : List Addr} {i : Bool} {x : V} (h : Rep K H ρ (.bl i) x) : x = .bl i := by simpa only [Rep] using h
theorem vstr {K : PySem.W.Frag} {H : Hp} {ρ : List Addr} {i : Str} {x : V} (h : Rep K H ρ (.str i) x) : x = .str i := by simpa only [Rep] using h
theorem vnon {K : PySem.W.Frag} {H : Hp} {ρ : List Addr} {x : V} (h : Rep K H ρ .non x) : x = .non := by simpa only [Rep] using h
theorem rint {K : PySem.W.Frag} {H : Hp} {ρ : List Addr} {i : Int} : Rep K H ρ (.int i) (.int i) := by simp only [Rep]
theorem rbl {K : PySem.W.Frag} {H : Hp} {ρ : List Addr} {i : Bool} : Rep K H ρ (.bl i) (.bl i) := by simp only [Rep]
theorem rstr {K : PySem.W.Frag} {H : Hp} {ρ : List Addr} {i : Str} : Rep K H ρ (.str i) (.str i) := by simp only [Rep]
theorem rnon {K : PySem.W.Frag} {H : Hp} {ρ : List Addr} : Rep K H ρ .non .non := by simp only [Rep]
section
variable {X : Cx} {E : XK}
theorem opP_sub : OpR X (binaryOp .Sub) (rP2 X.K X.mg E fSub) := by
  intro pins s σ H x y v u Q I rx ry h
  obtain ⟨μ, ρ, p, q, M, hp, hq, h⟩ := h
  cases p <;> cases q <;> first | exact h.elim | skip
  rename_i i j
  obtain rfl := vint hp
  obtain rfl := vint hq
  exact op_sub pins s σ H _ _ v u Q I rx ry ⟨i, j, rfl, rfl, h.val M rint⟩
theorem opP_add : OpR X (binaryOp .Add) (rP2 X.K X.mg E fAdd) := by
  intro pins s σ H x y v u Q I rx ry h
  obtain ⟨μ, ρ, p, q, M, hp, hq, h⟩ := h
  cases p <;> cases q <;> first | exact h.elim | skip
  · rename_i i j
    obtain rfl := vint hp
    obtain rfl := vint hq
    exact op_add pins s σ H _ _ v u Q I rx ry ⟨i, j, rfl, rfl, h.val M rint⟩
  · rename_i i j
    obtain rfl := vstr hp
    obtain rfl := vstr hq
    simp only [fAdd] at h
    split at h
    · rename_i hz
      exact op_add_str pins s σ H _ _ v u Q I rx ry ⟨i, j, rfl, rfl, by rw [SL_eq]; exact hz, h.val M rstr⟩
    · exact h.elim
  · rename_i i j
    obtain ⟨a, xs, rfl, h1, h2⟩ := rep_tup hp
    obtain ⟨b, ys, rfl, h3, h4⟩ := rep_tup hq
    simp only [fAdd] at h
    split at h
    · rename_i hz
      refine op_catA pins s σ H _ _ v u Q I rx ry ⟨a, b, xs, ys, rfl, rfl, h1, h3, by rw [SL_eq, h2.length, h4.length]; exact hz, fun e => ?_, fun _ e => ?_, fun _ _ => h.newT M (h2.append h4)⟩
      · subst e
        have e2 : i = [] := List.eq_nil_of_length_eq_zero (by rw [← h2.length]; rfl)
        subst e2
        exact h.val M (by show Rep _ _ _ _ _; simp only [Rep]; exact ⟨b, ys, rfl, h3, h4⟩)
      · subst e
        have e2 : j = [] := List.eq_nil_of_length_eq_zero (by rw [← h4.length]; rfl)
        subst e2
        exact h.val M (by show Rep _ _ _ _ _; simp only [Rep]; exact ⟨a, xs, rfl, h1, by simpa using h2⟩)
    · exact h.elim
  · rename_i n m
    simp only [fAdd] at h
    split at h
    · rename_i xs ys e1 e2
      obtain ⟨a, zs, g1, rfl, g3, g4⟩ := mem_lst M hp e1
      obtain ⟨b, ws, k1, rfl, k3, k4⟩ := mem_lst M hq e2
      split at h
      · rename_i hz
        exact op_cat pins s σ H _ _ v u Q I rx ry ⟨a, b, zs, ws, rfl, rfl, g3, k3, by rw [SL_eq, g4.length, k4.length]; exact hz, h.newL M (g4.append k4)⟩
      · exact h.elim
    · exact h.elim
theorem opP_mul : OpR X (binaryOp .Mult) (rP2 X.K X.mg E fMul) := by
  intro pins s σ H x y v u Q I rx ry h
  obtain ⟨μ, ρ, p, q, M, hp, hq, h⟩ := h
  cases p <;> cases q <;> first | exact h.elim | skip
  · rename_i i j
    obtain rfl := vint hp
    obtain rfl := vint hq
    simp only [fMul] at h
    split at h
    · rename_i hz
      have hh := h.val M rint
      rcases hz with hz | hz | hz
      · exact op_mul pins s σ H _ _ v u Q I rx ry ⟨i, j, rfl, rfl, .inl hz, hh⟩
      · exact op_mul pins s σ H _ _ v u Q I rx ry ⟨i, j, rfl, rfl, .inr hz, hh⟩
      · exact op_mulW pins s σ H _ _ v u Q I rx ry ⟨i, j, rfl, rfl, hz, hh⟩
    · exact h.elim
  · rename_i l j
    obtain rfl := vint hq
    obtain ⟨a, xs, rfl, h1, h2⟩ := rep_tup hp
    simp only [fMul] at h
    split at h
    · rename_i hz
      obtain ⟨z1, z2, z3, z4⟩ := hz
      refine op_repT pins s σ H _ _ v u Q I rx ry ⟨a, j, xs, rfl, rfl, h1, fun e => z1 ?_, z2, z3, by rw [h2.length]; exact z4, h.newT M (h2.rep _)⟩
      exact List.eq_nil_of_length_eq_zero (by rw [← h2.length, e]; rfl)
    · exact h.elim
  · rename_i n j
    obtain rfl := vint hq
    simp only [fMul] at h
    split at h
    · rename_i l e1
      obtain ⟨a, zs, g1, rfl, g3, g4⟩ := mem_lst M hp e1
      split at h
      · rename_i hz
        obtain ⟨z1, z2, z3⟩ := hz
        exact op_rep pins s σ H _ _ v u Q I rx ry ⟨a, j, zs, rfl, rfl, g3, z1, z2, by rw [SL_eq, g4.length]; exact z3, h.newL M (g4.rep _)⟩
      · exact h.elim
    · exact h.elim
theorem opP_div : OpR X (binaryOp .FloorDiv) (rP2 X.K X.mg E fDiv) := by
  intro pins s σ H x y v u Q I rx ry h
  obtain ⟨μ, ρ, p, q, M, hp, hq, h⟩ := h
  cases p <;> cases q <;> first | exact h.elim | skip
  rename_i i j
  obtain rfl := vint hp
  obtain rfl := vint hq
  simp only [fDiv] at h
  split at h
  · rename_i hz
    exact op_fdivW pins s σ H _ _ v u Q I rx ry ⟨i, j, rfl, rfl, hz, h.val M rint⟩
  · exact h.elim
theorem opP_mod : OpR X (binaryOp .Mod) (rP2 X.K X.mg E fMod) := by
  intro pins s σ H x y v u Q I rx ry h
  obtain ⟨μ, ρ, p, q, M, hp, hq, h⟩ := h
  cases p <;> cases q <;> first | exact h.elim | skip
  rename_i i j
  obtain rfl := vint hp
  obtain rfl := vint hq
  simp only [fMod] at h
  split at h
  · rename_i hz
    exact op_mod pins s σ H _ _ v u Q I rx ry ⟨i, j, rfl, rfl, hz, h.val M rint⟩
  · exact h.elim
theorem opP_pow : OpR X (binaryOp .Pow) (rP2 X.K X.mg E fPow) := by
  intro pins s σ H x y v u Q I rx ry h
  obtain ⟨μ, ρ, p, q, M, hp, hq, h⟩ := h
  cases p <;> cases q <;> first | exact h.elim | skip
  rename_i i j
  obtain rfl := vint hp
  obtain rfl := vint hq
  simp only [fPow] at h
  split at h
  · rename_i hz
    exact op_pow pins s σ H _ _ v u Q I rx ry ⟨i, j, rfl, rfl, hz, h.val M rint⟩
  · exact h.elim
theorem unP_neg : UnR X (unaryOp .USub) (rP1 X.K X.mg E fNeg) := by
  intro pins s σ H x v Q I rx h
  obtain ⟨μ, ρ, p, M, hp, h⟩ := h
  cases p <;> first | exact h.elim | skip
  rename_i i
  obtain rfl := vint hp
  exact un_neg pins s σ H _ v Q I rx ⟨i, rfl, h.val M rint⟩
theorem cmpP_lt : OpR X (compareOp .Lt) (rP2 X.K X.mg E fLt) := by
  intro pins s σ H x y v u Q I rx ry h
  obtain ⟨μ, ρ, p, q, M, hp, hq, h⟩ := h
  cases p <;> cases q <;> first | exact h.elim | skip
  rename_i i j
  obtain rfl := vint hp
  obtain rfl := vint hq
  exact op_lt pins s σ H _ _ v u Q I rx ry ⟨i, j, rfl, rfl, h.val M rbl⟩
theorem cmpP_le : OpR X (compareOp .LtE) (rP2 X.K X.mg E fLe) := by
  intro pins s σ H x y v u Q I rx ry h
  obtain ⟨μ, ρ, p, q, M, hp, hq, h⟩ := h
  cases p <;> cases q <;> first | exact h.elim | skip
  rename_i i j
  obtain rfl := vint hp
  obtain rfl := vint hq
  exact op_le pins s σ H _ _ v u Q I rx ry ⟨i, j, rfl, rfl, h.val M rbl⟩
theorem cmpP_gt : OpR X (compareOp .Gt) (rP2 X.K X.mg E fGt) := by
  intro pins s σ H x y v u Q I rx ry h
  obtain ⟨μ, ρ, p, q, M, hp, hq, h⟩ := h
  cases p <;> cases q <;> first | exact h.elim | skip
  rename_i i j
  obtain rfl := vint hp
  obtain rfl := vint hq
  exact op_gt pins s σ H _ _ v u Q I rx ry ⟨i, j, rfl, rfl, h.val M rbl⟩
theorem cmpP_ge : OpR X (compareOp .GtE) (rP2 X.K X.mg E fGe) := by
  intro pins s σ H x y v u Q I rx ry h
  obtain ⟨μ, ρ, p, q, M, hp, hq, h⟩ := h
  cases p <;> cases q <;> first | exact h.elim | skip
  rename_i i j
  obtain rfl := vint hp
  obtain rfl := vint hq
  exact op_ge pins s σ H _ _ v u Q I rx ry ⟨i, j, rfl, rfl, h.val M rbl⟩
theorem scal_of {K : PySem.W.Frag} {H : Hp} {ρ : List Addr} {p q : PV} {x y : V} {b : Bool} (hp : Rep K H ρ p x) (hq : Rep K H ρ q y) (e : scalP p q = some b) : scal x y = true ∧ b = decide (x = y) := by
  cases p <;> cases q <;> simp only [scalP, reduceCtorEq, Option.some.injEq] at e <;> subst e
  · rename_i i j
    obtain rfl := vbl hp
    obtain rfl := vbl hq
    exact ⟨rfl, by simp⟩
  · rename_i i j
    obtain rfl := vint hp
    obtain rfl := vint hq
    exact ⟨rfl, by simp⟩
  · rename_i i j
    obtain rfl := vstr hp
    obtain rfl := vstr hq
    exact ⟨rfl, by simp⟩
theorem eq_run {op : CmpOp} {g : Bool → Bool} (h1 : OpR X (compareOp op) (fun x y H Q => scal x y = true ∧ Q (.bl (g (decide (x = y)))) H))
    (h2 : OpR X (compareOp op) (fun x y H Q => ∃ d e, Dp X.K H x d ∧ Dp X.K H y e ∧ SeqAt.shaped d = true ∧ SeqAt.shaped e = true ∧ Q (.bl (g (PyData.eqv d e))) H)) {f : Fn}
    (hf : ∀ p q μ, f [p, q] μ = match eqR μ p q with | some b => .ok (.bl (g b)) μ | none => .stuck) : OpR X (compareOp op) (rP2 X.K X.mg E f) := by
  intro pins s σ H x y v u Q I rx ry h
  obtain ⟨μ, ρ, p, q, M, hp, hq, h⟩ := h
  rw [hf] at h
  cases e : eqR μ p q with
  | none => rw [e] at h; exact h.elim
  | some b =>
    rw [e] at h
    have hv := h.val M rbl
    unfold eqR at e
    cases e2 : scalP p q with
    | some b' =>
      rw [e2] at e
      cases e
      obtain ⟨z1, z2⟩ := scal_of hp hq e2
      exact h1 pins s σ H x y v u Q I rx ry ⟨z1, by rw [← z2]; exact hv⟩
    | none =>
      rw [e2] at e
      simp only at e
      split at e
      · rename_i d d' e3 e4
        split at e
        · rename_i hz
          cases e
          exact h2 pins s σ H x y v u Q I rx ry ⟨d, d', dp_toD M e3 hp, dp_toD M e4 hq, hz.1, hz.2, hv⟩
        · cases e
      · cases e
theorem cmpP_eq (hu : X.A.units + 64 < cLine) : OpR X (compareOp .Eq) (rP2 X.K X.mg E fEq) := eq_run (g := id) op_eq (op_eqD hu) fun _ _ _ => rfl
theorem cmpP_ne (hu : X.A.units + 64 < cLine) : OpR X (compareOp .NotEq) (rP2 X.K X.mg E fNe) := eq_run (g := fun b => !b) op_ne (op_neD hu) fun _ _ _ => rfl
theorem flat_of {K : PySem.W.Frag} {H : Hp} {ρ : List Addr} {p : PV} {x : V} (h : Rep K H ρ p x) (e : flatP p = true) : flatV x = true := by
  cases p <;> simp only [Rep] at h <;> first | (subst h; rfl) | cases e
theorem eqF_of {K : PySem.W.Frag} {H : Hp} {ρ : List Addr} {p q : PV} {x y : V} (h : Rep K H ρ p x) (h' : Rep K H ρ q y) (e : flatP p = true) (e' : flatP q = true) : eqF p q = eqV x y := by
  cases p <;> cases q <;> simp only [Rep] at h h' <;> first | (subst h; subst h'; rfl) | exact absurd e Bool.false_ne_true | exact absurd e' Bool.false_ne_true
theorem flats_of {K : PySem.W.Frag} {H : Hp} {ρ : List Addr} : ∀ {l : List PV} {xs : List V}, Reps K H ρ l xs → l.all flatP = true → xs.all flatV = true
  | [], xs, h, _ => by simp only [Reps] at h; subst h; rfl
  | p :: ps, xs, h, e => by
    obtain ⟨y, ys, rfl, h1, h2⟩ := Reps.cons_iff.mp h
    simp only [List.all_cons, Bool.and_eq_true] at e ⊢
    exact ⟨flat_of h1 e.1, flats_of h2 e.2⟩
theorem anyF_of {K : PySem.W.Frag} {H : Hp} {ρ : List Addr} {p : PV} {x : V} (h : Rep K H ρ p x) (e : flatP p = true) : ∀ {l : List PV} {xs : List V}, Reps K H ρ l xs → l.all flatP = true → (l.any fun z => eqF z p) = inV x xs
  | [], xs, h, _ => by simp only [Reps] at h; subst h; rfl
  | q :: ps, xs, h', e' => by
    obtain ⟨y, ys, rfl, h1, h2⟩ := Reps.cons_iff.mp h'
    simp only [List.all_cons, Bool.and_eq_true] at e'
    have ih := anyF_of h e h2 e'.2
    show (eqF q p || ps.any fun z => eqF z p) = inV x (y :: ys)
    rw [ih, eqF_of h1 h e'.1 e]
    rfl
/-- in, within a tuple of data -/
def rInT (K : PySem.W.Frag) (neg : Bool) : R2 := fun x y H Q => ∃ d ds, Dp K H x d ∧ Dp K H y (.tuple ds) ∧ SeqAt.shaped d = true ∧ SeqAt.shaped (.tuple ds) = true ∧ Q (.bl (if neg then !(ds.any fun z => PyData.eqv z d) else ds.any fun z => PyData.eqv z d)) H
theorem in_tupD (hu : X.A.units + 65 < cLine) : OpR X (compareOp .In) (rInT X.K false) := by
  rintro pins s σ H x y v u Q I rx ry ⟨d, ds, k1, k2, z1, z2, hq⟩
  have ⟨_, a1⟩ := Dp.reads I _ _ _ k1 rx
  have ⟨_, a2⟩ := Dp.reads I _ _ _ k2 ry
  exact SeqAt.in_tuple_reads a2 a1 (SeqAt.canLay_of_shaped z2) (SeqAt.canLay_of_shaped z1) (by have := SeqAt.depth_of_shaped z1; omega) ⟨.bl _, H, I, rfl, hq⟩
theorem notIn_tupD (hu : X.A.units + 65 < cLine) : OpR X (compareOp .NotIn) (rInT X.K true) := by
  rintro pins s σ H x y v u Q I rx ry ⟨d, ds, k1, k2, z1, z2, hq⟩
  have ⟨_, a1⟩ := Dp.reads I _ _ _ k1 rx
  have ⟨_, a2⟩ := Dp.reads I _ _ _ k2 ry
  exact SeqAt.notIn_tuple_reads a2 a1 (SeqAt.canLay_of_shaped z2) (SeqAt.canLay_of_shaped z1) (by have := SeqAt.depth_of_shaped z1; omega) ⟨.bl _, H, I, rfl, hq⟩
theorem in_run {op : CmpOp} {neg : Bool} (h0 : OpR X (compareOp op) (fun x y H Q => ∃ (k : Nat) (z : Str), x = .str ⟨#[k]⟩ ∧ y = .str z ∧ Q (.bl (if neg then !decide (k ∈ z.cps.toList) else decide (k ∈ z.cps.toList))) H))
    (h1 : OpR X (compareOp op) (rIn X.K neg))
    (h2 : OpR X (compareOp op) (fun x y H Q => ∃ d ds, Dp X.K H x d ∧ Dp X.K H y (.list ds) ∧ SeqAt.shaped d = true ∧ SeqAt.shaped (.list ds) = true ∧ Q (.bl (if neg then !(ds.any fun z => PyData.eqv z d) else ds.any fun z => PyData.eqv z d)) H))
    (h3 : OpR X (compareOp op) (rInT X.K neg)) {f : Fn}
    (hf : ∀ p q μ, f [p, q] μ = match inR μ p q with | some b => .ok (.bl (if neg then !b else b)) μ | none => .stuck) : OpR X (compareOp op) (rP2 X.K X.mg E f) := by
  intro pins s σ H x y v u Q I rx ry h
  obtain ⟨μ, ρ, p, q, M, hp, hq, h⟩ := h
  rw [hf] at h
  cases e : inR μ p q with
  | none => rw [e] at h; exact h.elim
  | some b =>
    rw [e] at h
    have hv := h.val M rbl
    unfold inR at e
    split at e
    · rename_i z hz
      cases p <;> cases q <;> simp only [strPair, reduceCtorEq, Option.some.injEq] at hz
      rename_i a w
      subst hz
      obtain rfl := vstr hp
      obtain rfl := vstr hq
      unfold inStr at e
      simp only at e
      split at e
      · rename_i k hk
        simp only [Option.some.injEq] at e
        subst e
        refine h0 pins s σ H _ _ v u Q I rx ry ⟨k, w, ?_, rfl, hv⟩
        have : a = ⟨#[k]⟩ := by
          cases a with
          | mk cps =>
            congr 1
            exact Array.toList_inj.mp (by simpa using hk)
        rw [this]
      · cases e
    · unfold inSeq at e
      split at e
      · rename_i l hl
        split at e
        · rename_i hz
          cases e
          obtain ⟨a, xs, rfl, k1, k2⟩ := getL_any M hq hl
          refine h1 pins s σ H x _ v u Q I rx ry ⟨a, xs, rfl, k1, flat_of hp hz.1, flats_of k2 hz.2, ?_⟩
          rw [← anyF_of hp hz.1 k2 hz.2]
          exact hv
        · unfold inDeep at e
          split at e
          · split at e
            · rename_i d es e3 e4
              split at e
              · rename_i hz
                cases e
                exact h2 pins s σ H x y v u Q I rx ry ⟨d, es, dp_toD M e3 hp, dp_toD M e4 hq, hz.1, hz.2, hv⟩
              · cases e
            · cases e
          · split at e
            · rename_i d es e3 e4
              split at e
              · rename_i hz
                cases e
                exact h3 pins s σ H x y v u Q I rx ry ⟨d, es, dp_toD M e3 hp, dp_toD M e4 hq, hz.1, hz.2, hv⟩
              · cases e
            · cases e
          · cases e
      · cases e
theorem cmpP_in (hu : X.A.units + 65 < cLine) : OpR X (compareOp .In) (rP2 X.K X.mg E fIn) :=
  in_run (neg := false) op_in_sign op_in_seq (op_inD hu) (in_tupD hu) fun p q μ => by simp only [fIn, Bool.false_eq_true, if_false]; try rfl
theorem cmpP_notIn (hu : X.A.units + 65 < cLine) : OpR X (compareOp .NotIn) (rP2 X.K X.mg E fNotIn) :=
  in_run (neg := true) op_notIn_sign op_notIn_seq (op_notInD hu) (notIn_tupD hu) fun p q μ => by simp only [fNotIn, if_true]; try rfl
theorem isNon_of {K : PySem.W.Frag} {H : Hp} {ρ : List Addr} {p : PV} {x : V} (h : Rep K H ρ p x) : isNon p = decide (x = .non) := by
  cases p <;> simp only [Rep] at h
  · subst h; rfl
  · subst h; rfl
  · subst h; rfl
  · subst h; rfl
  · obtain ⟨a, xs, rfl, _⟩ := h; rfl
  · obtain ⟨a, _, rfl⟩ := h; rfl
  · subst h; rfl
theorem cmpP_isN : OpR X (compareOp .Is) (rP2 X.K X.mg E fIsN) := by
  intro pins s σ H x y v u Q I rx ry h
  obtain ⟨μ, ρ, p, q, M, hp, hq, h⟩ := h
  cases q <;> first | exact h.elim | skip
  obtain rfl := vnon hq
  have e : fIsN [p, .non] μ = .ok (.bl (isNon p)) μ := by cases p <;> rfl
  rw [e] at h
  exact op_isN pins s σ H _ _ v u Q I rx ry ⟨rfl, by rw [← isNon_of hp]; exact h.val M rbl⟩
theorem cmpP_notN : OpR X (compareOp .IsNot) (rP2 X.K X.mg E fNotN) := by
  intro pins s σ H x y v u Q I rx ry h
  obtain ⟨μ, ρ, p, q, M, hp, hq, h⟩ := h
  cases q <;> first | exact h.elim | skip
  obtain rfl := vnon hq
  have e : fNotN [p, .non] μ = .ok (.bl (!isNon p)) μ := by cases p <;> rfl
  rw [e] at h
  exact op_notN pins s σ H _ _ v u Q I rx ry ⟨rfl, by rw [← isNon_of hp]; exact h.val M rbl⟩
theorem atI_get {K : PySem.W.Frag} {H : Hp} {ρ : List Addr} {l : List PV} {xs : List V} {i : Int} {q : PV} (h : Reps K H ρ l xs) (e : PL.atI l i = some q) : ∃ y, L2.atI xs i = some y ∧ Rep K H ρ q y := by
  unfold PL.atI at e
  unfold L2.atI
  have en : PL.ixN l.length i = L2.ixN xs.length i := by rw [h.length]; rfl
  rw [← en]
  cases z : PL.ixN l.length i with
  | none => rw [z] at e; simp at e
  | some j =>
    rw [z] at e
    simp only [Option.bind_some] at e ⊢
    exact h.get e
theorem ixP : IxR X (rP2 X.K X.mg E fIx) := by
  intro value slice pins s σ H x y v u Q I rx ry h hs
  obtain ⟨μ, ρ, p, q, M, hp, hq, h⟩ := h
  cases q with
  | int i =>
    obtain rfl := vint hq
    have seqs : (match getL μ p with
      | some l => match PL.atI l i with | some q => Res.ok q μ | none => .stuck
      | none => .stuck) = fIx [p, .int i] μ → wpAny (model X.prog X.w) X.A (PyProof.Rows.subscriptTail value slice v u) (EP X pins σ Q) X.xe s := fun e => by
      rw [← e] at h
      split at h
      · rename_i l hl
        split at h
        · rename_i q hq2
          cases p with
          | tup l' =>
            simp only [getL, Option.some.injEq] at hl
            subst hl
            obtain ⟨a, xs, rfl, k1, k2⟩ := rep_tup hp
            obtain ⟨z, z1, z2⟩ := atI_get k2 hq2
            exact ix_tup value slice pins s σ H _ _ v u Q I rx ry ⟨a, xs, i, z, rfl, rfl, k1, z1, h.val M z2⟩ hs
          | ref n =>
            obtain ⟨a, xs, rfl, k1, k2, _⟩ := getL_ref M hp hl
            obtain ⟨z, z1, z2⟩ := atI_get k2 hq2
            exact ix_list value slice pins s σ H _ _ v u Q I rx ry ⟨a, xs, i, z, rfl, rfl, k1, z1, h.val M z2⟩ hs
          | _ => simp [getL] at hl
        · exact h.elim
      · exact h.elim
    cases p with
    | str z =>
      obtain rfl := vstr hp
      simp only [fIx] at h
      split at h
      · rename_i hz
        split at h
        · rename_i k hk
          exact ix_str value slice pins s σ H _ _ v u Q I rx ry ⟨z, i, k, rfl, rfl, by rw [SL_eq]; exact hz, hk, h.val M rstr⟩ hs
        · exact h.elim
      · exact h.elim
    | _ => exact seqs rfl
  | _ => cases p <;> exact h.elim
theorem cut_get {K : PySem.W.Frag} {H : Hp} {ρ : List Addr} {l : List PV} {xs : List V} (lo hi : Option Int) (h : Reps K H ρ l xs) : Reps K H ρ (cut l lo hi) (cutV xs lo hi) := by
  unfold cut cutV
  rw [h.length]
  exact (h.drop _).take _
end
end PL
end
section
set_option autoImplicit false
set_option Elab.async false
set_option linter.all false
set_option maxRecDepth 100000
set_option maxHeartbeats 1000000
/-! The judgements over the pure layer and their rules. -/
namespace PL
open PySem L2
/-! ### readings by pure functions -/
section
variable (K : PySem.W.Frag) (mg : Str → Option Value) (E : XK)
abbrev RB : Hp → List Addr → Bool → Bool → Prop := fun _ _ p b => b = p
abbrev RPs (K : PySem.W.Frag) : Hp → List Addr → List PV → List V → Prop := Reps K
abbrev RU : Hp → List Addr → Unit → Unit → Prop := fun _ _ _ _ => True
def tE (f : Ex) : TE := fun σ H Q => ∃ env μ ρ, EnvOk K H ρ env σ ∧ MemOk K H ρ μ ∧ Post K mg E (RP K) H ρ Q (f env μ)
def tT (f : Ex) : TT := fun σ H Q => ∃ env μ ρ, EnvOk K H ρ env σ ∧ MemOk K H ρ μ ∧ Post K mg E RB H ρ Q ((f env μ).bind asB)
def tA (f : Ag) : TA := fun σ H Q => ∃ env μ ρ, EnvOk K H ρ env σ ∧ MemOk K H ρ μ ∧ Post K mg E (RPs K) H ρ Q (f env μ)
/-- what a pure statement's end asks -/
def PostS (H : Hp) (ρ : List Addr) (D : Ends) : Out → Prop
  | .nx env m => ∀ σ' H' ρ', Lat K H ρ H' ρ' → MemOk K H' ρ' m → EnvOk K H' ρ' env σ' → D.nx σ' H'
  | .bk env m => ∀ σ' H' ρ', Lat K H ρ H' ρ' → MemOk K H' ρ' m → EnvOk K H' ρ' env σ' → D.bk σ' H'
  | .ct env m => ∀ σ' H' ρ', Lat K H ρ H' ρ' → MemOk K H' ρ' m → EnvOk K H' ρ' env σ' → D.ct σ' H'
  | .rt p m => ∀ x H' ρ', Lat K H ρ H' ρ' → MemOk K H' ρ' m → Rep K H' ρ' p x → D.rt x H'
  | .exc x m => Post K mg E RU H ρ (fun _ _ => True) (.exc x m)
  | .stuck => False
def tS (f : Sm) : TS := fun D σ H => ∃ env μ ρ, EnvOk K H ρ env σ ∧ MemOk K H ρ μ ∧ PostS K mg E H ρ D (f env μ)
/-- the slots but those at is are as they were -/
def OutOf (is : List Nat) (σ σ' : L2.St) : Prop := σ'.length = σ.length ∧ ∀ j, j ∉ is → σ'[j]? = σ[j]?
def RG (K : PySem.W.Frag) (is : List Nat) (σ : L2.St) : Hp → List Addr → Env → L2.St → Prop := fun H' ρ' env σ' => EnvOk K H' ρ' env σ' ∧ OutOf is σ σ'
def tG (is : List Nat) (g : Tg) : TG := fun x σ H Q => ∃ env μ ρ p, EnvOk K H ρ env σ ∧ MemOk K H ρ μ ∧ Rep K H ρ p x ∧ Post K mg E (RG K is σ) H ρ Q (g p env μ)
def tGs (is : List Nat) (g : Tgs) : TGs := fun xs σ H Q => ∃ env μ ρ ps, EnvOk K H ρ env σ ∧ MemOk K H ρ μ ∧ Reps K H ρ ps xs ∧ Post K mg E (RG K is σ) H ρ Q (g ps env μ)
/-- an iterator goes through the items while the locks hold -/
structure ItOk (H0 : Hp) (ρ0 : List Addr) (z : Its) (J : L2.It) : Prop where
  go : ∀ H ρ μ i p, Lat K H0 ρ0 H ρ → MemOk K H ρ μ → locked z.lk μ → z.items[i]? = some p → J.go i H ∧ ∀ x H', J.yld i H x H' → Lat K H ρ H' ρ ∧ MemOk K H' ρ μ ∧ Rep K H' ρ p x
  stop : ∀ H ρ μ, Lat K H0 ρ0 H ρ → MemOk K H ρ μ → locked z.lk μ → J.stop z.items.length H
def tI (f : PL.It) : TI := fun σ H R => ∃ env μ ρ, EnvOk K H ρ env σ ∧ MemOk K H ρ μ ∧ Post K mg E (fun H' ρ' z J => ItOk K H' ρ' z J) H ρ R (f env μ)
end
section
variable (X : Cx) (E : XK)
structure PP (e : Expr) (f : Ex) : Prop where pe : PE X e (tE X.K X.mg E f)
structure PPT (e : Expr) (f : Ex) : Prop where pt : PT X e (tT X.K X.mg E f)
structure PPW (e : Expr) (f : Ex) : Prop where pw : PW X e (tT X.K X.mg E f)
structure PPA (es : List Expr) (f : Ag) : Prop where
  pa : PA X es (tA X.K X.mg E f)
  len : ∀ env μ as μ', f env μ = .ok as μ' → as.length = es.length
structure PPs (st : Stmt) (f : Sm) : Prop where ps : PS X st (tS X.K X.mg E f)
structure PPb (st : List Stmt) (f : Sm) : Prop where ps : PSs X st (tS X.K X.mg E f)
structure PPG (e : Expr) (is : List Nat) (g : Tg) : Prop where pg : PG X e (tG X.K X.mg E is g)
structure PPGs (es : List Expr) (is : List Nat) (g : Tgs) : Prop where pg : PGs X es (tGs X.K X.mg E is g)
structure PPI (tg iter : Expr) (f : PL.It) : Prop where pi : PI X tg iter (tI X.K X.mg E f)
end
/-! ### weaker readings -/
section
variable {X : Cx}
theorem PE.imp {e : Expr} {t t' : TE} (h : PE X e t) (i : ∀ σ H Q, t' σ H Q → t σ H Q) : PE X e t' := ⟨fun pins s σ H Q I q => h.run pins s σ H Q I (i σ H Q q)⟩
theorem PT.imp {e : Expr} {t t' : TT} (h : PT X e t) (i : ∀ σ H Q, t' σ H Q → t σ H Q) : PT X e t' := ⟨fun pins s σ H Q I q => h.run pins s σ H Q I (i σ H Q q)⟩
theorem PW.imp {e : Expr} {t t' : TT} (h : PW X e t) (i : ∀ σ H Q, t' σ H Q → t σ H Q) : PW X e t' := ⟨fun wh pins s σ H Q I q => h.run wh pins s σ H Q I (i σ H Q q)⟩
theorem PA.imp {e : List Expr} {t t' : TA} (h : PA X e t) (i : ∀ σ H Q, t' σ H Q → t σ H Q) : PA X e t' := ⟨fun p pins s σ H Q I q => h.run p pins s σ H Q I (i σ H Q q)⟩
theorem PS.imp {e : Stmt} {t t' : TS} (h : PS X e t) (i : ∀ D σ H, t' D σ H → t D σ H) : PS X e t' := ⟨fun pins s σ H D I q => h.run pins s σ H D I (i D σ H q)⟩
theorem PSs.imp {e : List Stmt} {t t' : TS} (h : PSs X e t) (i : ∀ D σ H, t' D σ H → t D σ H) : PSs X e t' := ⟨fun pins s σ H D I q => h.run pins s σ H D I (i D σ H q)⟩
theorem PG.imp {e : Expr} {t t' : TG} (h : PG X e t) (i : ∀ v σ H Q, t' v σ H Q → t v σ H Q) : PG X e t' := ⟨fun pins s σ H v u Q I r q => h.run pins s σ H v u Q I r (i v σ H Q q)⟩
theorem PGs.imp {e : List Expr} {t t' : TGs} (h : PGs X e t) (i : ∀ v σ H Q, t' v σ H Q → t v σ H Q) : PGs X e t' := ⟨fun pins s σ H v u Q I r q => h.run pins s σ H v u Q I r (i v σ H Q q)⟩
theorem PI.imp {tg e : Expr} {t t' : TI} (h : PI X tg e t) (i : ∀ σ H Q, t' σ H Q → t σ H Q) : PI X tg e t' := ⟨fun pins s σ H Q I q => h.run pins s σ H Q I (i σ H Q q)⟩
theorem PI.or {tg e : Expr} {t t' : TI} (h : PI X tg e t) (h' : PI X tg e t') : PI X tg e (fun σ H Q => t σ H Q ∨ t' σ H Q) := ⟨fun pins s σ H Q I q => q.elim (fun q => h.run pins s σ H Q I q) fun q => h'.run pins s σ H Q I q⟩
end
section
variable {K : PySem.W.Frag} {mg : Str → Option Value} {E : XK} {H H1 : Hp} {ρ ρ1 : List Addr} {D : Ends}
theorem PostS.later {o : Out} (h : PostS K mg E H ρ D o) (l : Lat K H ρ H1 ρ1) : PostS K mg E H1 ρ1 D o := by
  cases o with
  | nx env m => exact fun a b c l' => h a b c (l.trans l')
  | bk env m => exact fun a b c l' => h a b c (l.trans l')
  | ct env m => exact fun a b c l' => h a b c (l.trans l')
  | rt env m => exact fun a b c l' => h a b c (l.trans l')
  | exc x m => exact Post.later (K := K) (mg := mg) (E := E) (R := RU) (Q := fun _ _ => True) (r := (.exc x m : Res Unit)) h l
  | stuck => exact h
theorem PostS.of {α β : Type} {R : Hp → List Addr → α → β → Prop} {r : Res α} {k : α → Mem → Out} (h : PostS K mg E H ρ D (.of r k)) :
    Post K mg E R H ρ (fun b H1 => ∃ a m ρ1, r = .ok a m ∧ Lat K H ρ H1 ρ1 ∧ MemOk K H1 ρ1 m ∧ R H1 ρ1 a b ∧ PostS K mg E H1 ρ1 D (k a m)) r := by
  cases r with
  | ok a m => exact fun b H' ρ' l M r => ⟨a, m, ρ', rfl, l, M, r, PostS.later (o := k a m) h l⟩
  | exc x m => exact h
  | stuck => exact h
theorem PostS.then {o : Out} {k : Sm} (h : PostS K mg E H ρ D (o.then k)) :
    PostS K mg E H ρ { D with nx := fun σ' H' => ∃ env m ρ', Lat K H ρ H' ρ' ∧ MemOk K H' ρ' m ∧ EnvOk K H' ρ' env σ' ∧ PostS K mg E H' ρ' D (k env m) } o := by
  cases o with
  | nx env m => exact fun σ' H' ρ' l M e => ⟨env, m, ρ', l, M, e, PostS.later (o := k env m) h l⟩
  | bk env m => exact h
  | ct env m => exact h
  | rt p m => exact h
  | exc x m => exact h
  | stuck => exact h
theorem PostS.imp {D' : Ends} {o : Out} (h : PostS K mg E H ρ D o) (h1 : ∀ σ H, D.nx σ H → D'.nx σ H) (h2 : ∀ x H, D.rt x H → D'.rt x H) (h3 : ∀ σ H, D.bk σ H → D'.bk σ H) (h4 : ∀ σ H, D.ct σ H → D'.ct σ H) : PostS K mg E H ρ D' o := by
  cases o with
  | nx env m => exact fun a b c l M e => h1 _ _ (h a b c l M e)
  | bk env m => exact fun a b c l M e => h3 _ _ (h a b c l M e)
  | ct env m => exact fun a b c l M e => h4 _ _ (h a b c l M e)
  | rt env m => exact fun a b c l M e => h2 _ _ (h a b c l M e)
  | exc x m => exact h
  | stuck => exact h
theorem tE.imp {f : Ex} {σ : L2.St} {Q Q' : VK} (h : tE K mg E f σ H Q) (i : ∀ x H', Q x H' → Q' x H') : tE K mg E f σ H Q' := by
  obtain ⟨env, μ, ρ, e, M, h⟩ := h
  exact ⟨env, μ, ρ, e, M, h.imp i⟩
end
/-! ### expressions -/
section
variable {X : Cx} {E : XK} {a b d e : Expr} {es rest : List Expr} {fa fb fd fe : Ex} {pos : Pos}
theorem pp_v (i : Nat) {x : Str} (hN : X.N[i]? = some x := by rfl) (hv : Vis X.env.scope x := by first | exact Or.inl rfl | exact Or.inr (Or.inl rfl) | exact Or.inr (Or.inr rfl)) (hd : (x == ("__debug__" : Str)) = false := by decide)
    (hcd : (x == ("__classdict__" : Str)) = false := by decide) : PP X E (.Name x pos) (v i) := ⟨by
  refine PE.imp (pe_var (i := i) hN hv hd hcd) fun σ H Q h => ?_
  obtain ⟨env, μ, ρ, e, M, h⟩ := h
  unfold v at h
  split at h
  · rename_i p hp
    obtain ⟨x, h1, h2⟩ := e.at' i p hp
    exact ⟨x, h1, h.val M h2⟩
  · exact h.elim⟩
theorem pp_const {e : Expr} {p : PV} {x : V} (h : PE X e (tC x)) (r : ∀ H ρ, Rep X.K H ρ p x) : PP X E e (c p) := ⟨by
  refine PE.imp h fun σ H Q h => ?_
  obtain ⟨env, μ, ρ, e, M, h⟩ := h
  exact Post.val (R := RP X.K) (show Post X.K X.mg E (RP X.K) H ρ Q (Res.ok p μ) from h) M (r H ρ)⟩
theorem pp_int {i : Int} {j : Nat} : PP X E (.Constant (.int i) j pos) (c (.int i)) := pp_const pe_int fun _ _ => rint
theorem pp_bl {i : Bool} {j : Nat} : PP X E (.Constant (.bool i) j pos) (c (.bl i)) := pp_const pe_bl fun _ _ => rbl
theorem pp_str {i : Str} {j : Nat} : PP X E (.Constant (.str i) j pos) (c (.str i)) := pp_const pe_str fun _ _ => rstr
theorem pp_non {j : Nat} : PP X E (.Constant .none j pos) (c .non) := pp_const pe_non fun _ _ => rnon
/-- a constant of the module -/
theorem pp_glob {x : Str} {p : PV} {w : V} {u : Value} (hm : X.mg x = some u) (r : RelV w u) (h : ∀ H ρ, Rep X.K H ρ p w) (hg : Gl X x := by rfl) (hd : (x == ("__debug__" : Str)) = false := by decide) : PP X E (.Name x pos) (c p) := pp_const (pe_glob hg hm r hd) h
/-- the step from one part to what follows -/
theorem tE_bind {K : PySem.W.Frag} {mg : Str → Option Value} {γ δ : Type} {R' : Hp → List Addr → γ → δ → Prop} {H : Hp} {ρ : List Addr} {Q' : δ → Hp → Prop} {env : Env} {μ : Mem} {σ : L2.St} {k : PV → Mem → Res γ} (eo : EnvOk K H ρ env σ) (M : MemOk K H ρ μ)
    (h : Post K mg E R' H ρ Q' ((fa env μ).bind k)) {Q : VK} (i : ∀ x H1 p m ρ1, fa env μ = .ok p m → Lat K H ρ H1 ρ1 → EnvOk K H1 ρ1 env σ → MemOk K H1 ρ1 m → Rep K H1 ρ1 p x → Post K mg E R' H1 ρ1 Q' (k p m) → Q x H1) : tE K mg E fa σ H Q :=
  ⟨env, μ, ρ, eo, M, (Post.bind (R := RP K) h).imp fun x H1 ⟨p, m, ρ1, e, l, M1, r, q⟩ => i x H1 p m ρ1 e l (eo.mono l) M1 r q⟩
theorem pp_op {op : Operator} {f : Fn} (ho : OpR X (binaryOp op) (rP2 X.K X.mg E f)) (ha : PP X E a fa) (hb : PP X E b fb) : PP X E (.BinOp a op b pos) (app2 f fa fb) := ⟨by
  refine PE.imp (pe_op ho ha.pe hb.pe) fun σ H Q h => ?_
  obtain ⟨env, μ, ρ, eo, M, h⟩ := h
  exact tE_bind eo M h fun x H1 p m ρ1 _ l1 e1 M1 r1 q1 => tE_bind e1 M1 q1 fun y H2 q m2 ρ2 _ l2 e2 M2 r2 q2 => ⟨m2, ρ2, p, q, M2, Rep.mono l2 _ _ r1, r2, q2⟩⟩
theorem pp_cmp {op : CmpOp} {f : Fn} (ho : OpR X (compareOp op) (rP2 X.K X.mg E f)) (ha : PP X E a fa) (hb : PP X E b fb) (hm : behindInMarks op b = false := by first | exact nobehind _ (by decide) (by decide) | rfl | with_unfolding_all rfl) : PP X E (.Compare a [op] [b] pos) (app2 f fa fb) := ⟨by
  refine PE.imp (pe_cmpR ho ha.pe hb.pe hm) fun σ H Q h => ?_
  obtain ⟨env, μ, ρ, eo, M, h⟩ := h
  exact tE_bind eo M h fun x H1 p m ρ1 _ l1 e1 M1 r1 q1 => tE_bind e1 M1 q1 fun y H2 q m2 ρ2 _ l2 e2 M2 r2 q2 => ⟨m2, ρ2, p, q, M2, Rep.mono l2 _ _ r1, r2, q2⟩⟩
theorem post_test {K : PySem.W.Frag} {mg : Str → Option Value} {H : Hp} {ρ : List Addr} {Q : Bool → Hp → Prop} {r : Res PV} (h : Post K mg E RB H ρ Q (r.bind asB)) : Post K mg E (RP K) H ρ (fun x H' => ∃ k, x = .bl k ∧ Q k H') r := by
  cases r with
  | ok p m =>
    cases p with
    | bl b =>
      intro x H' ρ' l M rx
      exact ⟨b, vbl rx, h b H' ρ' l M rfl⟩
    | _ => exact h.elim
  | exc x m => exact h
  | stuck => exact h
theorem tE_test {K : PySem.W.Frag} {mg : Str → Option Value} {f : Ex} {σ : L2.St} {H : Hp} {Q : Bool → Hp → Prop} (h : tT K mg E f σ H Q) : tE K mg E f σ H (fun x H' => ∃ k, x = .bl k ∧ Q k H') := by
  obtain ⟨env, μ, ρ, e, M, h⟩ := h
  exact ⟨env, μ, ρ, e, M, post_test h⟩
/-- a test's outcome, then what follows -/
theorem tT_bind {K : PySem.W.Frag} {mg : Str → Option Value} {γ δ : Type} {R' : Hp → List Addr → γ → δ → Prop} {H : Hp} {ρ : List Addr} {Q' : δ → Hp → Prop} {env : Env} {μ : Mem} {σ : L2.St} {k1 k2 : Mem → Res γ} (eo : EnvOk K H ρ env σ) (M : MemOk K H ρ μ)
    (h : Post K mg E R' H ρ Q' ((fa env μ).bind fun p m => onB p (k1 m) (k2 m))) {Q : Bool → Hp → Prop} (i : ∀ t H1 m ρ1, fa env μ = .ok (.bl t) m → Lat K H ρ H1 ρ1 → EnvOk K H1 ρ1 env σ → MemOk K H1 ρ1 m → Post K mg E R' H1 ρ1 Q' (if t = true then k1 m else k2 m) → Q t H1) : tT K mg E fa σ H Q := by
  refine ⟨env, μ, ρ, eo, M, ?_⟩
  cases e : fa env μ with
  | ok p m =>
    rw [e] at h
    cases p with
    | bl t =>
      intro b H1 ρ1 l M1 rb
      cases rb
      refine i t H1 m ρ1 e l (eo.mono l) M1 ?_
      have h2 : Post K mg E R' H ρ Q' (onB (.bl t) (k1 m) (k2 m)) := h
      rw [onB_bl] at h2
      exact h2.later l
    | _ => exact h.elim
  | exc x m => rw [e] at h; exact h
  | stuck => rw [e] at h; exact h
/-- a value that is a truth value, as a test -/
theorem PP.t (h : PP X E e fe) (he : ∀ whole, isTrue e X.env whole = (do let v ← whole; standAt e.pos; holding [v] (truthy v)) := by intro _; rfl) : PPT X E e fe := ⟨PT.imp (pt_val h.pe he) fun _ _ _ h => tE_test h⟩
theorem ppt_cmp {op : CmpOp} {f : Fn} (ho : OpR X (compareOp op) (rP2 X.K X.mg E f)) (ha : PP X E a fa) (hb : PP X E b fb) (hm : behindInMarks op b = false := by first | exact nobehind _ (by decide) (by decide) | rfl | with_unfolding_all rfl) : PPT X E (.Compare a [op] [b] pos) (app2 f fa fb) := ⟨by
  refine PT.imp (pt_cmpR ho ha.pe hb.pe hm) fun σ H Q h => ?_
  obtain ⟨env, μ, ρ, eo, M, h⟩ := tE_test h
  exact tE_bind eo M h fun x H1 p m ρ1 _ l1 e1 M1 r1 q1 => tE_bind e1 M1 q1 fun y H2 q m2 ρ2 _ l2 e2 M2 r2 q2 => ⟨m2, ρ2, p, q, M2, Rep.mono l2 _ _ r1, r2, q2⟩⟩
theorem chain_read {f g : Fn} {K : PySem.W.Frag} {mg : Str → Option Value} {σ : L2.St} {H : Hp} {Q : VK} (h : tE K mg E (chain f g fa fb fd) σ H Q) : tChain (rP2 K mg E f) (rP2 K mg E g) (tE K mg E fa) (tE K mg E fb) (tE K mg E fd) σ H Q := by
  obtain ⟨env, μ, ρ, eo, M, h⟩ := h
  refine tE_bind eo M h fun x H1 p m ρ1 _ l1 e1 M1 r1 q1 => tE_bind e1 M1 q1 fun y H2 q m2 ρ2 _ l2 e2 M2 r2 q2 => ⟨m2, ρ2, p, q, M2, Rep.mono l2 _ _ r1, r2, ?_⟩
  have q3 := Post.bind (R := RP K) q2
  cases z : f [p, q] m2 with
  | ok t m3 =>
    rw [z] at q3 q2
    cases t with
    | bl t =>
      intro w H3 ρ3 l3 M3 rw3
      obtain rfl := vbl rw3
      refine ⟨t, rfl, ?_⟩
      have q4 : Post K mg E (RP K) H3 ρ3 Q (onB (.bl t) ((fd env m3).bind fun r μ4 => g [q, r] μ4) (.ok (.bl false) m3)) := Post.later (show Post K mg E (RP K) H2 ρ2 Q (onB (.bl t) _ _) from q2) l3
      cases t with
      | true => exact tE_bind (e2.mono l3) M3 q4 fun y4 H4 r m4 ρ4 _ l4 e4 M4 r4 q5 => ⟨m4, ρ4, q, r, M4, Rep.mono (l3.trans l4) _ _ r2, r4, q5⟩
      | false => exact Post.val (show Post K mg E (RP K) H3 ρ3 Q (Res.ok (.bl false) m3) from q4) M3 rbl
    | _ => exact (show False from q2).elim
  | exc x m3 => rw [z] at q2; exact q2
  | stuck => rw [z] at q2; exact q2
theorem pp_chain {op op' : CmpOp} {f g : Fn} (ho : OpR X (compareOp op) (rP2 X.K X.mg E f)) (ho' : OpR X (compareOp op') (rP2 X.K X.mg E g)) (ha : PP X E a fa) (hb : PP X E b fb) (hc : PP X E d fd)
    (hm : lastMarks [op, op'] [b, d] = false := by with_unfolding_all rfl) : PP X E (.Compare a [op, op'] [b, d] pos) (chain f g fa fb fd) := ⟨PE.imp (pe_chain ho ho' ha.pe hb.pe hc.pe hm) fun _ _ _ h => chain_read h⟩
theorem ppt_chain {op op' : CmpOp} {f g : Fn} (ho : OpR X (compareOp op) (rP2 X.K X.mg E f)) (ho' : OpR X (compareOp op') (rP2 X.K X.mg E g)) (ha : PP X E a fa) (hb : PP X E b fb) (hc : PP X E d fd)
    (hm : lastMarks [op, op'] [b, d] = false := by with_unfolding_all rfl) : PPT X E (.Compare a [op, op'] [b, d] pos) (chain f g fa fb fd) := ⟨PT.imp (pt_chain ho ho' ha.pe hb.pe hc.pe hm) fun _ _ _ h => chain_read (tE_test h)⟩
/-! and, or, not -/
theorem pp_one {op : BoolOp} (h : PP X E a fa) : PP X E (.BoolOp op [a] pos) fa := ⟨pe_one h.pe⟩
theorem pp_and (ha : PP X E a fa) (hb : PP X E (.BoolOp .And (b :: rest) pos) fb) : PP X E (.BoolOp .And (a :: b :: rest) pos) (and fa fb) := ⟨by
  refine PE.imp (pe_and ha.pe hb.pe) fun σ H Q h => ?_
  obtain ⟨env, μ, ρ, eo, M, h⟩ := h
  have h2 : tT X.K X.mg E fa σ H (fun c H1 => if c = true then tE X.K X.mg E fb σ H1 Q else Q (.bl false) H1) := tT_bind (k1 := fun m => fb env m) (k2 := fun m => .ok (.bl false) m) eo M h fun t H1 m ρ1 _ l1 e1 M1 q1 => by
    cases t with
    | true => exact ⟨env, m, ρ1, e1, M1, q1⟩
    | false => exact Post.val (show Post X.K X.mg E (RP X.K) H1 ρ1 Q (Res.ok (.bl false) m) from q1) M1 rbl
  exact tE_test h2⟩
theorem pp_or (ha : PP X E a fa) (hb : PP X E (.BoolOp .Or (b :: rest) pos) fb) : PP X E (.BoolOp .Or (a :: b :: rest) pos) (or fa fb) := ⟨by
  refine PE.imp (pe_or ha.pe hb.pe) fun σ H Q h => ?_
  obtain ⟨env, μ, ρ, eo, M, h⟩ := h
  have h2 : tT X.K X.mg E fa σ H (fun c H1 => if c = true then Q (.bl true) H1 else tE X.K X.mg E fb σ H1 Q) := tT_bind (k1 := fun m => .ok (.bl true) m) (k2 := fun m => fb env m) eo M h fun t H1 m ρ1 _ l1 e1 M1 q1 => by
    cases t with
    | false => exact ⟨env, m, ρ1, e1, M1, q1⟩
    | true => exact Post.val (show Post X.K X.mg E (RP X.K) H1 ρ1 Q (Res.ok (.bl true) m) from q1) M1 rbl
  exact tE_test h2⟩
theorem post_notB {K : PySem.W.Frag} {mg : Str → Option Value} {H : Hp} {ρ : List Addr} {Q : VK} {p : PV} {m : Mem} {x : V} (M : MemOk K H ρ m) (r : Rep K H ρ p x) (h : Post K mg E (RP K) H ρ Q (fNot [p] m)) : ∃ c, x = .bl c ∧ Q (.bl (!c)) H := by
  cases p with
  | bl b => exact ⟨b, vbl r, Post.val (show Post K mg E (RP K) H ρ Q (Res.ok (.bl (!b)) m) from h) M rbl⟩
  | _ => exact h.elim
theorem pp_not (ha : PP X E a fa) : PP X E (.UnaryOp .Not a pos) (app1 fNot fa) := ⟨by
  refine PE.imp (pe_not ha.pe) fun σ H Q h => ?_
  obtain ⟨env, μ, ρ, eo, M, h⟩ := h
  exact tE_bind eo M h fun x H1 p m ρ1 _ l1 e1 M1 r1 q1 => post_notB M1 r1 q1⟩
theorem ppt_not (ha : PPT X E a fa) : PPT X E (.UnaryOp .Not a pos) (app1 fNot fa) := ⟨by
  refine PT.imp (pt_not ha.pt) fun σ H Q h => ?_
  obtain ⟨env, μ, ρ, eo, M, h⟩ := h
  refine ⟨env, μ, ρ, eo, M, ?_⟩
  unfold app1 at h
  cases z : fa env μ with
  | ok p m =>
    rw [z] at h
    cases p with
    | bl b =>
      intro b' H1 ρ1 l1 M1 e
      cases e
      exact h (!b) H1 ρ1 l1 M1 rfl
    | _ => exact h.elim
  | exc x m => rw [z] at h; exact h
  | stuck => rw [z] at h; exact h⟩
theorem ppw_and1 (ha : PPT X E a fa) : PPW X E (.BoolOp .And [a] pos) fa := ⟨pw_and1 ha.pt⟩
theorem ppw_or1 (ha : PPT X E a fa) : PPW X E (.BoolOp .Or [a] pos) fa := ⟨pw_or1 ha.pt⟩
theorem bind_onB {α β : Type} (p : PV) (a b : Res α) (k : α → Mem → Res β) : (onB p a b).bind k = onB p (a.bind k) (b.bind k) := by
  cases p with
  | bl t => cases t <;> rfl
  | _ => rfl
theorem bind_bind {α β γ : Type} (r : Res α) (k : α → Mem → Res β) (j : β → Mem → Res γ) : (r.bind k).bind j = r.bind fun a m => (k a m).bind j := by cases r <;> rfl
theorem ppw_and (ha : PPT X E a fa) (hb : PPW X E (.BoolOp .And (b :: rest) pos) fb) : PPW X E (.BoolOp .And (a :: b :: rest) pos) (and fa fb) := ⟨by
  refine PW.imp (pw_and ha.pt hb.pw) fun σ H Q h => ?_
  obtain ⟨env, μ, ρ, eo, M, h⟩ := h
  unfold PL.and at h
  rw [bind_bind] at h
  simp only [bind_onB] at h
  exact tT_bind (k1 := fun m => (fb env m).bind asB) (k2 := fun m => .ok false m) eo M h fun t H1 m ρ1 _ l1 e1 M1 q1 => by
    cases t with
    | true => exact ⟨env, m, ρ1, e1, M1, q1⟩
    | false => exact Post.val (R := RB) (show Post X.K X.mg E RB H1 ρ1 Q (Res.ok false m) from q1) M1 rfl⟩
theorem ppw_or (ha : PPT X E a fa) (hb : PPW X E (.BoolOp .Or (b :: rest) pos) fb) : PPW X E (.BoolOp .Or (a :: b :: rest) pos) (or fa fb) := ⟨by
  refine PW.imp (pw_or ha.pt hb.pw) fun σ H Q h => ?_
  obtain ⟨env, μ, ρ, eo, M, h⟩ := h
  unfold PL.or at h
  rw [bind_bind] at h
  simp only [bind_onB] at h
  exact tT_bind (k1 := fun m => .ok true m) (k2 := fun m => (fb env m).bind asB) eo M h fun t H1 m ρ1 _ l1 e1 M1 q1 => by
    cases t with
    | false => exact ⟨env, m, ρ1, e1, M1, q1⟩
    | true => exact Post.val (R := RB) (show Post X.K X.mg E RB H1 ρ1 Q (Res.ok true m) from q1) M1 rfl⟩
theorem PPW.t (h : PPW X E a fa) : PPT X E a fa := ⟨h.pw.pt⟩
theorem pp_ite (ht : PPT X E e fe) (ha : PP X E a fa) (hb : PP X E b fb) : PP X E (.IfExp e a b pos) (ite fe fa fb) := ⟨by
  refine PE.imp (pe_ifExp ht.pt ha.pe hb.pe) fun σ H Q h => ?_
  obtain ⟨env, μ, ρ, eo, M, h⟩ := h
  exact tT_bind (k1 := fun m => fa env m) (k2 := fun m => fb env m) eo M h fun t H1 m ρ1 _ l1 e1 M1 q1 => by
    cases t with
    | true => exact ⟨env, m, ρ1, e1, M1, q1⟩
    | false => exact ⟨env, m, ρ1, e1, M1, q1⟩⟩
theorem pp_un {op : UnaryOp} {f : Fn} (ho : UnR X (unaryOp op) (rP1 X.K X.mg E f)) (ha : PP X E a fa) : PP X E (.UnaryOp op a pos) (app1 f fa) := ⟨by
  refine PE.imp (pe_un ho ha.pe) fun σ H Q h => ?_
  obtain ⟨env, μ, ρ, eo, M, h⟩ := h
  exact tE_bind eo M h fun x H1 p m ρ1 _ l1 e1 M1 r1 q1 => ⟨m, ρ1, p, M1, r1, q1⟩⟩
/-! argument lists, displays -/
theorem ppa_nil : PPA X E [] an := ⟨by
  refine PA.imp pa_nil fun σ H Q h => ?_
  obtain ⟨env, μ, ρ, eo, M, h⟩ := h
  exact Post.val (R := RPs X.K) (show Post X.K X.mg E (RPs X.K) H ρ Q (Res.ok [] μ) from h) M .nil, fun env μ as μ' e => by cases e; rfl⟩
theorem tA_bind {K : PySem.W.Frag} {mg : Str → Option Value} {γ δ : Type} {R' : Hp → List Addr → γ → δ → Prop} {H : Hp} {ρ : List Addr} {Q' : δ → Hp → Prop} {env : Env} {μ : Mem} {σ : L2.St} {f : Ag} {k : List PV → Mem → Res γ} (eo : EnvOk K H ρ env σ) (M : MemOk K H ρ μ)
    (h : Post K mg E R' H ρ Q' ((f env μ).bind k)) {Q : List V → Hp → Prop} (i : ∀ xs H1 ps m ρ1, f env μ = .ok ps m → Lat K H ρ H1 ρ1 → EnvOk K H1 ρ1 env σ → MemOk K H1 ρ1 m → Reps K H1 ρ1 ps xs → Post K mg E R' H1 ρ1 Q' (k ps m) → Q xs H1) : tA K mg E f σ H Q :=
  ⟨env, μ, ρ, eo, M, (Post.bind (R := RPs K) h).imp fun x H1 ⟨p, m, ρ1, e, l, M1, r, q⟩ => i x H1 p m ρ1 e l (eo.mono l) M1 r q⟩
theorem ppa_cons {f : Ag} (ha : PP X E a fa) (hr : PPA X E es f) (hs : starEach (a :: es) X.env = (false, eval a X.env) :: starEach es X.env := by rfl) : PPA X E (a :: es) (ac fa f) := ⟨by
  refine PA.imp (pa_cons ha.pe hr.pa hs) fun σ H Q h => ?_
  obtain ⟨env, μ, ρ, eo, M, h⟩ := h
  exact tE_bind eo M h fun x H1 p m ρ1 _ l1 e1 M1 r1 q1 => tA_bind e1 M1 q1 fun xs H2 ps m2 ρ2 _ l2 e2 M2 r2 q2 =>
    Post.val (R := RPs X.K) (show Post X.K X.mg E (RPs X.K) H2 ρ2 Q (Res.ok (p :: ps) m2) from q2) M2 (.cons (Rep.mono l2 _ _ r1) r2), fun env μ as μ' e => by
    unfold ac at e
    cases z : fa env μ with
    | ok p m =>
      rw [z] at e
      cases z2 : f env m with
      | ok qs m2 =>
        have e' : (Res.ok (p :: qs) m2 : Res (List PV)) = .ok as μ' := by
          have h3 : ((f env m).bind fun ps μ2 => Res.ok (p :: ps) μ2) = .ok as μ' := e
          rw [z2] at h3
          exact h3
        cases e'
        simp [hr.len _ _ _ _ z2]
      | exc x m2 =>
        have h3 : ((f env m).bind fun ps μ2 => Res.ok (p :: ps) μ2) = .ok as μ' := e
        rw [z2] at h3
        cases h3
      | stuck =>
        have h3 : ((f env m).bind fun ps μ2 => Res.ok (p :: ps) μ2) = .ok as μ' := e
        rw [z2] at h3
        cases h3
    | exc x m => rw [z] at e; cases e
    | stuck => rw [z] at e; cases e⟩
theorem pp_tup {f : Ag} {k : Nat} (h : PPA X E es f) : PP X E (.Tuple es k pos) (app fTup f) := ⟨by
  refine PE.imp (pe_tup h.pa) fun σ H Q h => ?_
  obtain ⟨env, μ, ρ, eo, M, h⟩ := h
  refine tA_bind eo M h fun xs H1 ps m ρ1 _ l1 e1 M1 r1 q1 => ?_
  unfold fTup at q1
  split at q1
  · rename_i hz
    exact ⟨by rw [SL_eq, r1.length]; exact hz, q1.newT M1 r1⟩
  · exact q1.elim⟩
theorem pp_lst {f : Ag} (h : PPA X E es f) : PP X E (.List es pos) (app fLst f) := ⟨by
  refine PE.imp (pe_lst h.pa) fun σ H Q h => ?_
  obtain ⟨env, μ, ρ, eo, M, h⟩ := h
  refine tA_bind eo M h fun xs H1 ps m ρ1 _ l1 e1 M1 r1 q1 => ?_
  unfold fLst at q1
  split at q1
  · rename_i hz
    exact ⟨by rw [SL_eq, r1.length]; exact hz, q1.newL M1 r1⟩
  · exact q1.elim⟩
/-! places and slices -/
theorem pp_ix (ha : PP X E a fa) (hb : PP X E b fb) (hs : PlainIx b := by intro _ _; rfl) : PP X E (.Subscript a b pos) (app2 fIx fa fb) := ⟨by
  refine PE.imp (pe_ix (ixP (E := E)) ha.pe hb.pe hs) fun σ H Q h => ?_
  obtain ⟨env, μ, ρ, eo, M, h⟩ := h
  exact tE_bind eo M h fun x H1 p m ρ1 _ l1 e1 M1 r1 q1 => tE_bind e1 M1 q1 fun y H2 q m2 ρ2 _ l2 e2 M2 r2 q2 => ⟨m2, ρ2, p, q, M2, Rep.mono l2 _ _ r1, r2, q2⟩⟩
def rSlP (K : PySem.W.Frag) (mg : Str → Option Value) (E : XK) : V → Option Int → Option Int → Hp → VK → Prop := fun x lo hi H Q => ∃ μ ρ p ql qh, MemOk K H ρ μ ∧ Rep K H ρ p x ∧ optI ql = some lo ∧ optI qh = some hi ∧ Post K mg E (RP K) H ρ Q (fSl [p, ql, qh] μ)
theorem sIx_eq (n d : Nat) (o : Option Int) : PL.sIx n d o = HT.sIx n d o := by cases o <;> rfl
theorem slP : SlR X (rSlP X.K X.mg E) := by
  intro pins s σ H x v vl vu lo hi sl Q I rx hs pl pu h
  obtain ⟨μ, ρ, p, ql, qh, M, hp, e1, e2, h⟩ := h
  simp only [fSl, e1, e2] at h
  cases p with
  | tup l =>
    obtain ⟨a, xs, rfl, k1, k2⟩ := rep_tup hp
    refine sl_tupA pins s σ H _ v vl vu lo hi sl Q I rx hs pl pu ⟨a, xs, rfl, k1, fun hw => ?_, fun _ => h.newT M (cut_get lo hi k2)⟩
    refine h.val M ?_
    show Rep _ _ _ _ _
    simp only [Rep]
    refine ⟨a, xs, rfl, k1, ?_⟩
    have e : cut l lo hi = l := by
      unfold cut
      rw [← k2.length, sIx_eq, sIx_eq, hw.1, hw.2, List.drop_zero, Nat.sub_zero]
      exact List.take_of_length_le (by rw [k2.length]; exact Nat.le_refl _)
    rw [e]
    exact k2
  | ref n =>
    simp only at h
    split at h
    · rename_i l hl
      obtain ⟨a, xs, rfl, k1, k2, _⟩ := getL_ref M hp hl
      exact sl_list pins s σ H _ v vl vu lo hi sl Q I rx hs pl pu ⟨a, xs, rfl, k1, h.newL M (cut_get lo hi k2)⟩
    · exact h.elim
  | str z =>
    obtain rfl := vstr hp
    simp only at h
    split at h
    · rename_i hz
      refine sl_str pins s σ H _ v vl vu lo hi sl Q I rx hs pl pu ⟨z, rfl, by rw [SL_eq]; exact hz, ?_⟩
      have hh := h.val M rstr
      have e : cutS z lo hi = ⟨(cut z.cps.toList lo hi).toArray⟩ := by
        unfold cutS cut
        have ez : z.cps.toList.length = z.length := by cases z; simp [Str.length]
        rw [ez, sIx_eq, sIx_eq]
      rw [e]
      exact hh
    · exact h.elim
  | _ => exact h.elim
/-- an optional part of a slice -/
structure PPO (X : Cx) (E : XK) (e : Option Expr) (f : Ex) : Prop where
  po : L2.PO X e (fun σ H Q => ∃ env μ ρ, EnvOk X.K H ρ env σ ∧ MemOk X.K H ρ μ ∧ Post X.K X.mg E (fun _ _ q o => optI q = some o) H ρ Q ((f env μ).bind onPart))
theorem PO.imp {e : Option Expr} {t t' : TO} (h : L2.PO X e t) (i : ∀ σ H Q, t' σ H Q → t σ H Q) : L2.PO X e t' := ⟨fun pins s σ H Q I q => h.run pins s σ H Q I (i σ H Q q)⟩
theorem ppo_none : PPO X E none (c .non) := ⟨by
  refine PO.imp po_none fun σ H Q h => ?_
  obtain ⟨env, μ, ρ, eo, M, h⟩ := h
  exact Post.val (R := fun _ _ q o => optI q = some o) (show Post X.K X.mg E (fun _ _ q o => optI q = some o) H ρ Q (Res.ok PV.non μ) from h) M rfl⟩
theorem ppo_some (h : PP X E e fe) : PPO X E (some e) (app1 fPart fe) := ⟨by
  refine PO.imp (po_some h.pe) fun σ H Q h => ?_
  obtain ⟨env, μ, ρ, eo, M, h⟩ := h
  unfold app1 at h
  rw [bind_bind] at h
  refine tE_bind eo M h fun x H1 p m ρ1 _ l1 e1 M1 r1 q1 => ?_
  cases p with
  | int i => exact ⟨i, vint r1, Post.val (R := fun _ _ q o => optI q = some o) (show Post X.K X.mg E (fun _ _ q o => optI q = some o) H1 ρ1 Q (Res.ok (PV.int i) m) from q1) M1 rfl⟩
  | _ => exact q1.elim⟩
theorem pp_sl {lo hi : Option Expr} {fl fh : Ex} {p2 : Pos} (ha : PP X E a fa) (hl : PPO X E lo fl) (hh : PPO X E hi fh) : PP X E (.Subscript a (.Slice lo hi none p2) pos) (sl fa fl fh) := ⟨by
  refine PE.imp (pe_slice (slP (E := E)) ha.pe hl.po hh.po) fun σ H Q h => ?_
  obtain ⟨env, μ, ρ, eo, M, h⟩ := h
  refine tE_bind eo M h fun x H1 p m ρ1 _ l1 e1 M1 r1 q1 => ⟨env, m, ρ1, e1, M1, (Post.bind (R := fun _ _ q o => optI q = some o) q1).imp fun lo H2 h2 => ?_⟩
  obtain ⟨ql, m2, ρ2, _, l2, M2, eql, q2⟩ := h2
  refine ⟨env, m2, ρ2, e1.mono l2, M2, (Post.bind (R := fun _ _ q o => optI q = some o) q2).imp fun hi H3 h3 => ?_⟩
  obtain ⟨qh, m3, ρ3, _, l3, M3, eqh, q3⟩ := h3
  exact ⟨m3, ρ3, p, ql, qh, M3, Rep.mono (l2.trans l3) _ _ r1, eql, eqh, q3⟩⟩
/-! t[::-1] of tuples and lists -/
theorem fm_congr {α β : Type} {f g : α → Option β} : ∀ l : List α, (∀ x ∈ l, f x = g x) → l.filterMap f = l.filterMap g
  | [], _ => rfl
  | x :: xs, h => by
    rw [List.filterMap_cons, List.filterMap_cons, h x List.mem_cons_self, fm_congr xs fun y hy => h y (List.mem_cons_of_mem _ hy)]
section
open PySem.Spec PyProof.Rows HT
section
variable {prog : Program} {w : World} {A : Around} {Ex : Value → Shared → Prop} {s : Shared}
theorem sliceApplied_rev {sl : Addr} {vs : Value} {n : Nat} {Q : Int × Int × Nat → Shared → Prop} (hs : s.heap.IsSliceOf sl .none .none vs) (ps : IsPart vs (some (-1)))
    (h : Q ((n : Int) - 1, -1, n) s) : wpAny (model prog w) A (Builtin.Slice.sliceApplied (.ref sl) (pure (n : Int))) Q Ex s := by
  obtain ⟨os, hos, hcs, hds⟩ := id hs
  unfold Builtin.Slice.sliceApplied Builtin.Slice.sliceFields
  refine wpAny_bind (wpAny_bind (wpAny_field hos hds (x := .none) rfl (wpAny_bind (wpAny_field hos hds (x := .none) rfl (wpAny_bind (wpAny_field hos hds (x := vs) rfl (wpAny_pure ?_)))))))
  refine wpAny_bind (HT.slicePart_ ps ?_)
  show wpAny _ _ (if ((-1 : Int) == 0) = true then _ else _) _ _ s
  rw [if_neg (by decide)]
  refine wpAny_bind (HT.slicePart_ .none (wpAny_bind (HT.slicePart_ .none (wpAny_bind (wpAny_pure ?_)))))
  have e : Builtin.Slice.slicePlaces ((n : Int) - 1) (-1) (-1) = n := by
    unfold Builtin.Slice.slicePlaces
    have h1 : ¬ ((-1 : Int) > 0) := by omega
    simp only [h1, if_false]
    have h2 : (- -1 : Int) = 1 := by decide
    rw [h2, Int.ediv_one]
    split <;> omega
  show wpAny _ _ (pure ((n : Int) - 1, (-1 : Int), Builtin.Slice.slicePlaces ((n : Int) - 1) (-1) (-1))) _ _ s
  rw [e]
  exact wpAny_pure h
theorem pick_rev (xs : Array Value) : ((List.range xs.size).filterMap fun (m : Nat) => xs[(((xs.size : Int) - 1) + (m : Int) * (-1)).toNat]?).toArray = xs.toList.reverse.toArray := by
  have e : (List.range xs.size).filterMap (fun (m : Nat) => xs[(((xs.size : Int) - 1) + (m : Int) * (-1)).toNat]?) = ((List.range xs.size).map fun k => xs.size - 1 - k).filterMap (xs[·]?) := by
    rw [List.filterMap_map]
    apply fm_congr
    intro m hm
    have := List.mem_range.mp hm
    have e : (((xs.size : Int) - 1) + (m : Int) * (-1)).toNat = xs.size - 1 - m := by omega
    rw [e]; rfl
  rw [e, PySem.W.krv_range, List.filterMap_reverse, PySem.W.krv_all]
theorem getItem_tuple_rev {t sl : Addr} {items : Array Value} {vs : Value} {Q : Value → Shared → Prop} (ht : IsTup s.heap t items) (hs : s.heap.IsSliceOf sl .none .none vs) (ps : IsPart vs (some (-1)))
    (h : Q (.ref s.heap.objs.size) { s with heap := s.heap.push { cls := .type "tuple", data := .seq items.toList.reverse.toArray } })
    (hsz : items.size ≤ sizeLine) : wpAny (model prog w) A (getItem (.ref t) (.ref sl)) Q Ex s := by
  have htake : sizeOk (.seq items.toList.reverse.toArray) := by
    show items.toList.reverse.toArray.size ≤ sizeLine
    rw [List.size_toArray, List.length_reverse, Array.length_toList]
    exact hsz
  obtain ⟨os, hos, hcs, hds⟩ := id hs
  have hTs : s.TypeIs (.ref sl) "slice" := ⟨os, hos, hcs⟩
  unfold getItem
  try with_reducible refine wpAny_holding ?_
  first | refine wpAny_bind (wpAny_pure ?_) | skip
  refine wpAny_bind (wpAny_sequenceKey ht.typeIs (by decide) ?_)
  refine wpAny_bind (wpAny_callSpecial?_slot (name := Str.ofString "__getitem__") ht.typeIs PyProof.Rows.slot_tuple_getitem
    (wpAny_call_entry PyProof.Rows.slot_tuple_getitem ht.typeIs entry_tuple_getitem ?_ (args_tuple_getitem _ _)))
  show wpAny _ _ (Builtin.Tuple.tupleItemsOf (.ref t) >>= _) _ _ s
  refine wpAny_bind (tupleItemsOf_ ht ?_)
  refine wpAny_bind (wpAny_typeOf hTs ?_)
  rw [if_pos (by decide)]
  refine wpAny_bind (sliceApplied_rev hs ps ?_)
  have hno : ¬ ((((items.size : Int) - 1) == 0 && (-1 : Int) == 1 && items.size == items.size) = true) := by
    intro q
    rw [Bool.and_eq_true, Bool.and_eq_true] at q
    exact absurd q.1.2 (by decide)
  show wpAny _ _ (if ((((items.size : Int) - 1) == 0 && (-1 : Int) == 1 && items.size == items.size) = true) then _ else _) _ _ s
  rw [if_neg hno, pick_rev]
  first
    | exact wpAny_bind (m := Builtin.Tuple.tupleExact _) (wpAny_newObj_type (wpAny_pure ⟨_, rfl, wpAny_pure h⟩) htake)
    | exact wpAny_bind (m := Builtin.Tuple.tupleExact _) (wpAny_newObj_type (wpAny_bind (wpAny_pure (wpAny_pure ⟨_, rfl, wpAny_pure h⟩))) htake)
    | exact wpAny_bind (wpAny_bind (m := Builtin.Tuple.tupleExact _) (wpAny_newObj_type (wpAny_pure (wpAny_pure ⟨_, rfl, wpAny_pure h⟩)) htake))
    | exact wpAny_bind (wpAny_bind (m := Builtin.Tuple.tupleExact _) (wpAny_newObj_type (wpAny_pure ⟨_, rfl, wpAny_pure h⟩) htake))
end
def tRevA (K : PySem.W.Frag) (te : L2.TE) : L2.TE := fun σ H Q => te σ H fun x H1 => ∃ a xs, x = .ref a ∧
  ((SqL K H1 a xs ∧ ∀ p, H1 p = none → Q (.ref p) (upd H1 p (.lst xs.reverse))) ∨ (SqT K H1 a xs ∧ ∀ p, H1 p = none → Q (.ref p) (upd H1 p (.tup xs.reverse))))
theorem pe_revA {e : Expr} {te : L2.TE} {k : Nat} {p1 p2 p3 pos : Pos} (he : PE X e te) : PE X (.Subscript e (.Slice none none (some (.UnaryOp .USub (.Constant (.int 1) k p1) p2)) p3) pos) (tRevA X.K te) := by
  refine ⟨fun pins s σ H Q I h => ?_⟩
  refine Subscript_ (thn (he.run pins s σ H _ I h) fun v s1 ⟨x, H1, I1, r1, q1⟩ => ?_)
  obtain ⟨a, xs, ex, hx⟩ := q1
  subst ex
  cases r1
  have hst : L2.PO X (some (.UnaryOp .USub (.Constant (.int 1) k p1) p2)) (tPart (tUn (rU fun i => .int (-i)) (tC (.int 1)))) := po_some (pe_un un_neg pe_int)
  refine wpAny_Slice (thn (po_none.run pins s1 σ H1 (fun o H2 => o = none ∧ H2 = H1) I1 ⟨rfl, rfl⟩) fun vl s2 ⟨l, H2, I2, pl, el, e2⟩ => ?_)
  subst el e2
  refine thn (po_none.run pins s2 σ H2 (fun o H3 => o = none ∧ H3 = H2) I2 ⟨rfl, rfl⟩) fun vu s3 ⟨u, H3, I3, pu, eu, e3⟩ => ?_
  subst eu e3
  refine thn (hst.run pins s3 σ H3 (fun o H4 => o = some (-1) ∧ H4 = H3) I3 ⟨1, rfl, -1, rfl, rfl, rfl⟩) fun vs s4 ⟨o, H4, I4, ps, eo, e4⟩ => ?_
  subst eo e4
  have I5 : Inv X pins σ H4 { s4 with heap := s4.heap.push { cls := .type "slice", data := .fields #[vl, vu, vs] } } := I4.kept (t' := s4.toks) fun b ob q => Heap.get?_push_of_some _ q
  rcases hx with ⟨hx, q⟩ | ⟨hx, q⟩
  · obtain ⟨its, r, ht, hz⟩ := I5.list hx
    have hlen := r.length
    show wpAny (model X.prog X.w) X.A (subscriptTail e (.Slice none none (some (.UnaryOp .USub (.Constant (.int 1) k p1) p2)) p3) (.ref a) (.ref s4.heap.objs.size)) (EP X pins σ Q) X.xe { s4 with heap := s4.heap.push { cls := .type "slice", data := .fields #[vl, vu, vs] } }
    refine tail_any (ops := [.ref a, .ref s4.heap.objs.size]) ht.isList.typeIs (PySem.slot_list_getitem.lookup) ?_ (by with_unfolding_all rfl)
    refine wpAny_getItem_list_slice ht.isList (Heap.IsSliceOf.new _ vl vu vs) pl pu ps (by decide) ?_ (by rw [List.size_toArray]; omega)
    rw [PySem.W.krv_pick]
    refine ⟨.ref _, _, I5.laid (t' := s4.toks) (o := .lst xs.reverse) (fun b ob q => Heap.get?_push_of_some _ q) (Nat.le_refl _) ?_, rfl, q _ (I5.hok.fresh (Nat.le_refl _))⟩
    exact ⟨by rw [List.length_reverse]; exact hz, _, 0, r.reverse, Heap.get?_push_size _ rfl⟩
  · obtain ⟨its, r, ht, hz⟩ := I5.tuple hx
    have hlen := r.length
    cases pl
    cases pu
    show wpAny (model X.prog X.w) X.A (subscriptTail e (.Slice none none (some (.UnaryOp .USub (.Constant (.int 1) k p1) p2)) p3) (.ref a) (.ref s4.heap.objs.size)) (EP X pins σ Q) X.xe { s4 with heap := s4.heap.push { cls := .type "slice", data := .fields #[.none, .none, vs] } }
    refine tail_any (ops := [.ref a, .ref s4.heap.objs.size]) ht.typeIs (PyProof.Rows.slot_tuple_getitem.lookup) ?_ (by with_unfolding_all rfl)
    refine getItem_tuple_rev ht (Heap.IsSliceOf.new _ .none .none vs) ps ?_ (by rw [List.size_toArray]; omega)
    refine ⟨.ref _, _, I5.laid (t' := s4.toks) (o := .tup xs.reverse) (fun b ob q => Heap.get?_push_of_some _ q) (Nat.le_refl _) ?_, rfl, q _ (I5.hok.fresh (Nat.le_refl _))⟩
    exact ⟨by rw [List.length_reverse]; exact hz, _, r.reverse, IsTup.new _ _⟩
end
theorem pp_revL {k : Nat} {p1 p2 p3 : Pos} (ha : PP X E a fa) : PP X E (.Subscript a (.Slice none none (some (.UnaryOp .USub (.Constant (.int 1) k p1) p2)) p3) pos)
    (app1 fRevL fa) := ⟨by
  refine PE.imp (pe_revA ha.pe) fun σ H Q h => ?_
  obtain ⟨env, μ, ρ, eo, M, h⟩ := h
  refine tE_bind eo M h fun x H1 p m ρ1 _ l1 e1 M1 r1 q1 => ?_
  cases p with
  | ref n =>
    simp only [fRevL, fRev] at q1
    split at q1
    · rename_i l hl
      obtain ⟨a, xs, rfl, k1, k2, _⟩ := getL_ref M1 r1 hl
      exact ⟨a, xs, rfl, .inl ⟨k1, q1.newL M1 k2.reverse⟩⟩
    · exact q1.elim
  | tup l =>
    obtain ⟨a, xs, rfl, k1, k2⟩ := rep_tup r1
    simp only [fRevL] at q1
    exact ⟨a, xs, rfl, .inr ⟨k1, q1.newT M1 k2.reverse⟩⟩
  | _ => exact q1.elim⟩
/-! calls of built-ins by name -/
theorem pp_callB {x : Str} {id : String} {f : Fn} {g : Ag} {p : Pos} (hc : CallR X (.builtin id) (rPn X.K X.mg E f)) (hm : X.mg x = none) (hv : bootBuiltins x = some (.builtin id)) (ha : PPA X E (e :: es) g) (hg : Gl X x := by rfl) (hn : x ≠ "__name__" := by decide) (hdb : (x == ("__debug__" : Str)) = false := by decide)
    (he : starEach (e :: es) X.env = (false, eval e X.env) :: starEach es X.env := by rfl) (hpl : (backTo pos (starEach es X.env)).any (·.1) = false := by rfl) : PP X E (.Call (.Name x p) (e :: es) [] pos) (app f g) := ⟨by
  refine PE.imp (pe_callB hc hg hm hv ha.pa hn hdb he hpl) fun σ H Q h => ?_
  obtain ⟨env, μ, ρ, eo, M, h⟩ := h
  exact tA_bind eo M h fun xs H1 ps m ρ1 _ l1 e1 M1 r1 q1 => ⟨m, ρ1, ps, M1, r1, q1⟩⟩
theorem pp_callTy {x : Str} {id : String} {f : Fn} {g : Ag} {p : Pos} (hc : CallR X (.type id) (rPn X.K X.mg E f)) (hm : X.mg x = none) (hv : bootBuiltins x = some (.type id)) (ha : PPA X E (e :: es) g) (hg : Gl X x := by rfl) (hn : x ≠ "__name__" := by decide) (hdb : (x == ("__debug__" : Str)) = false := by decide)
    (he : starEach (e :: es) X.env = (false, eval e X.env) :: starEach es X.env := by rfl) (hpl : (backTo pos (starEach es X.env)).any (·.1) = false := by rfl) : PP X E (.Call (.Name x p) (e :: es) [] pos) (app f g) := ⟨by
  refine PE.imp (pe_callTy hc hg hm hv ha.pa hn hdb he hpl) fun σ H Q h => ?_
  obtain ⟨env, μ, ρ, eo, M, h⟩ := h
  exact tA_bind eo M h fun xs H1 ps m ρ1 _ l1 e1 M1 r1 q1 => ⟨m, ρ1, ps, M1, r1, q1⟩⟩
/-- o.m(..), a method of a built-in type -/
def Kd.ty : Kd → String
  | .list => "list"
  | .str => "str"
  | .dict => "dict"
theorem isKd_ty {K : PySem.W.Frag} {H : Hp} {ρ : List Addr} {μ : Mem} {p : PV} {x : V} {k : Kd} (M : MemOk K H ρ μ) (r : Rep K H ρ p x) (h : isKd k μ p = true) : tyV K k.ty x H := by
  cases k with
  | str =>
    cases p <;> simp only [isKd, Bool.false_eq_true] at h
    obtain rfl := vstr r
    rfl
  | list =>
    cases p <;> simp only [isKd, Bool.false_eq_true] at h
    split at h
    · rename_i e
      obtain ⟨a, xs, _, rfl, g3, _⟩ := mem_lst M r e
      exact Or.inl ⟨rfl, xs, SqL.of g3⟩
    · cases h
  | dict =>
    cases p <;> simp only [isKd, Bool.false_eq_true] at h
    split at h
    · rename_i e
      obtain ⟨a, h1, rfl⟩ := rep_ref M r
      obtain ⟨xs, h3, _⟩ := M.at' _ _ a e h1
      exact Or.inr (Or.inr (Or.inl ⟨rfl, .inl ⟨xs, h3⟩⟩))
    · cases h
theorem mth_read {k : Kd} {f : Fn} {g : Ag} {K : PySem.W.Frag} {mg : Str → Option Value} {σ : L2.St} {H : Hp} {Q : VK} (h : tE K mg E (mth k f fa g) σ H Q) : tBM K k.ty (rPm K mg E f) (tE K mg E fa) (tA K mg E g) σ H Q := by
  obtain ⟨env, μ, ρ, eo, M, h⟩ := h
  refine tE_bind eo M h fun x H1 p m ρ1 _ l1 e1 M1 r1 q1 => ?_
  split at q1
  · rename_i hk
    exact ⟨isKd_ty M1 r1 hk, tA_bind e1 M1 q1 fun xs H2 ps m2 ρ2 _ l2 e2 M2 r2 q2 => ⟨m2, ρ2, p, ps, M2, Rep.mono l2 _ _ r1, r2, q2⟩⟩
  · exact q1.elim
theorem pp_bm {o : Expr} {fo : Ex} {name : Str} {id : String} {k : Kd} {f : Fn} {g : Ag} {apos : Pos} (pa : PlainAttrs k.ty) (slot : Slot k.ty name id) (hty : typeOf (.builtin id) = pure (.type "method_descriptor")) (hm : MtR X id (rPm X.K X.mg E f)) (ho : PP X E o fo) (ha : PPA X E (e :: es) g)
    (hbase : attributeBase o name X.env (eval o X.env) = eval o X.env := by rfl)
    (hfew : ((backTo pos (starEach (e :: es) X.env)).all (fun x => !x.1) && (backToKw pos (keywordEach [] X.env)).all (fun x => x.1.isSome)
      && decide ((e :: es).length + ([] : List Keyword).length + (if ([] : List Keyword).isEmpty then 0 else 1) < 30)) = true := by rfl)
    (hline : (apos.endLine == pos.line) = true := by rfl) (hs : starEach (e :: es) X.env = (false, eval e X.env) :: starEach es X.env := by rfl) (hplain : (backTo pos (starEach es X.env)).any (·.1) = false := by rfl) :
    PP X E (.Call (.Attribute o name apos) (e :: es) [] pos) (mth k f fo g) := ⟨PE.imp (L2.pe_bm pa slot hty hm ho.pe ha.pa hbase hfew hline hs hplain) fun _ _ _ h => mth_read h⟩
theorem pp_bm0 {o : Expr} {fo : Ex} {name : Str} {id : String} {k : Kd} {f : Fn} {apos : Pos} (pa : PlainAttrs k.ty) (slot : Slot k.ty name id) (hty : typeOf (.builtin id) = pure (.type "method_descriptor")) (hm : MtR X id (rPm X.K X.mg E f)) (ho : PP X E o fo)
    (hbase : attributeBase o name X.env (eval o X.env) = eval o X.env := by rfl) (hline : (apos.endLine == pos.line) = true := by rfl) :
    PP X E (.Call (.Attribute o name apos) [] [] pos) (mth k f fo an) := ⟨PE.imp (L2.pe_bm0 pa slot hty hm ho.pe hbase hline) fun σ H Q h => by
      obtain ⟨env, μ, ρ, eo, M, h⟩ := h
      refine tE_bind eo M h fun x H1 p m ρ1 _ l1 e1 M1 r1 q1 => ?_
      split at q1
      · rename_i hk
        exact ⟨isKd_ty M1 r1 hk, ⟨m, ρ1, p, [], M1, r1, .nil, q1⟩⟩
      · exact q1.elim⟩
theorem mtP_append : MtR X "list.append" (rPm X.K X.mg E fAppend) := by
  intro pins s σ H x xs v us Q I rx rxs h
  obtain ⟨μ, ρ, p, ps, M, hp, hps, h⟩ := h
  cases p with
  | ref n =>
    match ps, hps with
    | [q], hps =>
      obtain ⟨y, rfl, r⟩ := reps1 hps
      simp only [fAppend, push1] at h
      cases e : μ[n]? with
      | none => rw [e] at h; exact h.elim
      | some o =>
        rw [e] at h
        cases o with
        | lst l =>
          simp only at h
          by_cases hz : l.length < SL
          · rw [if_pos hz] at h
            obtain ⟨a, ys, g1, rfl, g3, g4⟩ := mem_lst M hp e
            exact mt_append pins s σ H _ _ v us Q I rx rxs ⟨a, ys, y, rfl, rfl, g3, by rw [SL_eq, g4.length]; exact hz, h.write M e g1 (g4.append (.cons r .nil)) rnon⟩
          · rw [if_neg hz] at h; exact h.elim
        | _ => exact h.elim
    | [], _ => exact h.elim
    | _ :: _ :: _, _ => exact h.elim
  | _ => exact h.elim
theorem mtP_extend : MtR X "list.extend" (rPm X.K X.mg E fExtend) := by
  intro pins s σ H x xs v us Q I rx rxs h
  obtain ⟨μ, ρ, p, ps, M, hp, hps, h⟩ := h
  cases p with
  | ref n =>
    match ps, hps with
    | [.ref k], hps =>
      obtain ⟨y, rfl, r⟩ := reps1 hps
      simp only [fExtend] at h
      split at h
      · rename_i l l' e e'
        split at h
        · rename_i hz
          obtain ⟨a, ys, g1, rfl, g3, g4⟩ := mem_lst M hp e
          obtain ⟨b, zs, k1, rfl, k3, k4⟩ := mem_lst M r e'
          exact mt_extend pins s σ H _ _ v us Q I rx rxs ⟨a, b, ys, zs, rfl, rfl, g3, k3, by rw [SL_eq, g4.length, k4.length]; exact hz, h.write M e g1 (g4.append k4) rnon⟩
        · exact h.elim
      · exact h.elim
    | [], _ => exact h.elim
    | .non :: _, _ => exact h.elim
    | .bl _ :: _, _ => exact h.elim
    | .int _ :: _, _ => exact h.elim
    | .str _ :: _, _ => exact h.elim
    | .tup _ :: _, _ => exact h.elim
    | .cst _ :: _, _ => exact h.elim
    | .ref _ :: _ :: _, _ => exact h.elim
  | _ => exact h.elim
theorem mtP_pop : MtR X "list.pop" (rPm X.K X.mg E fPop) := by
  intro pins s σ H x xs v us Q I rx rxs h
  obtain ⟨μ, ρ, p, ps, M, hp, hps, h⟩ := h
  cases p with
  | ref n =>
    match ps, hps with
    | [], hps =>
      simp only [Reps] at hps
      subst hps
      simp only [fPop] at h
      split at h
      · rename_i l e
        split at h
        · rename_i q hq
          obtain ⟨a, ys, g1, rfl, g3, g4⟩ := mem_lst M hp e
          obtain ⟨y, y1, y2⟩ := g4.get hq
          exact mt_pop pins s σ H _ _ v us Q I rx rxs ⟨a, ys, y, rfl, rfl, g3, by rw [g4.length]; exact y1, h.write M e g1 g4.dropLast y2⟩
        · exact h.elim
      · exact h.elim
    | [.int i], hps =>
      obtain ⟨w, rfl, r⟩ := reps1 hps
      obtain rfl := vint r
      simp only [fPop] at h
      split at h
      · rename_i l e
        split at h
        · rename_i hz
          split at h
          · rename_i k hk
            split at h
            · rename_i q hq
              obtain ⟨a, ys, g1, rfl, g3, g4⟩ := mem_lst M hp e
              obtain ⟨y, y1, y2⟩ := g4.get hq
              exact mt_popAt pins s σ H _ _ v us Q I rx rxs ⟨a, ys, i, k, y, rfl, rfl, g3, hz.1, hz.2, (ixN_seq (show L2.ixN ys.length i = some k by rw [g4.length]; exact hk)).1, y1, h.write M e g1 (g4.erase k) y2⟩
            · exact h.elim
          · exact h.elim
        · exact h.elim
      · exact h.elim
    | .non :: _, _ => exact h.elim
    | .bl _ :: _, _ => exact h.elim
    | .ref _ :: _, _ => exact h.elim
    | .str _ :: _, _ => exact h.elim
    | .tup _ :: _, _ => exact h.elim
    | .cst _ :: _, _ => exact h.elim
    | .int _ :: _ :: _, _ => exact h.elim
  | _ => exact h.elim
theorem pp_append {o : Expr} {fo : Ex} {g : Ag} {apos : Pos} (ho : PP X E o fo) (ha : PPA X E (e :: es) g) (hbase : attributeBase o "append" X.env (eval o X.env) = eval o X.env := by rfl)
    (hfew : ((backTo pos (starEach (e :: es) X.env)).all (fun x => !x.1) && (backToKw pos (keywordEach [] X.env)).all (fun x => x.1.isSome)
      && decide ((e :: es).length + ([] : List Keyword).length + (if ([] : List Keyword).isEmpty then 0 else 1) < 30)) = true := by rfl)
    (hline : (apos.endLine == pos.line) = true := by rfl) (hs : starEach (e :: es) X.env = (false, eval e X.env) :: starEach es X.env := by rfl) (hplain : (backTo pos (starEach es X.env)).any (·.1) = false := by rfl) :
    PP X E (.Call (.Attribute o "append" apos) (e :: es) [] pos) (mth .list fAppend fo g) :=
  pp_bm (k := .list) PySem.F.plainAttrs_list PySem.F.slot_list_append PySem.F.type_list_append mtP_append ho ha hbase hfew hline hs hplain
theorem pp_extend {o : Expr} {fo : Ex} {g : Ag} {apos : Pos} (ho : PP X E o fo) (ha : PPA X E (e :: es) g) (hbase : attributeBase o "extend" X.env (eval o X.env) = eval o X.env := by rfl)
    (hfew : ((backTo pos (starEach (e :: es) X.env)).all (fun x => !x.1) && (backToKw pos (keywordEach [] X.env)).all (fun x => x.1.isSome)
      && decide ((e :: es).length + ([] : List Keyword).length + (if ([] : List Keyword).isEmpty then 0 else 1) < 30)) = true := by rfl)
    (hline : (apos.endLine == pos.line) = true := by rfl) (hs : starEach (e :: es) X.env = (false, eval e X.env) :: starEach es X.env := by rfl) (hplain : (backTo pos (starEach es X.env)).any (·.1) = false := by rfl) :
    PP X E (.Call (.Attribute o "extend" apos) (e :: es) [] pos) (mth .list fExtend fo g) :=
  pp_bm (k := .list) PySem.F.plainAttrs_list PySem.F.slot_list_extend PySem.F.type_list_extend mtP_extend ho ha hbase hfew hline hs hplain
theorem pp_popAt {o : Expr} {fo : Ex} {g : Ag} {apos : Pos} (ho : PP X E o fo) (ha : PPA X E (e :: es) g) (hbase : attributeBase o "pop" X.env (eval o X.env) = eval o X.env := by rfl)
    (hfew : ((backTo pos (starEach (e :: es) X.env)).all (fun x => !x.1) && (backToKw pos (keywordEach [] X.env)).all (fun x => x.1.isSome)
      && decide ((e :: es).length + ([] : List Keyword).length + (if ([] : List Keyword).isEmpty then 0 else 1) < 30)) = true := by rfl)
    (hline : (apos.endLine == pos.line) = true := by rfl) (hs : starEach (e :: es) X.env = (false, eval e X.env) :: starEach es X.env := by rfl) (hplain : (backTo pos (starEach es X.env)).any (·.1) = false := by rfl) :
    PP X E (.Call (.Attribute o "pop" apos) (e :: es) [] pos) (mth .list fPop fo g) :=
  pp_bm (k := .list) PySem.F.plainAttrs_list PySem.F.slot_list_pop PySem.F.type_list_pop mtP_pop ho ha hbase hfew hline hs hplain
theorem pp_pop {o : Expr} {fo : Ex} {apos : Pos} (ho : PP X E o fo) (hbase : attributeBase o "pop" X.env (eval o X.env) = eval o X.env := by rfl) (hline : (apos.endLine == pos.line) = true := by rfl) :
    PP X E (.Call (.Attribute o "pop" apos) [] [] pos) (mth .list fPop fo an) :=
  pp_bm0 (k := .list) PySem.F.plainAttrs_list PySem.F.slot_list_pop PySem.F.type_list_pop mtP_pop ho hbase hline
end
end PL
end
section
set_option autoImplicit false
set_option Elab.async false
set_option linter.all false
set_option maxRecDepth 100000
set_option maxHeartbeats 1000000
/-! Built-ins by values; statements; loops; comprehensions; defs. -/
namespace PL
open PySem L2
section
variable {X : Cx} {E : XK}
theorem crP_len : CallR X (.builtin "len") (rPn X.K X.mg E fLen) := by
  intro pins s σ H xs us Q I rs h
  obtain ⟨μ, ρ, ps, M, hp, h⟩ := h
  match ps, hp with
  | [p], hp =>
    obtain ⟨x, rfl, r⟩ := reps1 hp
    have seqs : (match getL μ p with | some l => Res.ok (.int l.length) μ | none => .stuck) = fLen [p] μ → wpAny (model X.prog X.w) X.A (call (.builtin "len") us) (EP X pins σ Q) X.xe s := fun e => by
      rw [← e] at h
      split at h
      · rename_i l hl
        obtain ⟨a, ys, rfl, k1, k2⟩ := getL_any M r hl
        exact call_len_seq pins s σ H _ us Q I rs ⟨a, ys, rfl, k1, by rw [k2.length]; exact h.val M rint⟩
      · exact h.elim
    cases p with
    | str z =>
      obtain rfl := vstr r
      simp only [fLen] at h
      split at h
      · rename_i hz
        exact call_len_str pins s σ H _ us Q I rs ⟨z, rfl, by rw [SL_eq]; exact hz, h.val M rint⟩
      · exact h.elim
    | _ => exact seqs rfl
  | [], _ => exact h.elim
  | p :: _ :: _, _ => cases p <;> exact h.elim
theorem crP_int : CallR X (.type "int") (rPn X.K X.mg E fInt) := by
  intro pins s σ H xs us Q I rs h
  obtain ⟨μ, ρ, ps, M, hp, h⟩ := h
  match ps, hp with
  | [p], hp =>
    obtain ⟨x, rfl, r⟩ := reps1 hp
    cases p with
    | int i =>
      obtain rfl := vint r
      exact call_int1 pins s σ H _ us Q I rs (.inl ⟨i, rfl, h.val M rint⟩)
    | bl b =>
      obtain rfl := vbl r
      exact call_int1 pins s σ H _ us Q I rs (.inr ⟨b, rfl, h.val M rint⟩)
    | _ => exact h.elim
  | [], _ => exact h.elim
  | p :: _ :: _, _ => cases p <;> exact h.elim
theorem crP_abs : CallR X (.builtin "abs") (rPn X.K X.mg E fAbs) := by
  intro pins s σ H xs us Q I rs h
  obtain ⟨μ, ρ, ps, M, hp, h⟩ := h
  match ps, hp with
  | [p], hp =>
    obtain ⟨x, rfl, r⟩ := reps1 hp
    cases p with
    | int i =>
      obtain rfl := vint r
      exact call_abs pins s σ H _ us Q I rs ⟨i, rfl, h.val M rint⟩
    | _ => exact h.elim
  | [], _ => exact h.elim
  | p :: _ :: _, _ => cases p <;> exact h.elim
theorem maxL_spec : ∀ (l : List Int) (m : Int), (maxL m l = m ∨ maxL m l ∈ l) ∧ m ≤ maxL m l ∧ ∀ y ∈ l, y ≤ maxL m l
  | [], m => by simp [maxL]
  | x :: xs, m => by
    unfold maxL
    by_cases h : x > m
    · rw [if_pos h]
      obtain ⟨h1, h2, h3⟩ := maxL_spec xs x
      refine ⟨.inr ?_, by omega, fun y hy => ?_⟩
      · rcases h1 with h1 | h1
        · rw [h1]; exact List.mem_cons_self
        · exact List.mem_cons_of_mem _ h1
      · rcases List.mem_cons.mp hy with rfl | hy
        · exact h2
        · exact h3 y hy
    · rw [if_neg h]
      obtain ⟨h1, h2, h3⟩ := maxL_spec xs m
      refine ⟨?_, h2, fun y hy => ?_⟩
      · rcases h1 with h1 | h1
        · exact .inl h1
        · exact .inr (List.mem_cons_of_mem _ h1)
      · rcases List.mem_cons.mp hy with rfl | hy
        · omega
        · exact h3 y hy
theorem minL_spec : ∀ (l : List Int) (m : Int), (minL m l = m ∨ minL m l ∈ l) ∧ minL m l ≤ m ∧ ∀ y ∈ l, minL m l ≤ y
  | [], m => by simp [minL]
  | x :: xs, m => by
    unfold minL
    by_cases h : x < m
    · rw [if_pos h]
      obtain ⟨h1, h2, h3⟩ := minL_spec xs x
      refine ⟨.inr ?_, by omega, fun y hy => ?_⟩
      · rcases h1 with h1 | h1
        · rw [h1]; exact List.mem_cons_self
        · exact List.mem_cons_of_mem _ h1
      · rcases List.mem_cons.mp hy with rfl | hy
        · exact h2
        · exact h3 y hy
    · rw [if_neg h]
      obtain ⟨h1, h2, h3⟩ := minL_spec xs m
      refine ⟨?_, h2, fun y hy => ?_⟩
      · rcases h1 with h1 | h1
        · exact .inl h1
        · exact .inr (List.mem_cons_of_mem _ h1)
      · rcases List.mem_cons.mp hy with rfl | hy
        · omega
        · exact h3 y hy
theorem crP_max (hc : X.calm = true) : CallR X (.builtin "max") (rPn X.K X.mg E fMax) := by
  intro pins s σ H xs us Q I rs h
  obtain ⟨μ, ρ, ps, M, hp, h⟩ := h
  match ps, hp with
  | [.int i, .int j], hp =>
    obtain ⟨x, y, rfl, r1, r2⟩ := reps2 hp
    obtain rfl := vint r1
    obtain rfl := vint r2
    exact call_max2 hc pins s σ H _ us Q I rs ⟨i, j, rfl, h.val M rint⟩
  | [.ref n], hp =>
    obtain ⟨x, rfl, r⟩ := reps1 hp
    simp only [fMax] at h
    split at h
    · rename_i i is e
      cases e2 : getL μ (.ref n) with
      | none => rw [e2] at e; simp at e
      | some l =>
        rw [e2] at e
        obtain ⟨a, ys, rfl, k1, k2, _⟩ := getL_ref M r e2
        obtain rfl := intsOf_map (show intsOf l = some (i :: is) from e) k2
        refine cr_max hc pins s σ H _ us Q I rs ⟨a, i :: is, rfl, k1, Nat.succ_pos _, fun m m1 m2 => ?_⟩
        obtain ⟨h1, h2, h3⟩ := maxL_spec is i
        have e3 : m = maxL i is := by
          have g1 : maxL i is ≤ m := by
            rcases h1 with h1 | h1
            · rw [h1]; exact m2 i List.mem_cons_self
            · exact m2 _ (List.mem_cons_of_mem _ h1)
          have g2 : m ≤ maxL i is := by
            rcases List.mem_cons.mp m1 with rfl | m1
            · exact h2
            · exact h3 m m1
          omega
        rw [e3]
        exact h.val M rint
    · exact h.elim
  | [], _ => exact h.elim
  | .non :: _, _ => exact h.elim
  | .bl _ :: _, _ => exact h.elim
  | .str _ :: _, _ => exact h.elim
  | .tup _ :: _, _ => exact h.elim
  | .cst _ :: _, _ => exact h.elim
  | [.int _], _ => exact h.elim
  | .int _ :: .non :: _, _ => exact h.elim
  | .int _ :: .bl _ :: _, _ => exact h.elim
  | .int _ :: .str _ :: _, _ => exact h.elim
  | .int _ :: .tup _ :: _, _ => exact h.elim
  | .int _ :: .cst _ :: _, _ => exact h.elim
  | .int _ :: .ref _ :: _, _ => exact h.elim
  | .int _ :: .int _ :: _ :: _, _ => exact h.elim
  | .ref _ :: _ :: _, _ => exact h.elim
theorem crP_min (hc : X.calm = true) : CallR X (.builtin "min") (rPn X.K X.mg E fMin) := by
  intro pins s σ H xs us Q I rs h
  obtain ⟨μ, ρ, ps, M, hp, h⟩ := h
  match ps, hp with
  | [.int i, .int j], hp =>
    obtain ⟨x, y, rfl, r1, r2⟩ := reps2 hp
    obtain rfl := vint r1
    obtain rfl := vint r2
    exact call_min2 hc pins s σ H _ us Q I rs ⟨i, j, rfl, h.val M rint⟩
  | [.ref n], hp =>
    obtain ⟨x, rfl, r⟩ := reps1 hp
    simp only [fMin] at h
    split at h
    · rename_i i is e
      cases e2 : getL μ (.ref n) with
      | none => rw [e2] at e; simp at e
      | some l =>
        rw [e2] at e
        obtain ⟨a, ys, rfl, k1, k2, _⟩ := getL_ref M r e2
        obtain rfl := intsOf_map (show intsOf l = some (i :: is) from e) k2
        refine cr_min hc pins s σ H _ us Q I rs ⟨a, i :: is, rfl, k1, Nat.succ_pos _, fun m m1 m2 => ?_⟩
        obtain ⟨h1, h2, h3⟩ := minL_spec is i
        have e3 : m = minL i is := by
          have g1 : m ≤ minL i is := by
            rcases h1 with h1 | h1
            · rw [h1]; exact m2 i List.mem_cons_self
            · exact m2 _ (List.mem_cons_of_mem _ h1)
          have g2 : minL i is ≤ m := by
            rcases List.mem_cons.mp m1 with rfl | m1
            · exact h2
            · exact h3 m m1
          omega
        rw [e3]
        exact h.val M rint
    · exact h.elim
  | [], _ => exact h.elim
  | .non :: _, _ => exact h.elim
  | .bl _ :: _, _ => exact h.elim
  | .str _ :: _, _ => exact h.elim
  | .tup _ :: _, _ => exact h.elim
  | .cst _ :: _, _ => exact h.elim
  | [.int _], _ => exact h.elim
  | .int _ :: .non :: _, _ => exact h.elim
  | .int _ :: .bl _ :: _, _ => exact h.elim
  | .int _ :: .str _ :: _, _ => exact h.elim
  | .int _ :: .tup _ :: _, _ => exact h.elim
  | .int _ :: .cst _ :: _, _ => exact h.elim
  | .int _ :: .ref _ :: _, _ => exact h.elim
  | .int _ :: .int _ :: _ :: _, _ => exact h.elim
  | .ref _ :: _ :: _, _ => exact h.elim
/-- a call with one list of ints -/
theorem one_ints {id : String} {f : Fn} {g : List Int → PV} (hf : ∀ n μ, f [.ref n] μ = match (getL μ (.ref n)).bind intsOf with | some is => .ok (g is) μ | _ => .stuck) (hn : ∀ ps μ, (∀ n, ps ≠ [.ref n]) → f ps μ = .stuck)
    (run : ∀ (pins : List (Addr × Obj)) (s : Shared) (σ : L2.St) (H : Hp) (us : List Value) (Q : VK) (a : Addr) (is : List Int), Inv X pins σ H s → Vals [V.ref a] us → SqL X.K H a (is.map V.int) → (∀ x, (∀ ρ, Rep X.K H ρ (g is) x) → Q x H) → wpAny (model X.prog X.w) X.A (call (.builtin id) us) (EP X pins σ Q) X.xe s) :
    CallR X (.builtin id) (rPn X.K X.mg E f) := by
  intro pins s σ H xs us Q I rs h
  obtain ⟨μ, ρ, ps, M, hp, h⟩ := h
  by_cases hps : ∃ n, ps = [.ref n]
  · obtain ⟨n, rfl⟩ := hps
    obtain ⟨x, rfl, r⟩ := reps1 hp
    rw [hf] at h
    split at h
    · rename_i is e
      cases e2 : getL μ (.ref n) with
      | none => rw [e2] at e; simp at e
      | some l =>
        rw [e2] at e
        obtain ⟨a, ys, rfl, k1, k2, _⟩ := getL_ref M r e2
        obtain rfl := intsOf_map (show intsOf l = some is from e) k2
        exact run pins s σ H us Q a is I rs k1 fun x hx => h.val M (hx ρ)
    · exact h.elim
  · rw [hn ps μ fun n e => hps ⟨n, e⟩] at h
    exact h.elim
theorem not_one {ps : List PV} (h : ∀ n, ps ≠ [.ref n]) : ps = [] ∨ (∃ p, ps = [p] ∧ ∀ n, p ≠ .ref n) ∨ ∃ p q r, ps = p :: q :: r := by
  match ps, h with
  | [], _ => exact .inl rfl
  | [p], h => exact .inr (.inl ⟨p, rfl, fun n e => h n (by rw [e])⟩)
  | p :: q :: r, _ => exact .inr (.inr ⟨p, q, r, rfl⟩)
theorem crP_sum (hc : X.calm = true) : CallR X (.builtin "sum") (rPn X.K X.mg E fSum) := by
  refine one_ints (g := fun is => .int is.sum) (fun _ _ => rfl) (fun ps μ hn => ?_) fun pins s σ H us Q a is I rs hs hq => cr_sum hc pins s σ H _ us Q I rs ⟨a, is, rfl, hs, hq _ fun _ => rint⟩
  rcases not_one hn with rfl | ⟨p, rfl, h⟩ | ⟨p, q, r, rfl⟩
  · rfl
  · cases p <;> first | rfl | exact absurd rfl (h _)
  · cases p <;> rfl
theorem bools_run {id : String} {f : Fn} {g : List Bool → Bool} (hf : ∀ n μ, f [.ref n] μ = match (getL μ (.ref n)).bind boolsOf with | some is => .ok (.bl (g is)) μ | _ => .stuck) (hn : ∀ ps μ, (∀ n, ps ≠ [.ref n]) → f ps μ = .stuck)
    (run : CallR X (.builtin id) (fun vs H Q => ∃ (a : Addr) (bs : List Bool), vs = [V.ref a] ∧ SqL X.K H a (bs.map V.bl) ∧ Q (.bl (g bs)) H)) : CallR X (.builtin id) (rPn X.K X.mg E f) := by
  intro pins s σ H xs us Q I rs h
  obtain ⟨μ, ρ, ps, M, hp, h⟩ := h
  by_cases hps : ∃ n, ps = [.ref n]
  · obtain ⟨n, rfl⟩ := hps
    obtain ⟨x, rfl, r⟩ := reps1 hp
    rw [hf] at h
    split at h
    · rename_i is e
      cases e2 : getL μ (.ref n) with
      | none => rw [e2] at e; simp at e
      | some l =>
        rw [e2] at e
        obtain ⟨a, ys, rfl, k1, k2, _⟩ := getL_ref M r e2
        obtain rfl := boolsOf_map (show boolsOf l = some is from e) k2
        exact run pins s σ H _ us Q I rs ⟨a, is, rfl, k1, h.val M rbl⟩
    · exact h.elim
  · rw [hn ps μ fun n e => hps ⟨n, e⟩] at h
    exact h.elim
theorem crP_all (hc : X.calm = true) : CallR X (.builtin "all") (rPn X.K X.mg E fAll) := by
  refine bools_run (g := fun bs => bs.all id) (fun _ _ => rfl) (fun ps μ hn => ?_) (cr_all hc)
  rcases not_one hn with rfl | ⟨p, rfl, h⟩ | ⟨p, q, r, rfl⟩
  · rfl
  · cases p <;> first | rfl | exact absurd rfl (h _)
  · cases p <;> rfl
theorem crP_any (hc : X.calm = true) : CallR X (.builtin "any") (rPn X.K X.mg E fAny) := by
  refine bools_run (g := fun bs => bs.any id) (fun _ _ => rfl) (fun ps μ hn => ?_) (cr_any hc)
  rcases not_one hn with rfl | ⟨p, rfl, h⟩ | ⟨p, q, r, rfl⟩
  · rfl
  · cases p <;> first | rfl | exact absurd rfl (h _)
  · cases p <;> rfl
theorem crP_tuple : CallR X (.type "tuple") (rPn X.K X.mg E fTuple) := by
  intro pins s σ H xs us Q I rs h
  obtain ⟨μ, ρ, ps, M, hp, h⟩ := h
  match ps, hp with
  | [p], hp =>
    obtain ⟨x, rfl, r⟩ := reps1 hp
    simp only [fTuple] at h
    split at h
    · rename_i l hl
      cases p with
      | tup l' =>
        simp only [getL, Option.some.injEq] at hl
        subst hl
        obtain ⟨a, ys, e, k1, k2⟩ := rep_tup r
        subst e
        exact call_tuple_of pins s σ H _ us Q I rs ⟨a, ys, rfl, .inr ⟨k1, h.val M r⟩⟩
      | ref n =>
        obtain ⟨a, ys, rfl, k1, k2, _⟩ := getL_ref M r hl
        exact call_tuple_of pins s σ H _ us Q I rs ⟨a, ys, rfl, .inl ⟨k1, h.newT M k2⟩⟩
      | _ => simp [getL] at hl
    · exact h.elim
  | [], _ => exact h.elim
  | p :: _ :: _, _ => cases p <;> exact h.elim
theorem crP_list : CallR X (.type "list") (rPn X.K X.mg E fList) := by
  intro pins s σ H xs us Q I rs h
  obtain ⟨μ, ρ, ps, M, hp, h⟩ := h
  match ps, hp with
  | [p], hp =>
    obtain ⟨x, rfl, r⟩ := reps1 hp
    simp only [fList] at h
    split at h
    · rename_i l hl
      obtain ⟨a, ys, rfl, k1, k2⟩ := getL_any M r hl
      exact call_list_of pins s σ H _ us Q I rs ⟨a, ys, rfl, k1, h.newL M k2⟩
    · exact h.elim
  | [], _ => exact h.elim
  | p :: _ :: _, _ => cases p <;> exact h.elim
theorem crP_str : CallR X (.type "str") (rPn X.K X.mg E fStr) := by
  intro pins s σ H xs us Q I rs h
  obtain ⟨μ, ρ, ps, M, hp, h⟩ := h
  match ps, hp with
  | [p], hp =>
    obtain ⟨x, rfl, r⟩ := reps1 hp
    cases p with
    | int i =>
      obtain rfl := vint r
      simp only [fStr] at h
      split at h
      · rename_i hz
        exact call_str_int pins s σ H _ us Q I rs ⟨i, rfl, hz, h.val M rstr⟩
      · exact h.elim
    | non =>
      obtain rfl := vnon r
      have hv := h.val M rstr
      obtain ⟨u, rfl, rx⟩ := vals1 rs
      cases rx
      exact PySem.P.str_of_none ⟨.str _, H, I.tok _, ⟨_, rfl⟩, hv⟩
    | _ => exact h.elim
  | [], _ => exact h.elim
  | p :: _ :: _, _ => cases p <;> exact h.elim
/-! repr of data -/
mutual
theorem dp_noDict {K : PySem.W.Frag} {H : Hp} : ∀ {x : V} {d : PyData}, Dp K H x d → d.hasDict = false
  | _, _, .non => by simp only [PyData.hasDict]
  | _, _, .bl _ => by simp only [PyData.hasDict]
  | _, _, .int _ => by simp only [PyData.hasDict]
  | _, _, .str _ => by simp only [PyData.hasDict]
  | _, _, .lst _ h => by simp only [PyData.hasDict]; exact dps_noDict h
  | _, _, .tup _ h => by simp only [PyData.hasDict]; exact dps_noDict h
theorem dps_noDict {K : PySem.W.Frag} {H : Hp} : ∀ {x : List V} {d : List PyData}, DpAll K H x d → PyData.hasDictAll d = false
  | _, _, .nil => by simp only [PyData.hasDictAll]
  | _, _, .cons h t => by simp only [PyData.hasDictAll, dp_noDict h, dps_noDict t, Bool.or_self]
end
/-! lists of data and of empty dicts -/
section
variable {pins : List (Addr × Obj)} {σ : L2.St} {H : Hp} {s : Shared} {ρ : List Addr} {μ : Mem}
/-- what repr reads of an item -/
structure Itm (P : Program) (w : World) (h : Heap) (u : Value) (d : PyData) : Prop where
  rd : ∃ as, Reads h u d as
  rp : d.showable = true → d.shown.length ≤ sizeLine → ∃ bs, ReadAtMost h d.depth bs ∧ ReprK P w bs h d.depth u d.shown
theorem itm_of (M : MemOk X.K H ρ μ) (I : Inv X pins σ H s) {p : PV} {y : V} {u : Value} {d : PyData} (e : toI μ p = some d) (r : Rep X.K H ρ p y) (ru : RelV y u) : Itm X.prog X.w s.heap u d := by
  unfold toI at e
  cases q : toD μ p with
  | some d' =>
    rw [q] at e
    cases e
    have dp := dp_toD M q r
    have ⟨as, rd⟩ := Dp.reads I _ _ _ dp ru
    exact ⟨⟨as, rd⟩, fun a1 a2 => ReprK.of_reads rd a1 (PyData.noDict_hsm (dp_noDict dp)) a2⟩
  | none =>
    rw [q] at e
    cases p <;> simp only [reduceCtorEq] at e
    rename_i n
    split at e
    · rename_i q2
      cases e
      obtain ⟨a, h1, rfl⟩ := rep_ref M r
      obtain ⟨xs, h3, h4⟩ := M.at' n _ a q2 h1
      simp only [RepK] at h4
      subst h4
      cases ru
      obtain ⟨_, ns, vs, kv, o, es, ep, q1, q2, q3, _, q5, _⟩ := L2.dk_of I.hok h3
      cases kv
      have hes : es.toList = [] := by
        cases hh : es.toList with
        | nil => rfl
        | cons a l => rw [hh] at q5; nomatch q5
      have rd : Reads s.heap (.ref a) (.dict []) (a :: [] ++ []) := .dict q1 q2.1 q3 (by rw [hes]; exact .nil) (by rw [hes]; exact .nil)
      exact ⟨⟨_, rd⟩, fun a1 a2 => ReprK.of_reads rd a1 (fun _ hm => by
        simp only [List.append_nil, List.mem_singleton] at hm
        rw [← hm] at ns
        exact absurd ns (by simp)) a2⟩
    · cases e
theorem itms_of (M : MemOk X.K H ρ μ) (I : Inv X pins σ H s) : ∀ {l : List PV} {ys : List V} {us : List Value} {ds : List PyData}, toIs μ l = some ds → Reps X.K H ρ l ys → Vals ys us → (∃ as, ReadsAll s.heap us ds as) ∧ (PyData.showableAll ds = true → (∀ t ∈ PyData.shownAll ds, t.length ≤ sizeLine) → ∃ bs, ReadAtMost s.heap (PyData.depthAll ds) bs ∧ ReprAllK X.prog X.w bs s.heap (PyData.depthAll ds) us (PyData.shownAll ds))
  | [], ys, us, ds, e, r, v => by
    simp only [toIs, Option.some.injEq] at e
    subst e
    simp only [Reps] at r
    subst r
    cases v
    exact ⟨⟨_, .nil⟩, fun _ _ => ⟨[], (fun _ h => nomatch h), by simp only [PyData.shownAll]; exact .nil⟩⟩
  | p :: ps, ys, us, ds, e, r, v => by
    obtain ⟨y, zs, rfl, r1, r2⟩ := Reps.cons_iff.mp r
    cases v with
    | cons v1 v2 =>
      simp only [toIs] at e
      cases q1 : toI μ p with
      | none => rw [q1] at e; simp at e
      | some d =>
        cases q2 : toIs μ ps with
        | none => rw [q1, q2] at e; simp at e
        | some es =>
          rw [q1, q2] at e
          simp only [Option.bind_some, Option.map_some, Option.some.injEq] at e
          subst e
          obtain ⟨⟨as, j1⟩, j2⟩ := itm_of M I q1 r1 v1
          obtain ⟨⟨bs, k1⟩, k2⟩ := itms_of M I q2 r2 v2
          refine ⟨⟨_, .cons j1 k1⟩, fun sh sz => ?_⟩
          simp only [PyData.showableAll, Bool.and_eq_true] at sh
          simp only [PyData.shownAll, List.mem_cons, forall_eq_or_imp] at sz
          obtain ⟨cs, x1, x2⟩ := j2 sh.1 sz.1
          obtain ⟨gs, y1, y2⟩ := k2 sh.2 sz.2
          refine ⟨cs ++ gs, ?_, ?_⟩
          · have l1 := Nat.le_max_left d.depth (PyData.depthAll es)
            have l2 := Nat.le_max_right d.depth (PyData.depthAll es)
            simp only [PyData.depthAll]
            exact (x1.mono l1).append (y1.mono l2)
          · have l1 := Nat.le_max_left d.depth (PyData.depthAll es)
            have l2 := Nat.le_max_right d.depth (PyData.depthAll es)
            have m1 : ∀ b ∈ cs, b ∈ cs ++ gs := fun b hb => by simp [hb]
            have m2 : ∀ b ∈ gs, b ∈ cs ++ gs := fun b hb => by simp [hb]
            simp only [PyData.depthAll, PyData.shownAll]
            exact .cons ((x2.more m1).level_le l1) (y2.more_le m2 l2)
theorem repr_items (M : MemOk X.K H ρ μ) (I : Inv X pins σ H s) (hg : X.A.guards = some []) (hu : X.A.units + 65 < cLine) {n : Nat} {y : V} {u : Value} {d : PyData} (e : toX μ (.ref n) = some d) (r : Rep X.K H ρ (.ref n) y) (ru : RelV y u) (z1 : d.showable = true) (z2 : d.shown.length ≤ sizeLine) (z3 : d.depth ≤ 64) {Q : Value → Shared → Prop} {E : Value → Shared → Prop}
    (hQ : ∀ h' t tk, (∀ b o, s.heap.get? b = some o → h'.get? b = some o) → Q (.str d.shown t) { s with heap := h', toks := tk }) : wpAny (model X.prog X.w) X.A (call (.builtin "repr") [u]) Q E s := by
  unfold toX at e
  simp only at e
  split at e
  · rename_i l q
    cases q2 : toIs μ l with
    | none => rw [q2] at e; simp at e
    | some ds =>
      rw [q2] at e
      simp only [Option.map_some, Option.some.injEq] at e
      subst e
      obtain ⟨a, ys, _, rfl, h2, h3⟩ := mem_lst M r q
      cases ru
      obtain ⟨its, rv, ⟨o, k, o1, o2, _, o3⟩, _⟩ := I.list (SqL.of h2)
      obtain ⟨⟨as, j1⟩, j2⟩ := itms_of M I q2 h3 rv
      have zl : (listText (PyData.shownAll ds)).length ≤ sizeLine := by simpa only [PyData.shown] using z2
      obtain ⟨bs, b1, b2⟩ := j2 (by simpa [PyData.showable] using z1) (fun t ht => Nat.le_trans (listText_mem_le ht) zl)
      have top : Reads s.heap (.ref a) (.list ds) (a :: as) := .list o1 o2 o3 j1
      have free : a ∉ bs := not_mem_of_deeper top (by simp only [PyData.depth]; omega) b1
      simp only [PyData.depth] at z3
      simp only [PyData.shown] at hQ
      refine call_repr_slot (by omega) ⟨o, o1, o2⟩ F.slot_list_repr.toG ?_
      cases its with
      | nil =>
        have j3 : ReadsAll s.heap [] ds as := j1
        cases j3
        simp only [PyData.shownAll, listText_nil] at hQ
        exact call_list_repr_empty ⟨o, o1, o2⟩ o1 o3 ⟨_, _, rfl, hQ s.heap _ _ fun _ _ e => e⟩
      | cons x xs =>
        exact call_list_reprK o1 o2 o3 free (by simpa using b2.length_eq) (fun i z ez => b2.item i z (by simpa using ez)) hg (fun b _ => Clear.nil b) (by show X.A.units + 1 + _ < cLine; omega) (fun _ _ e => e) (fun h' t tk hk => ⟨_, _, rfl, hQ h' t tk hk⟩) zl
  · rename_i q
    simp only [Option.some.injEq] at e
    subst e
    obtain ⟨a, h1, rfl⟩ := rep_ref M r
    obtain ⟨xs, h3, h4⟩ := M.at' n _ a q h1
    simp only [RepK] at h4
    subst h4
    cases ru
    obtain ⟨_, ns, vs, kv, o, es, ep, q1, q2, q3, _, q5, _⟩ := L2.dk_of I.hok h3
    cases kv
    have hes : es.toList = [] := by
      cases hh : es.toList with
      | nil => rfl
      | cons a l => rw [hh] at q5; nomatch q5
    have rd : Reads s.heap (.ref a) (.dict []) (a :: [] ++ []) := .dict q1 q2.1 q3 (by rw [hes]; exact .nil) (by rw [hes]; exact .nil)
    exact PySem.repr_of_reads' rd z1 (fun _ hm => by
        simp only [List.append_nil, List.mem_singleton] at hm
        rw [← hm] at ns
        exact absurd ns (by simp)) hg (by omega) (fun _ _ e => e) (fun h' t tk hk => hQ h' t tk hk) z2
  · cases e
end
theorem crP_repr (hg : X.A.guards = some []) (hu : X.A.units + 65 < cLine) : CallR X (.builtin "repr") (rPn X.K X.mg E fRepr) := by
  intro pins s σ H xs us Q I rs h
  obtain ⟨μ, ρ, ps, M, hp, h⟩ := h
  match ps, hp with
  | [p], hp =>
    obtain ⟨x, rfl, r⟩ := reps1 hp
    simp only [fRepr] at h
    split at h
    · rename_i d hd
      split at h
      · rename_i hz
        obtain ⟨z1, z2, z3⟩ := hz
        have hv := h.val M rstr
        have dp := dp_toD M hd r
        obtain ⟨u, rfl, rx⟩ := vals1 rs
        have sz : d.shown.length ≤ sizeLine := by rw [SL_eq]; exact z2
        cases dp with
        | non => cases rx; exact PySem.P.repr_of_none ⟨.str _, H, I.tok _, ⟨_, rfl⟩, hv⟩
        | bl b =>
          cases rx
          refine PySem.P.repr_of_bool ⟨.str _, H, I.tok _, ⟨_, rfl⟩, ?_⟩
          exact hv
        | int i =>
          obtain ⟨t, rfl⟩ := rx
          refine PySem.P.repr_of_int (by simpa [PyData.showable] using z1) ⟨.str _, H, I.tok _, ⟨_, rfl⟩, ?_⟩
          exact hv
        | str y =>
          obtain ⟨t, rfl⟩ := rx
          refine PySem.P.repr_of_str ⟨.str _, H, I.tok _, ⟨_, rfl⟩, ?_⟩ (by simpa [PyData.shown] using sz)
          exact hv
        | @lst a ys ds h1 h2 =>
          obtain ⟨as, rd⟩ := Dp.reads I _ _ u (.lst h1 h2) rx
          cases rx
          have hnd : PyData.hasDict (.list ds) = false := dp_noDict (.lst h1 h2)
          exact PySem.repr_of_reads' rd z1 (PySem.PyData.noDict_hsm hnd) hg (by omega) (fun _ _ e => e) (fun h' u tk hk => ⟨.str _, H, I.kept (t' := tk) hk, ⟨u, rfl⟩, hv⟩) sz
        | @tup a ys ds h1 h2 =>
          obtain ⟨as, rd⟩ := Dp.reads I _ _ u (.tup h1 h2) rx
          cases rx
          have hnd : PyData.hasDict (.tuple ds) = false := dp_noDict (.tup h1 h2)
          exact PySem.repr_of_reads' rd z1 (PySem.PyData.noDict_hsm hnd) hg (by omega) (fun _ _ e => e) (fun h' u tk hk => ⟨.str _, H, I.kept (t' := tk) hk, ⟨u, rfl⟩, hv⟩) sz
      · exact h.elim
    · split at h
      · rename_i n d hn hd
        split at h
        · rename_i hz
          obtain ⟨z1, z2, z3⟩ := hz
          have hv := h.val M rstr
          obtain ⟨u, rfl, rx⟩ := vals1 rs
          have sz : d.shown.length ≤ sizeLine := by rw [SL_eq]; exact z2
          exact repr_items M I hg hu hd r rx z1 sz z3 (fun h' u tk hk => ⟨.str _, H, I.kept (t' := tk) hk, ⟨u, rfl⟩, hv⟩)
        · exact h.elim
      · exact h.elim
  | [], _ => exact h.elim
  | p :: _ :: _, _ => cases p <;> exact h.elim
theorem kitb {K : PySem.W.Frag} {a b : String} {r : Bool} (h : kitB a b = some r) : PySem.W.kitOne K (.type a) (.type b) = some r := kit_ty h
def Ty.nm : Ty → String
  | .int => "int" | .bool => "bool" | .str => "str" | .tuple => "tuple" | .list => "list" | .dict => "dict"
theorem isTy_run {K : PySem.W.Frag} {H : Hp} {ρ : List Addr} {μ : Mem} {t : Ty} {p : PV} {x : V} {b : Bool} (M : MemOk K H ρ μ) (r : Rep K H ρ p x) (h : isTy μ t p = some b) : ∃ T, TyX K H x (.type T) ∧ kitB T t.nm = some b := by
  cases p with
  | non => obtain rfl := vnon r; refine ⟨"NoneType", .base .non, ?_⟩; cases t <;> simp only [isTy, Option.some.injEq, reduceCtorEq] at h <;> subst h <;> decide +kernel
  | bl y => obtain rfl := vbl r; refine ⟨"bool", .base (.bl y), ?_⟩; cases t <;> simp only [isTy, Option.some.injEq, reduceCtorEq] at h <;> subst h <;> decide +kernel
  | int y => obtain rfl := vint r; refine ⟨"int", .base (.int y), ?_⟩; cases t <;> simp only [isTy, Option.some.injEq, reduceCtorEq] at h <;> subst h <;> decide +kernel
  | str y => obtain rfl := vstr r; refine ⟨"str", .base (.str y), ?_⟩; cases t <;> simp only [isTy, Option.some.injEq, reduceCtorEq] at h <;> subst h <;> decide +kernel
  | cst a => cases t <;> simp [isTy] at h
  | tup l =>
    obtain ⟨a, xs, rfl, k1, k2⟩ := rep_tup r
    refine ⟨"tuple", ?_, ?_⟩
    · rcases k1 with (k1 | ⟨o, k1⟩) | ⟨o, its, n, k1, k3, _⟩
      · exact .base (.tup k1)
      · exact .fTuple k1
      · exact .kTuple k1 k3
    · cases t <;> simp only [isTy, Option.some.injEq, reduceCtorEq] at h <;> subst h <;> decide +kernel
  | ref n =>
    have h' : (match μ[n]? with
      | some (.lst _) => some t.isL
      | some (.dct _) => some t.isD
      | _ => none) = some b := by cases t <;> exact h
    split at h'
    · rename_i l e
      obtain ⟨a, xs, _, rfl, g3, _⟩ := mem_lst M r e
      refine ⟨"list", .base (.lst g3), ?_⟩
      cases h'
      cases t <;> decide +kernel
    · rename_i l e
      obtain ⟨a, h1, rfl⟩ := rep_ref M r
      obtain ⟨xs, h3, _⟩ := M.at' _ _ a e h1
      refine ⟨"dict", .base (.dK h3), ?_⟩
      cases h'
      cases t <;> decide +kernel
    · cases h'
/-- isinstance(x, T) -/
theorem pp_isi {t : Ty} {e : Expr} {fe : Ex} {x nm : Str} {p p2 pos : Pos} (ha : PP X E e fe) (hm : X.mg x = none) (hm2 : X.mg nm = none) (hx : bootBuiltins x = some (.builtin "isinstance")) (hnm : bootBuiltins nm = some (.type t.nm))
    (hg : Gl X x := by rfl) (hg2 : Gl X nm := by rfl) (hn : x ≠ "__name__" := by decide) (hdb : (x == ("__debug__" : Str)) = false := by decide) (hn2 : nm ≠ "__name__" := by decide) (hdb2 : (nm == ("__debug__" : Str)) = false := by decide)
    (he : starEach [e, .Name nm p2] X.env = (false, eval e X.env) :: starEach [.Name nm p2] X.env := by rfl) (hpl : (backTo pos (starEach [.Name nm p2] X.env)).any (·.1) = false := by rfl) (he2 : starEach [.Name nm p2] X.env = (false, eval (.Name nm p2) X.env) :: starEach [] X.env := by rfl) :
    PP X E (.Call (.Name x p) [e, .Name nm p2] [] pos) (app1 (fIsi t) fe) := ⟨by
  refine PE.imp (pe_callB call_isi hg hm hx (pa_cons ha.pe (pa_cons (pe_bltn (v := .ty t.nm) hg2 hm2 hnm rfl hn2 hdb2) pa_nil he2) he) hn hdb he hpl) fun σ H Q h => ?_
  obtain ⟨env, μ, ρ, eo, M, h⟩ := h
  refine tE_bind eo M h fun x H1 p m ρ1 _ l1 e1 M1 r1 q1 => ?_
  simp only [fIsi] at q1
  split at q1
  · rename_i b hb
    obtain ⟨T, h1, h2⟩ := isTy_run M1 r1 hb
    exact ⟨x, .ty t.nm, .type T, .type t.nm, b, rfl, .ty _, h1, kit_ty h2, q1.val M1 rbl⟩
  · exact q1.elim⟩
end
/-! ### targets -/
section
variable {X : Cx} {E : XK} {e : Expr} {es : List Expr} {fe : Ex} {pos : Pos}
theorem EnvOk.set {K : PySem.W.Frag} {H : Hp} {ρ : List Addr} {env : Env} {σ : L2.St} {i : Nat} {p : PV} {x : V} (e : EnvOk K H ρ env σ) (r : Rep K H ρ p x) : EnvOk K H ρ (env.set i (some p)) (σ.set i (some x)) := by
  refine ⟨by simp [e.len], fun j q h => ?_⟩
  have hl := e.len
  by_cases hj : i = j
  · subst hj
    have hi : i < env.length := by
      have := (List.getElem?_eq_some_iff.mp h).1
      simpa using this
    rw [List.getElem?_set_self hi] at h
    rw [List.getElem?_set_self (by omega)]
    cases h
    exact ⟨x, rfl, r⟩
  · rw [List.getElem?_set_ne hj] at h
    rw [List.getElem?_set_ne hj]
    exact e.at' j q h
theorem OutOf.refl (is : List Nat) (σ : L2.St) : OutOf is σ σ := ⟨rfl, fun _ _ => rfl⟩
theorem OutOf.trans {is js : List Nat} {σ σ1 σ2 : L2.St} (a : OutOf is σ σ1) (b : OutOf js σ1 σ2) : OutOf (is ++ js) σ σ2 :=
  ⟨b.1.trans a.1, fun j h => by
    simp only [List.mem_append, not_or] at h
    exact (b.2 j h.2).trans (a.2 j h.1)⟩
theorem ppg_n (i : Nat) {x : Str} (hN : X.N.Nodup) (hi : X.N[i]? = some x := by rfl) (hx : Loc X.env.scope x := by first | exact Or.inl rfl | exact Or.inr rfl) (hf : X.fn x = true ∨ X.env.scope.names.lookup x = some .local := by first | exact Or.inl rfl | exact Or.inr rfl) : PPG X E (.Name x pos) [i] (tn i) := ⟨by
  refine PG.imp (pg_name (i := i) hN hi hx hf) fun x σ H Q h => ?_
  obtain ⟨env, μ, ρ, p, eo, M, r, h⟩ := h
  exact Post.val (R := RG X.K [i] σ) (show Post X.K X.mg E (RG X.K [i] σ) H ρ Q (Res.ok (env.set i (some p)) μ) from h) M ⟨eo.set r, by simp, fun j hj => List.getElem?_set_ne (by simpa using Ne.symm (by simpa using hj))⟩⟩
theorem ppgs_nil : PPGs X E [] [] t0 := ⟨by
  refine PGs.imp pgs_nil fun xs σ H Q h => ?_
  obtain ⟨env, μ, ρ, ps, eo, M, r, h⟩ := h
  match ps, r with
  | [], r =>
    simp only [Reps] at r
    subst r
    exact ⟨rfl, Post.val (R := RG X.K [] σ) (show Post X.K X.mg E (RG X.K [] σ) H ρ Q (Res.ok env μ) from h) M ⟨eo, .refl _ _⟩⟩
  | _ :: _, _ => exact h.elim⟩
theorem ppgs_cons {g : Tg} {gs : Tgs} {is js : List Nat} (h1 : PPG X E e is g) (h2 : PPGs X E es js gs) (hs : (assignEach (e :: es) X.env).map (·.2) = assign e X.env :: (assignEach es X.env).map (·.2) := by rfl) : PPGs X E (e :: es) (is ++ js) (tc g gs) := ⟨by
  refine PGs.imp (pgs_cons h1.pg h2.pg hs) fun xs σ H Q h => ?_
  obtain ⟨env, μ, ρ, ps, eo, M, r, h⟩ := h
  match ps, r with
  | [], r => exact h.elim
  | p :: qs, r =>
    obtain ⟨y, ys, rfl, r1, r2⟩ := Reps.cons_iff.mp r
    refine ⟨y, ys, rfl, env, μ, ρ, p, eo, M, r1, ?_⟩
    refine (Post.bind (R := RG X.K is σ) h).imp fun σ' H1 ⟨env1, m, ρ1, _, l1, M1, ⟨e1, o1⟩, q1⟩ => ?_
    exact ⟨env1, m, ρ1, qs, e1, M1, Reps.mono l1 _ _ r2, q1.rel fun H' ρ' env2 σ2 ⟨g1, g2⟩ => ⟨g1, o1.trans g2⟩⟩⟩
section
variable {prog : Program} {w : World} {A : Around} {Ex : Value → Shared → Prop} {s : Shared}
theorem draw_list {it t : Addr} {items : Array Value} (hne : t ≠ it) : ∀ (n i : Nat) (s : Shared) (Q : List Value → Shared → Prop), s.heap.IsListIter it t i → s.heap.IsList t items → i + n ≤ items.size →
    (∀ h', h'.IsListIter it t (i + n) → Heap.SameBut it s.heap h' → Q ((items.toList.drop i).take n) { s with heap := h' }) → wpAny (model prog w) A (draw (.ref it) n) Q Ex s
  | 0, i, s, Q, hit, _, _, hQ => by
    show wpAny _ _ (pure []) Q Ex s
    exact wpAny_pure (by simpa using hQ s.heap hit (Heap.SameBut.refl ..))
  | n + 1, i, s, Q, hit, ht, hle, hQ => by
    have hlt : i < items.size := by omega
    show wpAny _ _ (pyNext (.ref it) >>= _) Q Ex s
    refine wpAny_bind (wpAny_pyNext_list_item hit ht (x := items[i]) (by simp [hlt]) fun h₁ hit₁ hs₁ => ?_)
    refine wpAny_bind (wpAny_holding (draw_list hne n (i + 1) _ _ hit₁ (ht.extBut hs₁.extBut hne) (by omega) fun h₂ hit₂ hs₂ => wpAny_pure ?_))
    have hd : items.toList.drop i = items[i] :: items.toList.drop (i + 1) := by simp [List.drop_eq_getElem_cons, hlt]
    have := hQ h₂ (by rw [show i + (n + 1) = i + 1 + n by omega]; exact hit₂) (hs₁.trans hs₂)
    rw [hd, List.take_succ_cons] at this
    exact this
theorem unpackItems_list {t : Addr} {items : Array Value} {Q : List Value → Shared → Prop} (hh : A.handled = none) (ht : s.heap.IsList t items)
    (hQ : ∀ h', Heap.ExtBut s.heap.objs.size s.heap h' → Q items.toList { s with heap := h' }) : wpAny (model prog w) A (unpackItems (.ref t) items.size none) Q Ex s := by
  have hlt : t ≠ s.heap.objs.size := by obtain ⟨o, ho, _⟩ := ht; exact Nat.ne_of_lt (Heap.lt_size ho)
  unfold unpackItems
  refine wpAny_bind ?_
  · unfold notIterableAtAll
    refine wpAny_bind (wpAny_specialOf ht.typeIs slot_list_iter.lookup ?_)
    refine wpAny_pure ?_
    simp only [Bool.false_eq_true, if_false]
    refine wpAny_bind (wpAny_holding (wpAny_pyIter_list ht ?_))
    refine wpAny_bind (wpAny_holding (draw_list hlt items.size 0 _ _ ⟨_, Heap.get?_push_size _ rfl, rfl, rfl⟩ (ht.push _) (by omega) fun h₁ hit₁ hs₁ => ?_))
    have hall : List.take items.size (List.drop 0 items.toList) = items.toList := by
      rw [List.drop_zero]; exact List.take_of_length_le (by simp)
    rw [hall]
    rw [if_neg (by simp)]
    have ht₁ : h₁.IsList t items := (ht.push _).extBut hs₁.extBut hlt
    refine wpAny_bind (wpAny_holding (wpAny_pyNext_list_end hh hit₁ ht₁ (by simp) fun h₂ he₂ => ?_))
    simp only [Option.isSome_none, Bool.false_eq_true, if_false]
    refine wpAny_pure (hQ h₂ fun b o hb e => he₂ b o hb (hs₁.extBut b o hb (Heap.get?_push_of_some _ e)))
theorem assign_Tuple_list {env : PySem.Env} {elts : List Expr} {x1} {pos : Pos} {t : Addr} {items : Array Value} {Q : Unit → Shared → Prop} (hh : A.handled = none) (ht : s.heap.IsList t items)
    (hn : (assignEach elts env).length = items.size) (hstar : (assignEach elts env).findIdx? (·.1) = none)
    (h : ∀ h', Heap.ExtBut s.heap.objs.size s.heap h' → wpAny (model prog w) A (assignInOrder ((assignEach elts env).map (·.2)) items.toList) Q Ex { s with heap := h' }) :
    wpAny (model prog w) A (assign (.Tuple elts x1 pos) env (.ref t)) Q Ex s := by
  rw [PyProof.Rows.assign_Tuple]
  refine wpAny_bind (wpAny_standAt ?_)
  unfold unpack
  rw [hn, hstar]
  exact wpAny_bind (wpAny_holding (unpackItems_list hh ht h))
end
/-- (a, b, ..) = a tuple or a list of that length -/
def gTupL (K : PySem.W.Frag) (n : Nat) (t : L2.TGs) : L2.TG := fun v σ H Q => ∃ a xs, v = .ref a ∧ (SqT K H a xs ∨ SqL K H a xs) ∧ xs.length = n ∧ t xs σ H Q
theorem pg_tupL {es : List Expr} {k : Nat} {t : L2.TGs} {n : Nat} (hc : X.calm = true) (h : PGs X es t)
    (hn : (assignEach es X.env).length = n := by rfl) (hst : (assignEach es X.env).findIdx? (·.1) = none := by rfl) : PG X (.Tuple es k pos) (gTupL X.K n t) := by
  refine ⟨fun pins s σ H v u Q I r hw => ?_⟩
  obtain ⟨a, xs, e1, hq, hl, hw⟩ := hw
  subst e1
  cases r
  rcases hq with hq | hq
  · obtain ⟨its, rv, ht, hz⟩ := I.tuple hq
    refine PyProof.Rows.assign_Tuple_tuple (I.ok.hd hc) ht (by simp [hn, ← hl, rv.length]) hst fun h' hx => ?_
    have I1 : Inv X pins σ H { s with heap := h' } := I.kept (t' := s.toks) fun b o e => hx b o (Nat.ne_of_lt (Heap.lt_size e)) e
    exact h.run pins _ σ H xs _ Q I1 (by simpa using rv) hw
  · obtain ⟨its, rv, ht, hz⟩ := I.list hq
    refine assign_Tuple_list (I.ok.hd hc) ht.isList (by simp [hn, ← hl, rv.length]) hst fun h' hx => ?_
    have I1 : Inv X pins σ H { s with heap := h' } := I.kept (t' := s.toks) fun b o e => hx b o (Nat.ne_of_lt (Heap.lt_size e)) e
    exact h.run pins _ σ H xs _ Q I1 (by simpa using rv) hw
theorem ppg_tup {n k : Nat} {gs : Tgs} {is : List Nat} (hc : X.calm = true) (h : PPGs X E es is gs) (hn : (assignEach es X.env).length = n := by rfl) (hst : (assignEach es X.env).findIdx? (·.1) = none := by rfl) : PPG X E (.Tuple es k pos) is (tt n gs) := ⟨by
  refine PG.imp (pg_tupL (n := n) hc h.pg hn hst) fun x σ H Q h => ?_
  obtain ⟨env, μ, ρ, p, eo, M, r, h⟩ := h
  cases p with
  | tup l =>
    obtain ⟨a, xs, rfl, k1, k2⟩ := rep_tup r
    simp only [tt] at h
    split at h
    · rename_i hl
      exact ⟨a, xs, rfl, .inl k1, by rw [k2.length]; exact hl, env, μ, ρ, l, eo, M, k2, h⟩
    · exact h.elim
  | ref m =>
    simp only [tt] at h
    split at h
    · rename_i l e
      split at h
      · rename_i hl
        obtain ⟨a, xs, g1, rfl, g3, g4⟩ := mem_lst M r e
        exact ⟨a, xs, rfl, .inr (SqL.of g3), by rw [g4.length]; exact hl, env, μ, ρ, l, eo, M, g4, h⟩
      · exact h.elim
    · exact h.elim
  | _ => exact h.elim⟩
theorem psetP : PSet X (fun o i v H Q => ∃ μ ρ p q r, MemOk X.K H ρ μ ∧ Rep X.K H ρ p o ∧ Rep X.K H ρ q i ∧ Rep X.K H ρ r v ∧ Post X.K X.mg E (RP X.K) H ρ (fun _ H' => Q H') (fSet [p, q, r] μ)) := by
  intro pins s σ H o i v ov iv u Q I ro ri rv h
  obtain ⟨μ, ρ, p, q, r, M, hp, hq, hr, h⟩ := h
  cases p with
  | ref n =>
    cases q with
    | int j =>
      obtain rfl := vint hq
      simp only [fSet] at h
      split at h
      · rename_i l e
        split at h
        · rename_i k hk
          obtain ⟨a, xs, g1, rfl, g3, g4⟩ := mem_lst M hp e
          exact set_list pins s σ H _ _ v ov iv u Q I ro ri rv ⟨a, xs, j, k, rfl, rfl, g3, by rw [g4.length]; exact hk, h.write M e g1 (g4.set k hr) rnon⟩
        · exact h.elim
      · exact h.elim
    | _ => exact h.elim
  | _ => cases q <;> exact h.elim
theorem ppg_sub {o i : Expr} {fo fi : Ex} (ho : PP X E o fo) (hi : PP X E i fi) (ha : ∀ v, assign (.Subscript o i pos) X.env v = (do
      let ov ← holding [v] (eval o X.env)
      let iv ← holding [v, ov] (eval i X.env)
      standAt pos
      holding [v, ov, iv] (setItem ov iv v)
      release [v, ov, iv] []) := by intro _; rfl) : PPG X E (.Subscript o i pos) [] (tsub fSet fo fi) := ⟨by
  refine PG.imp (pg_sub ho.pe hi.pe (psetP (E := E)) ha) fun x σ H Q h => ?_
  obtain ⟨env, μ, ρ, p, eo, M, r, h⟩ := h
  refine tE_bind eo M h fun y H1 q m ρ1 _ l1 e1 M1 r1 q1 => tE_bind e1 M1 q1 fun z H2 w m2 ρ2 _ l2 e2 M2 r2 q2 => ⟨m2, ρ2, q, w, p, M2, Rep.mono l2 _ _ r1, r2, Rep.mono (l1.trans l2) _ _ r, ?_⟩
  refine (Post.bind (R := RP X.K) q2).imp fun _ H3 ⟨_, m3, ρ3, _, l3, M3, _, q3⟩ => ?_
  exact Post.val (R := RG X.K [] σ) (show Post X.K X.mg E (RG X.K [] σ) H3 ρ3 Q (Res.ok env m3) from q3) M3 ⟨e2.mono l3, .refl _ _⟩⟩
end
/-! ### statements -/
section
variable {X : Cx} {E : XK} {a b e : Expr} {st : Stmt} {sts rest : List Stmt} {fa fb fe : Ex} {fs gs : Sm} {pos : Pos}
theorem tE_of {K : PySem.W.Frag} {mg : Str → Option Value} {H : Hp} {ρ : List Addr} {D : Ends} {env : Env} {μ : Mem} {σ : L2.St} {k : PV → Mem → Out} (eo : EnvOk K H ρ env σ) (M : MemOk K H ρ μ)
    (h : PostS K mg E H ρ D (.of (fa env μ) k)) {Q : VK} (i : ∀ x H1 p m ρ1, fa env μ = .ok p m → Lat K H ρ H1 ρ1 → EnvOk K H1 ρ1 env σ → MemOk K H1 ρ1 m → Rep K H1 ρ1 p x → PostS K mg E H1 ρ1 D (k p m) → Q x H1) : tE K mg E fa σ H Q :=
  ⟨env, μ, ρ, eo, M, (PostS.of (R := RP K) h).imp fun x H1 ⟨p, m, ρ1, e, l, M1, r, q⟩ => i x H1 p m ρ1 e l (eo.mono l) M1 r q⟩
theorem tT_of {K : PySem.W.Frag} {mg : Str → Option Value} {H : Hp} {ρ : List Addr} {D : Ends} {env : Env} {μ : Mem} {σ : L2.St} {k1 k2 : Mem → Out} (eo : EnvOk K H ρ env σ) (M : MemOk K H ρ μ)
    (h : PostS K mg E H ρ D (.of (fa env μ) fun p m => onS p (k1 m) (k2 m))) {Q : Bool → Hp → Prop} (i : ∀ t H1 m ρ1, fa env μ = .ok (.bl t) m → Lat K H ρ H1 ρ1 → EnvOk K H1 ρ1 env σ → MemOk K H1 ρ1 m → PostS K mg E H1 ρ1 D (if t = true then k1 m else k2 m) → Q t H1) : tT K mg E fa σ H Q := by
  refine ⟨env, μ, ρ, eo, M, ?_⟩
  cases e : fa env μ with
  | ok p m =>
    rw [e] at h
    cases p with
    | bl t =>
      intro b H1 ρ1 l M1 rb
      cases rb
      refine i t H1 m ρ1 e l (eo.mono l) M1 ?_
      have h2 : PostS K mg E H ρ D (onS (.bl t) (k1 m) (k2 m)) := h
      rw [onS_bl] at h2
      exact h2.later l
    | _ => exact h.elim
  | exc x m => rw [e] at h; exact h
  | stuck => rw [e] at h; exact h
theorem ps_nxt {K : PySem.W.Frag} {mg : Str → Option Value} {H : Hp} {ρ : List Addr} {D : Ends} {env : Env} {μ : Mem} {σ : L2.St} (h : PostS K mg E H ρ D (.nx env μ)) (M : MemOk K H ρ μ) (eo : EnvOk K H ρ env σ) : D.nx σ H := h σ H ρ (.refl K H ρ) M eo
theorem ppb_nil : PPb X E [] skip := ⟨PSs.imp pss_nil fun D σ H h => by
  obtain ⟨env, μ, ρ, eo, M, h⟩ := h
  exact ps_nxt (E := E) (mg := X.mg) h M eo⟩
theorem ppb_cons (h1 : PPs X E st fs) (h2 : PPb X E rest gs) : PPb X E (st :: rest) (seq fs gs) := ⟨PSs.imp (pss_cons h1.ps h2.ps) fun D σ H h => by
  obtain ⟨env, μ, ρ, eo, M, h⟩ := h
  refine ⟨env, μ, ρ, eo, M, (PostS.then h).imp (fun σ' H' ⟨env1, m, ρ1, l, M1, e1, q⟩ => ⟨env1, m, ρ1, e1, M1, q⟩) (fun _ _ q => q) (fun _ _ q => q) fun _ _ q => q⟩⟩
theorem ppb_one (h1 : PPs X E st fs) : PPb X E [st] fs := ⟨pss_one h1.ps⟩
theorem pps_pass : PPs X E (.Pass pos) skip := ⟨PS.imp ps_pass fun D σ H h => by
  obtain ⟨env, μ, ρ, eo, M, h⟩ := h
  exact ps_nxt (E := E) (mg := X.mg) h M eo⟩
theorem pps_brk : PPs X E (.Break pos) brk := ⟨PS.imp ps_break fun D σ H h => by
  obtain ⟨env, μ, ρ, eo, M, h⟩ := h
  exact (show ∀ σ' H' ρ', Lat X.K H ρ H' ρ' → MemOk X.K H' ρ' μ → EnvOk X.K H' ρ' env σ' → D.bk σ' H' from h) σ H ρ (.refl _ _ _) M eo⟩
theorem pps_cnt : PPs X E (.Continue pos) cnt := ⟨PS.imp ps_continue fun D σ H h => by
  obtain ⟨env, μ, ρ, eo, M, h⟩ := h
  exact (show ∀ σ' H' ρ', Lat X.K H ρ H' ρ' → MemOk X.K H' ρ' μ → EnvOk X.K H' ρ' env σ' → D.ct σ' H' from h) σ H ρ (.refl _ _ _) M eo⟩
theorem pps_exp (h : PP X E e fe) (hs : swapsWith e none pos.line X.env = pure false := by rfl) : PPs X E (.Expr e pos) (exp fe) := ⟨PS.imp (ps_expr h.pe hs) fun D σ H h => by
  obtain ⟨env, μ, ρ, eo, M, h⟩ := h
  exact tE_of eo M h fun x H1 p m ρ1 _ l1 e1 M1 r1 q1 => ps_nxt (E := E) (mg := X.mg) q1 M1 e1⟩
theorem pps_ret (h : PP X E e fe) : PPs X E (.Return (some e) pos) (ret fe) := ⟨PS.imp (ps_ret h.pe) fun D σ H h => by
  obtain ⟨env, μ, ρ, eo, M, h⟩ := h
  exact tE_of eo M h fun x H1 p m ρ1 _ l1 e1 M1 r1 q1 => (show ∀ x H' ρ', Lat X.K H1 ρ1 H' ρ' → MemOk X.K H' ρ' m → Rep X.K H' ρ' p x → D.rt x H' from q1) x H1 ρ1 (.refl _ _ _) M1 r1⟩
theorem pps_if (h : PPT X E e fe) (h1 : PPb X E sts fs) (h2 : PPb X E rest gs) : PPs X E (.If e sts rest pos) (cond fe fs gs) := ⟨PS.imp (ps_if h.pt h1.ps h2.ps) fun D σ H h => by
  obtain ⟨env, μ, ρ, eo, M, h⟩ := h
  exact tT_of (k1 := fun m => fs env m) (k2 := fun m => gs env m) eo M h fun t H1 m ρ1 _ l1 e1 M1 q1 => by
    cases t with
    | true => exact ⟨env, m, ρ1, e1, M1, q1⟩
    | false => exact ⟨env, m, ρ1, e1, M1, q1⟩⟩
theorem asg_read {g : Tg} {is : List Nat} {K : PySem.W.Frag} {mg : Str → Option Value} {D : Ends} {σ : L2.St} {H : Hp} (h : tS K mg E (asg g fe) D σ H) : tAsg (tE K mg E fe) (tG K mg E is g) D σ H := by
  obtain ⟨env, μ, ρ, eo, M, h⟩ := h
  refine tE_of eo M h fun x H1 p m ρ1 _ l1 e1 M1 r1 q1 => ⟨env, m, ρ1, p, e1, M1, r1, ?_⟩
  refine (PostS.of (R := RG K is σ) q1).imp fun σ' H2 ⟨env2, m2, ρ2, _, l2, M2, ⟨e2, _⟩, q2⟩ => ?_
  exact ps_nxt (E := E) (mg := mg) q2 M2 e2
theorem pps_asg {g : Tg} {is : List Nat} (h : PP X E e fe) (hg : PPG X E a is g) (hs : swapsWithSole [a] e pos.line X.env = pure false := by rfl) (hw : swappedStores [a] e X.env = pure none := by rfl) (h1 : (assignEach [a] X.env).map (·.2) = [assign a X.env] := by rfl) : PPs X E (.Assign [a] e pos) (asg g fe) :=
  ⟨PS.imp (ps_asg h.pe hg.pg hs hw h1) fun _ _ _ h => asg_read h⟩
theorem pps_set (i : Nat) {x : Str} {pos' : Pos} (hN : X.N.Nodup) (h : PP X E e fe) (hi : X.N[i]? = some x := by rfl) (hx : Loc X.env.scope x := by first | exact Or.inl rfl | exact Or.inr rfl) (hs : swapsWith e (some (.Name x pos')) pos.line X.env = pure false := by rfl)
    (hf : X.fn x = true ∨ X.env.scope.names.lookup x = some .local := by first | exact Or.inl rfl | exact Or.inr rfl) : PPs X E (.Assign [.Name x pos'] e pos) (setv i fe) := ⟨PS.imp (ps_set (i := i) hN hi hx h.pe hs hf) fun D σ H h => by
  obtain ⟨env, μ, ρ, eo, M, h⟩ := h
  exact tE_of eo M h fun x H1 p m ρ1 _ l1 e1 M1 r1 q1 => ps_nxt (E := E) (mg := X.mg) q1 M1 (e1.set r1)⟩
theorem pps_par (i j : Nat) {x y : Str} {px py pt : Pos} {kt k2 : Nat} {pt2 : Pos} (hc : X.calm = true) (hN : X.N.Nodup) (hij : i ≠ j) (ha : PP X E a fa) (hb : PP X E b fb) (hi : X.N[i]? = some x := by rfl) (hj : X.N[j]? = some y := by rfl)
    (hx : X.env.scope.names.lookup x = some .local := by rfl) (hy : X.env.scope.names.lookup y = some .local := by rfl)
    (hw : swappedStores [.Tuple [.Name x px, .Name y py] kt pt] (.Tuple [a, b] k2 pt2) X.env = pure (some [x, y]) := by rfl)
    (hs : swapsWithSole [.Tuple [.Name x px, .Name y py] kt pt] (.Tuple [a, b] k2 pt2) pos.line X.env = pure false := by rfl)
    (hs1 : starEach [a, b] X.env = (false, eval a X.env) :: starEach [b] X.env := by rfl) (hs2 : starEach [b] X.env = (false, eval b X.env) :: starEach [] X.env := by rfl) :
    PPs X E (.Assign [.Tuple [.Name x px, .Name y py] kt pt] (.Tuple [a, b] k2 pt2) pos) (par i j fa fb) := ⟨PS.imp (ps_par (i := i) (j := j) hc hN hi hj hij hx hy (pa_cons ha.pe (pa_cons hb.pe pa_nil hs2) hs1) hw hs) fun D σ H h => by
  obtain ⟨env, μ, ρ, eo, M, h⟩ := h
  exact tE_of eo M h fun x H1 p m ρ1 _ l1 e1 M1 r1 q1 => tE_of e1 M1 q1 fun y H2 q m2 ρ2 _ l2 e2 M2 r2 q2 => ⟨x, y, rfl, ps_nxt (E := E) (mg := X.mg) q2 M2 ((e2.set (Rep.mono l2 _ _ r1)).set r2)⟩⟩
end
end PL
end
section
set_option autoImplicit false
set_option Elab.async false
set_option linter.all false
set_option maxRecDepth 100000
set_option maxHeartbeats 1000000
/-! Loops, comprehensions, defs and their calls. -/
namespace PL
open PySem L2
section
variable {X : Cx} {E : XK} {a b d e tg iter : Expr} {st : Stmt} {sts rest : List Stmt} {fa fb fd fe : Ex} {fs gs : Sm} {pos : Pos}
theorem pps_par3 (i j l : Nat) {x y z : Str} {px py pz pt : Pos} {kt k2 : Nat} {pt2 : Pos} (hc : X.calm = true) (hN : X.N.Nodup) (hij : i ≠ j) (hil : i ≠ l) (hjl : j ≠ l) (ha : PP X E a fa) (hb : PP X E b fb) (hd : PP X E d fd) (hi : X.N[i]? = some x := by rfl) (hj : X.N[j]? = some y := by rfl) (hl : X.N[l]? = some z := by rfl)
    (hx : X.env.scope.names.lookup x = some .local := by rfl) (hy : X.env.scope.names.lookup y = some .local := by rfl) (hz : X.env.scope.names.lookup z = some .local := by rfl)
    (hw : swappedStores [.Tuple [.Name x px, .Name y py, .Name z pz] kt pt] (.Tuple [a, b, d] k2 pt2) X.env = pure (some [x, y, z]) := by rfl)
    (hs : swapsWithSole [.Tuple [.Name x px, .Name y py, .Name z pz] kt pt] (.Tuple [a, b, d] k2 pt2) pos.line X.env = pure false := by rfl)
    (hs1 : starEach [a, b, d] X.env = (false, eval a X.env) :: starEach [b, d] X.env := by rfl) (hs2 : starEach [b, d] X.env = (false, eval b X.env) :: starEach [d] X.env := by rfl) (hs3 : starEach [d] X.env = (false, eval d X.env) :: starEach [] X.env := by rfl) :
    PPs X E (.Assign [.Tuple [.Name x px, .Name y py, .Name z pz] kt pt] (.Tuple [a, b, d] k2 pt2) pos) (par3 i j l fa fb fd) := ⟨PS.imp (ps_par3 (i := i) (j := j) (l := l) hc hN hi hj hl hij hil hjl hx hy hz (pa_cons ha.pe (pa_cons hb.pe (pa_cons hd.pe pa_nil hs3) hs2) hs1) hw hs) fun D σ H h => by
  obtain ⟨env, μ, ρ, eo, M, h⟩ := h
  exact tE_of eo M h fun x H1 p m ρ1 _ l1 e1 M1 r1 q1 => tE_of e1 M1 q1 fun y H2 q m2 ρ2 _ l2 e2 M2 r2 q2 => tE_of e2 M2 q2 fun z H3 w m3 ρ3 _ l3 e3 M3 r3 q3 =>
    ⟨x, y, z, rfl, ps_nxt (E := E) (mg := X.mg) q3 M3 (((e3.set (Rep.mono (l2.trans l3) _ _ r1)).set (Rep.mono l3 _ _ r2)).set r3)⟩⟩
/-! ### while -/
theorem pps_while (hp : PassesOwn (model X.prog X.w) X.A X.env X.xe) (ht : PPT X E e fe) (hb : PPb X E sts fs) : PPs X E (.While e sts [] pos) (whileS fe fs) := ⟨PS.imp (ps_while hp ht.pt hb.ps) fun D σ H h => by
  obtain ⟨env, μ, ρ, eo, M, h⟩ := h
  refine ⟨fun m σ H => ∃ env μ ρ, EnvOk X.K H ρ env σ ∧ MemOk X.K H ρ μ ∧ PostS X.K X.mg E H ρ D (whileN fe fs m env μ), ⟨fuel, env, μ, ρ, eo, M, h⟩, ?_⟩
  rintro m σ1 H1 ⟨env1, μ1, ρ1, e1, M1, h1⟩
  cases m with
  | zero => exact h1.elim
  | succ m =>
    refine tT_of (k1 := fun μ1 => match fs env1 μ1 with | .nx e m' => whileN fe fs m e m' | .ct e m' => whileN fe fs m e m' | .bk e m' => .nx e m' | o => o) (k2 := fun μ1 => .nx env1 μ1) e1 M1 h1 fun t H2 μ2 ρ2 _ l2 e2 M2 q2 => ?_
    cases t with
    | false => exact ps_nxt (E := E) (mg := X.mg) q2 M2 e2
    | true =>
      refine ⟨fun σ' H' => ∃ env μ ρ, EnvOk X.K H' ρ env σ' ∧ MemOk X.K H' ρ μ ∧ PostS X.K X.mg E H' ρ D (whileN fe fs m env μ), fun σ' H' hh => ⟨m, Nat.lt_succ_self m, hh⟩, env1, μ2, ρ2, e2, M2, ?_⟩
      have q3 : PostS X.K X.mg E H2 ρ2 D (match fs env1 μ2 with | .nx e m' => whileN fe fs m e m' | .ct e m' => whileN fe fs m e m' | .bk e m' => .nx e m' | o => o) := q2
      cases z : fs env1 μ2 with
      | nx e3 m3 => rw [z] at q3; exact fun σ' H' ρ' l M' eo' => ⟨e3, m3, ρ', eo', M', PostS.later q3 l⟩
      | ct e3 m3 => rw [z] at q3; exact fun σ' H' ρ' l M' eo' => ⟨e3, m3, ρ', eo', M', PostS.later q3 l⟩
      | bk e3 m3 => rw [z] at q3; exact q3
      | rt p m3 => rw [z] at q3; exact q3
      | exc x m3 => rw [z] at q3; exact q3
      | stuck => rw [z] at q3; exact q3⟩
/-! ### for -/
theorem pps_for {it : PL.It} {g : Tg} {is : List Nat} (hp : PassesOwn (model X.prog X.w) X.A X.env X.xe) (hc : X.calm = true) (hi : PPI X E tg iter it) (hg : PPG X E tg is g) (hb : PPb X E sts fs) (hs : ∀ x, foldedSetIterable iter X.env x = pure x := by intro _; rfl) :
    PPs X E (.For tg iter sts [] pos) (forS it g fs) := ⟨PS.imp (ps_for hp hc hi.pi hg.pg hb.ps hs) fun D σ H h => by
  obtain ⟨env, μ, ρ, eo, M, h⟩ := h
  refine ⟨env, μ, ρ, eo, M, (PostS.of (R := fun H' ρ' z J => ItOk X.K H' ρ' z J) h).imp fun J H1 ⟨z, m1, ρ1, _, l1, M1, hJ, q1⟩ => ?_⟩
  refine ⟨fun i n σ H => n = z.items.length - i ∧ i ≤ z.items.length ∧ ∃ env μ ρ, Lat X.K H1 ρ1 H ρ ∧ EnvOk X.K H ρ env σ ∧ MemOk X.K H ρ μ ∧ PostS X.K X.mg E H ρ D (forN z.lk g fs (z.items.drop i) env μ), ⟨_, rfl, Nat.zero_le _, env, m1, ρ1, .refl _ _ _, eo.mono l1, M1, q1⟩, ?_⟩
  rintro i n σ2 H2 ⟨rfl, hi, env2, μ2, ρ2, l2, e2, M2, q2⟩
  by_cases hlt : i < z.items.length
  · have hd : z.items.drop i = z.items[i] :: z.items.drop (i + 1) := List.drop_eq_getElem_cons hlt
    rw [hd] at q2
    unfold forN at q2
    split at q2
    · rename_i hlk
      obtain ⟨go, yld⟩ := hJ.go H2 ρ2 μ2 i z.items[i] l2 M2 hlk (List.getElem?_eq_getElem hlt)
      refine .inr ⟨go, fun σ' H' => ∃ env μ ρ, Lat X.K H1 ρ1 H' ρ ∧ EnvOk X.K H' ρ env σ' ∧ MemOk X.K H' ρ μ ∧ PostS X.K X.mg E H' ρ D (forN z.lk g fs (z.items.drop (i + 1)) env μ), fun σ' H' hh => ⟨z.items.length - (i + 1), by omega, rfl, hlt, hh⟩, fun x H3 hy => ?_⟩
      obtain ⟨l3, M3, r3⟩ := yld x H3 hy
      refine ⟨env2, μ2, ρ2, z.items[i], e2.mono l3, M3, r3, ?_⟩
      refine (PostS.of (R := RG X.K is σ2) (q2.later l3)).imp fun σ4 H4 ⟨env4, μ4, ρ4, _, l4, M4, ⟨e4, _⟩, q4⟩ => ?_
      refine ⟨env4, μ4, ρ4, e4, M4, ?_⟩
      have l5 : Lat X.K H1 ρ1 H4 ρ4 := (l2.trans l3).trans l4
      cases zz : fs env4 μ4 with
      | nx e5 m5 => rw [zz] at q4; exact fun σ' H' ρ' l M' eo' => ⟨e5, m5, ρ', l5.trans l, eo', M', PostS.later q4 l⟩
      | ct e5 m5 => rw [zz] at q4; exact fun σ' H' ρ' l M' eo' => ⟨e5, m5, ρ', l5.trans l, eo', M', PostS.later q4 l⟩
      | bk e5 m5 => rw [zz] at q4; exact q4
      | rt p m5 => rw [zz] at q4; exact q4
      | exc x m5 => rw [zz] at q4; exact q4
      | stuck => rw [zz] at q4; exact q4
    · exact q2.elim
  · have e : i = z.items.length := by omega
    subst e
    rw [List.drop_eq_nil_of_le (Nat.le_refl _)] at q2
    unfold forN at q2
    split at q2
    · rename_i hlk
      exact .inl ⟨hJ.stop H2 ρ2 μ2 l2 M2 hlk, ps_nxt (E := E) (mg := X.mg) q2 M2 e2⟩
    · exact q2.elim⟩
/-! what a for walks -/
theorem itOk_tup {K : PySem.W.Frag} {H : Hp} {ρ : List Addr} {l : List PV} {a : Addr} {xs : List V} (s : SqT K H a xs) (r : Reps K H ρ l xs) : ItOk K H ρ ⟨l, []⟩ (Itt K a) where
  go := fun H1 ρ1 μ1 i p l1 M1 _ hi => by
    obtain ⟨x, h1, h2⟩ := r.get hi
    refine ⟨⟨xs, x, l1.keep a xs s, h1⟩, fun y H' hy => ?_⟩
    obtain ⟨rfl, hy⟩ := hy
    have := hy xs (l1.keep a xs s)
    rw [h1] at this
    cases this
    exact ⟨.refl _ _ _, M1, Rep.mono l1 _ _ h2⟩
  stop := fun H1 ρ1 μ1 l1 M1 _ => ⟨xs, l1.keep a xs s, by rw [r.length]; exact Nat.le_refl _⟩
theorem lock_seq {K : PySem.W.Frag} {H0 H : Hp} {ρ0 ρ : List Addr} {μ : Mem} {n : Nat} {a : Addr} {l : List PV} (ha : ρ0[n]? = some a) (L : Lat K H0 ρ0 H ρ) (M : MemOk K H ρ μ) (lk : μ[n]? = some (.lst l) ∨ μ[n]? = some (.ro l)) : ∃ xs, SqL K H a xs ∧ Reps K H ρ l xs := by
  rcases lk with h | h
  · obtain ⟨xs, h1, h2⟩ := M.at' n _ a h (L.get ha)
    exact ⟨xs, SqL.of h1, h2⟩
  · obtain ⟨xs, h1, h2⟩ := M.at' n _ a h (L.get ha)
    exact ⟨xs, h1.seq, h2⟩
theorem itOk_lst {K : PySem.W.Frag} {H : Hp} {ρ : List Addr} {l : List PV} {a : Addr} {n : Nat} (ha : ρ[n]? = some a) : ItOk K H ρ ⟨l, [(n, l)]⟩ (Itl K a) where
  go := fun H1 ρ1 μ1 i p l1 M1 lk hi => by
    obtain ⟨xs, h1, h2⟩ := lock_seq ha l1 M1 (lk (n, l) (by simp))
    obtain ⟨x, h3, h4⟩ := h2.get hi
    refine ⟨⟨xs, x, h1, h3⟩, fun y H' hy => ?_⟩
    obtain ⟨rfl, hy⟩ := hy
    have := hy xs h1
    rw [h3] at this
    cases this
    exact ⟨.refl _ _ _, M1, h4⟩
  stop := fun H1 ρ1 μ1 l1 M1 lk => by
    obtain ⟨xs, h1, h2⟩ := lock_seq ha l1 M1 (lk (n, l) (by simp))
    exact ⟨xs, h1, by rw [h2.length]; exact Nat.le_refl _⟩
theorem ppi_val (h : PP X E iter fe) : PPI X E tg iter (iVal fe) := ⟨PI.imp (PI.or (pi_list (tg := tg) h.pe) (pi_tup (tg := tg) h.pe)) fun σ H R hh => by
  obtain ⟨env, μ, ρ, eo, M, hh⟩ := hh
  cases z : fe env μ with
  | ok p m =>
    have hz : Post X.K X.mg E (fun H' ρ' z J => ItOk X.K H' ρ' z J) H ρ R (itsOf p m) := by
      unfold iVal at hh
      rw [z] at hh
      exact hh
    cases p with
    | tup l =>
      refine .inr ⟨env, μ, ρ, eo, M, ?_⟩
      rw [z]
      intro x H1 ρ1 l1 M1 r1
      obtain ⟨a, xs, rfl, k1, k2⟩ := rep_tup r1
      exact ⟨a, rfl, ⟨xs, k1⟩, hz (Itt X.K a) H1 ρ1 l1 M1 (itOk_tup k1 k2)⟩
    | ref n =>
      simp only [itsOf] at hz
      split at hz
      · rename_i l hl
        refine .inl ⟨env, μ, ρ, eo, M, ?_⟩
        rw [z]
        intro x H1 ρ1 l1 M1 r1
        obtain ⟨a, xs, rfl, k1, k2, _⟩ := getL_ref M1 r1 hl
        obtain ⟨b, hb, e⟩ := rep_ref M1 r1
        cases e
        exact ⟨a, rfl, ⟨xs, k1⟩, hz (Itl X.K a) H1 ρ1 l1 M1 (itOk_lst hb)⟩
      · exact hz.elim
    | _ => exact hz.elim
  | exc x m =>
    unfold iVal at hh
    rw [z] at hh
    exact .inl ⟨env, μ, ρ, eo, M, by rw [z]; exact hh⟩
  | stuck =>
    unfold iVal at hh
    rw [z] at hh
    exact hh.elim⟩
theorem rangeL_len (i : Int) (n : Nat) : (rangeL i n).length = n := by simp [rangeL]
theorem itOk_rng {K : PySem.W.Frag} {H : Hp} {ρ : List Addr} (i : Int) (n : Nat) : ItOk K H ρ ⟨rangeL i n, []⟩ (Itr i n) where
  go := fun H1 ρ1 μ1 k p l1 M1 _ hi => by
    have hk : k < n := by
      have := (List.getElem?_eq_some_iff.mp hi).1
      rw [rangeL_len] at this
      exact this
    refine ⟨hk, fun y H' hy => ?_⟩
    obtain ⟨rfl, rfl⟩ := hy
    have : p = .int (i + (k : Int)) := by
      simp only [rangeL, List.getElem?_map] at hi
      rw [List.getElem?_range hk] at hi
      simpa using hi.symm
    subst this
    exact ⟨.refl _ _ _, M1, rint⟩
  stop := fun H1 ρ1 μ1 l1 M1 _ => by
    show n ≤ (rangeL i n).length
    rw [rangeL_len]
    exact Nat.le_refl _
theorem pa1 {K : PySem.W.Frag} {mg : Str → Option Value} {σ : L2.St} {H : Hp} {Q : List V → Hp → Prop} (h : tE K mg E fe σ H (fun x H1 => Q [x] H1)) : tCons (tE K mg E fe) tNil σ H Q := h
theorem ppi_rng1 {p : Pos} (hm : X.mg "range" = none) (h : PP X E a fa) (hg : Gl X "range" := by rfl) (hs : starEach [a] X.env = [(false, eval a X.env)] := by rfl) : PPI X E tg (.Call (.Name "range" p) [a] [] pos) (iRng1 fa) :=
  ⟨PI.imp (pi_range1 (tg := tg) hg hm (pa_cons h.pe pa_nil (by rw [hs]; rfl)) hs) fun σ H R hh => by
  obtain ⟨env, μ, ρ, eo, M, hh⟩ := hh
  refine tE_bind eo M hh fun x H1 p m ρ1 _ l1 e1 M1 r1 q1 => ?_
  cases p with
  | int j =>
    obtain rfl := vint r1
    simp only at q1
    split at q1
    · rename_i hz
      exact ⟨j, rfl, hz.1, hz.2, q1 (Itr 0 j.toNat) H1 ρ1 (.refl _ _ _) M1 (itOk_rng 0 _)⟩
    · exact q1.elim
  | _ => exact q1.elim⟩
theorem ppi_rng2 {p : Pos} (hm : X.mg "range" = none) (h : PP X E a fa) (h' : PP X E b fb) (hg : Gl X "range" := by rfl) (hs : starEach [a, b] X.env = [(false, eval a X.env), (false, eval b X.env)] := by rfl) (hs2 : starEach [b] X.env = [(false, eval b X.env)] := by rfl) :
    PPI X E tg (.Call (.Name "range" p) [a, b] [] pos) (iRng2 fa fb) := ⟨PI.imp (pi_range2 (tg := tg) hg hm (pa_cons h.pe (pa_cons h'.pe pa_nil (by rw [hs2]; rfl)) (by rw [hs, hs2])) hs hs2) fun σ H R hh => by
  obtain ⟨env, μ, ρ, eo, M, hh⟩ := hh
  refine tE_bind eo M hh fun x H1 p m ρ1 _ l1 e1 M1 r1 q1 => tE_bind e1 M1 q1 fun y H2 q m2 ρ2 _ l2 e2 M2 r2 q2 => ?_
  cases p with
  | int i =>
    cases q with
    | int j =>
      obtain rfl := vint r1
      obtain rfl := vint r2
      simp only at q2
      split at q2
      · rename_i hz
        exact ⟨i, j, rfl, ⟨hz.1.1, hz.1.2, hz.2.1, hz.2.2⟩, q2 (Itr i (j - i).toNat) H2 ρ2 (.refl _ _ _) M2 (itOk_rng i _)⟩
      · exact q2.elim
    | _ => exact q2.elim
  | _ => cases q <;> exact q2.elim⟩
theorem zipL_get : ∀ {l k : List PV} {i : Nat} {p : PV}, (zipL l k)[i]? = some p → ∃ x y, l[i]? = some x ∧ k[i]? = some y ∧ p = .tup [x, y]
  | [], k, i, p, h => by simp [zipL] at h
  | _ :: _, [], i, p, h => by simp [zipL] at h
  | x :: l, y :: k, 0, p, h => by simp [zipL] at h; exact ⟨x, y, rfl, rfl, h.symm⟩
  | x :: l, y :: k, i + 1, p, h => by
    simp only [zipL, List.getElem?_cons_succ] at h ⊢
    exact zipL_get h
theorem zipL_len : ∀ (l k : List PV), (zipL l k).length = min l.length k.length
  | [], k => by simp [zipL]
  | _ :: _, [] => by simp [zipL]
  | x :: l, y :: k => by simp only [zipL, List.length_cons, zipL_len l k]; omega
theorem enumL_get : ∀ {l : List PV} {k i : Nat} {p : PV}, (enumL k l)[i]? = some p → ∃ x, l[i]? = some x ∧ p = .tup [.int ((k + i : Nat) : Int), x]
  | [], k, i, p, h => by simp [enumL] at h
  | x :: l, k, 0, p, h => by simp [enumL] at h; exact ⟨x, rfl, h.symm⟩
  | x :: l, k, i + 1, p, h => by
    simp only [enumL, List.getElem?_cons_succ] at h ⊢
    obtain ⟨y, h1, h2⟩ := enumL_get h
    exact ⟨y, h1, by rw [h2, show k + 1 + i = k + (i + 1) by omega]⟩
theorem enumL_len : ∀ (l : List PV) (k : Nat), (enumL k l).length = l.length
  | [], k => rfl
  | x :: l, k => by simp [enumL, enumL_len l]
theorem rep_pair {K : PySem.W.Frag} {H : Hp} {ρ : List Addr} {T : Addr} {p q : PV} {x y : V} (L : Lat K H ρ (upd H T (.tup [x, y])) ρ) (h1 : Rep K H ρ p x) (h2 : Rep K H ρ q y) : Rep K (upd H T (.tup [x, y])) ρ (.tup [p, q]) (.ref T) := by
  simp only [Rep]
  exact ⟨T, [x, y], rfl, SqT.of upd_same, .cons (Rep.mono L _ _ h1) (.cons (Rep.mono L _ _ h2) .nil)⟩
theorem itOk_zipT {K : PySem.W.Frag} {H : Hp} {ρ : List Addr} {l k : List PV} {a b : Addr} {xs ys : List V} (s : SqT K H a xs) (r : Reps K H ρ l xs) (s' : SqT K H b ys) (r' : Reps K H ρ k ys) : ItOk K H ρ ⟨zipL l k, []⟩ (RZ.ItzT K a b) where
  go := fun H1 ρ1 μ1 i p l1 M1 _ hi => by
    obtain ⟨p1, p2, g1, g2, rfl⟩ := zipL_get hi
    obtain ⟨x, h1, h2⟩ := r.get g1
    obtain ⟨y, h3, h4⟩ := r'.get g2
    have t1 := l1.keep a xs s
    have t2 := l1.keep b ys s'
    refine ⟨⟨xs, ys, x, y, t1, t2, h1, h3⟩, fun z H' hy => ?_⟩
    obtain ⟨T, x', y', rfl, hT, rfl, e1, e2⟩ := hy
    have e1 := e1 xs t1
    have e2 := e2 ys t2
    rw [h1] at e1
    rw [h3] at e2
    cases e1
    cases e2
    have q := M1.other (ho := .tup [x, y]) hT
    exact ⟨q.2, q.1, rep_pair q.2 (Rep.mono l1 _ _ h2) (Rep.mono l1 _ _ h4)⟩
  stop := fun H1 ρ1 μ1 l1 M1 _ => ⟨xs, ys, l1.keep a xs s, l1.keep b ys s', by
    show xs.length ≤ (zipL l k).length ∨ ys.length ≤ (zipL l k).length
    rw [zipL_len, r.length, r'.length]
    omega⟩
theorem itOk_zipL {K : PySem.W.Frag} {H : Hp} {ρ : List Addr} {l k : List PV} {a b : Addr} {n m : Nat} (ha : ρ[n]? = some a) (hb : ρ[m]? = some b) : ItOk K H ρ ⟨zipL l k, [(n, l), (m, k)]⟩ (Itz K a b) where
  go := fun H1 ρ1 μ1 i p l1 M1 lk hi => by
    obtain ⟨p1, p2, g1, g2, rfl⟩ := zipL_get hi
    obtain ⟨xs, s1, r⟩ := lock_seq ha l1 M1 (lk (n, l) (by simp))
    obtain ⟨ys, s2, r'⟩ := lock_seq hb l1 M1 (lk (m, k) (by simp))
    obtain ⟨x, h1, h2⟩ := r.get g1
    obtain ⟨y, h3, h4⟩ := r'.get g2
    refine ⟨⟨xs, ys, x, y, s1, s2, h1, h3⟩, fun z H' hy => ?_⟩
    obtain ⟨T, x', y', rfl, hT, rfl, e1, e2⟩ := hy
    have e1 := e1 xs s1
    have e2 := e2 ys s2
    rw [h1] at e1
    rw [h3] at e2
    cases e1
    cases e2
    have q := M1.other (ho := .tup [x, y]) hT
    exact ⟨q.2, q.1, rep_pair q.2 h2 h4⟩
  stop := fun H1 ρ1 μ1 l1 M1 lk => by
    obtain ⟨xs, s1, r⟩ := lock_seq ha l1 M1 (lk (n, l) (by simp))
    obtain ⟨ys, s2, r'⟩ := lock_seq hb l1 M1 (lk (m, k) (by simp))
    refine ⟨xs, ys, s1, s2, ?_⟩
    have e1 : xs.length = l.length := r.length
    have e2 : ys.length = k.length := r'.length
    show xs.length ≤ (zipL l k).length ∨ ys.length ≤ (zipL l k).length
    rw [zipL_len, e1, e2]
    omega
theorem itOk_enumL {K : PySem.W.Frag} {H : Hp} {ρ : List Addr} {l : List PV} {a : Addr} {n : Nat} (ha : ρ[n]? = some a) : ItOk K H ρ ⟨enumL 0 l, [(n, l)]⟩ (Ite K a) where
  go := fun H1 ρ1 μ1 i p l1 M1 lk hi => by
    obtain ⟨p1, g1, rfl⟩ := enumL_get hi
    obtain ⟨xs, s1, r⟩ := lock_seq ha l1 M1 (lk (n, l) (by simp))
    obtain ⟨x, h1, h2⟩ := r.get g1
    refine ⟨⟨xs, x, s1, h1⟩, fun z H' hy => ?_⟩
    obtain ⟨T, x', rfl, hT, rfl, e1⟩ := hy
    have e1 := e1 xs s1
    rw [h1] at e1
    cases e1
    have q := M1.other (ho := .tup [.int (i : Nat), x]) hT
    refine ⟨q.2, q.1, rep_pair q.2 ?_ h2⟩
    rw [Nat.zero_add]
    exact rint
  stop := fun H1 ρ1 μ1 l1 M1 lk => by
    obtain ⟨xs, s1, r⟩ := lock_seq ha l1 M1 (lk (n, l) (by simp))
    refine ⟨xs, s1, ?_⟩
    show xs.length ≤ (enumL 0 l).length
    rw [enumL_len, r.length]
    exact Nat.le_refl _
theorem ppi_zip {elts : List Expr} {kk : Nat} {tpos p : Pos} (hm : X.mg "zip" = none) (h : PP X E a fa) (h' : PP X E b fb) (hg : Gl X "zip" := by rfl)
    (hs : starEach [a, b] X.env = (false, eval a X.env) :: starEach [b] X.env := by rfl) (hs2 : starEach [b] X.env = (false, eval b X.env) :: starEach [] X.env := by rfl) (hpl : (backTo pos (starEach [b] X.env)).any (·.1) = false := by rfl) :
    PPI X E (.Tuple elts kk tpos) (.Call (.Name "zip" p) [a, b] [] pos) (iZip fa fb) := ⟨PI.imp (RZ.pi_zipA hg hm (pa_cons h.pe (pa_cons h'.pe pa_nil hs2) hs) hs hpl) fun σ H R hh => by
  obtain ⟨env, μ, ρ, eo, M, hh⟩ := hh
  refine tE_bind eo M hh fun x H1 p m ρ1 _ l1 e1 M1 r1 q1 => tE_bind e1 M1 q1 fun y H2 q m2 ρ2 _ l2 e2 M2 r2 q2 => ?_
  cases p with
  | tup l =>
    cases q with
    | tup k =>
      obtain ⟨a, xs, rfl, k1, k2⟩ := rep_tup (Rep.mono l2 _ _ r1)
      obtain ⟨b, ys, rfl, k3, k4⟩ := rep_tup r2
      exact ⟨a, b, xs, ys, rfl, .inr ⟨k1, k3, q2 (RZ.ItzT X.K a b) H2 ρ2 (.refl _ _ _) M2 (itOk_zipT k1 k2 k3 k4)⟩⟩
    | _ => exact q2.elim
  | ref n =>
    cases q with
    | ref k =>
      simp only at q2
      split at q2
      · rename_i l l' g1 g2
        obtain ⟨a, xs, rfl, k1, k2, _⟩ := getL_ref M2 (Rep.mono l2 _ _ r1) g1
        obtain ⟨b, ys, rfl, k3, k4, _⟩ := getL_ref M2 r2 g2
        obtain ⟨a', ha, e⟩ := rep_ref M2 (Rep.mono l2 _ _ r1)
        cases e
        obtain ⟨b', hb, e⟩ := rep_ref M2 r2
        cases e
        exact ⟨a, b, xs, ys, rfl, .inl ⟨k1, k3, q2 (Itz X.K a b) H2 ρ2 (.refl _ _ _) M2 (itOk_zipL ha hb)⟩⟩
      · exact q2.elim
    | _ => exact q2.elim
  | _ => cases q <;> exact q2.elim⟩
end
/-! ### comprehensions -/
section
variable {X : Cx} {E : XK} {tg iter elt : Expr} {ifs : List Expr} {scope : Scope} {pos : Pos}
structure PPTs (X : Cx) (E : XK) (ifs : List Expr) (f : Ex) : Prop where
  pt : PTs X ifs (tT X.K X.mg E f)
theorem ppts_nil : PPTs X E [] yes := ⟨⟨fun pins s σ H Q I h => pts_nil.run pins s σ H Q I (by
  obtain ⟨env, μ, ρ, eo, M, h⟩ := h
  exact Post.val (R := RB) (show Post X.K X.mg E RB H ρ Q (Res.ok true μ) from h) M rfl)⟩⟩
theorem ppts_one {e : Expr} {f : Ex} (h : PPT X E e f) : PPTs X E [e] f := ⟨pts_one h.pt⟩
theorem wipe_len (env : Env) : ∀ vs : List Nat, (PL.wipe env vs).length = env.length
  | [] => rfl
  | v :: vs => by unfold PL.wipe; rw [List.length_set, wipe_len env vs]
theorem EnvOk.wipe {K : PySem.W.Frag} {H : Hp} {ρ : List Addr} {env : Env} {σ : L2.St} (e : EnvOk K H ρ env σ) : ∀ vs : List Nat, EnvOk K H ρ (PL.wipe env vs) (L2.wipe σ vs)
  | [] => e
  | v :: vs => by
    have ih := EnvOk.wipe e vs
    refine ⟨by unfold PL.wipe L2.wipe; simp [ih.len], fun i p h => ?_⟩
    unfold PL.wipe at h
    unfold L2.wipe
    by_cases hv : v = i
    · subst hv
      by_cases hl : v < (PL.wipe env vs).length
      · rw [List.getElem?_set_self hl] at h; cases h
      · rw [List.getElem?_eq_none (by simpa using hl)] at h; cases h
    · rw [List.getElem?_set_ne hv] at h
      rw [List.getElem?_set_ne hv]
      exact ih.at' i p h
theorem wipe_at {α : Type} : ∀ (σ : List (Option α)) (vs : List Nat) (w : List (Option α) → List Nat → List (Option α)), (∀ σ, w σ [] = σ) → (∀ σ v vs, w σ (v :: vs) = (w σ vs).set v none) → ∀ j, (w σ vs)[j]? = if j ∈ vs ∧ j < σ.length then some none else σ[j]?
  | σ, [], w, h1, h2, j => by rw [h1]; simp
  | σ, v :: vs, w, h1, h2, j => by
    have ih := wipe_at σ vs w h1 h2
    have hl : ∀ us : List Nat, (w σ us).length = σ.length := fun us => by
      induction us with
      | nil => rw [h1]
      | cons u us ih => rw [h2, List.length_set, ih]
    rw [h2]
    by_cases e : v = j
    · subst e
      by_cases hv : v < σ.length
      · rw [List.getElem?_set_self (by rw [hl]; exact hv), if_pos ⟨by simp, hv⟩]
      · rw [List.getElem?_eq_none (by rw [List.length_set, hl]; omega), if_neg (fun z => hv z.2), List.getElem?_eq_none (by omega)]
    · rw [List.getElem?_set_ne e, ih j]
      by_cases hj : j ∈ vs ∧ j < σ.length
      · rw [if_pos hj, if_pos ⟨List.mem_cons_of_mem _ hj.1, hj.2⟩]
      · rw [if_neg hj, if_neg (fun z => hj ⟨(List.mem_cons.mp z.1).resolve_left (Ne.symm e), z.2⟩)]
theorem wipe_out {is vs : List Nat} {σ σ2 : L2.St} (h : OutOf is (L2.wipe σ vs) σ2) (hs : ∀ i ∈ is, i ∈ vs) : L2.wipe σ2 vs = L2.wipe σ vs := by
  have W := fun (σ : L2.St) j => wipe_at σ vs L2.wipe (fun _ => rfl) (fun _ _ _ => rfl) j
  have hl : σ2.length = σ.length := by rw [h.1, L2.wipe_length]
  apply List.ext_getElem?
  intro j
  rw [W, W]
  by_cases hj : j ∈ vs ∧ j < σ.length
  · rw [if_pos (by rw [hl]; exact hj), if_pos hj]
  · rw [if_neg (by rw [hl]; exact hj), if_neg hj]
    by_cases hv : j ∈ vs
    · have : σ.length ≤ j := by
        by_cases z : j < σ.length
        · exact absurd ⟨hv, z⟩ hj
        · omega
      rw [List.getElem?_eq_none (by omega), List.getElem?_eq_none this]
    · rw [h.2 j (fun z => hv (hs j z)), W, if_neg (fun z => hv z.1)]
theorem lc_read {K : PySem.W.Frag} {mg : Str → Option Value} {it : PL.It} {g : Tg} {is vs : List Nat} {ft fe : Ex} (hs : ∀ i ∈ is, i ∈ vs) {σ : L2.St} {H : Hp} {Q : VK} (h : tE K mg E (lc it g ft fe vs) σ H Q) :
    tLc (tI K mg E it) (tG K mg E is g) (tT K mg E ft) (tE K mg E fe) vs σ H Q := by
  obtain ⟨env, μ, ρ, eo, M, h⟩ := h
  refine ⟨env, μ, ρ, eo, M, (Post.bind (R := fun H' ρ' z J => ItOk K H' ρ' z J) h).imp fun J H1 ⟨z, m1, ρ1, _, l1, M1, hJ, q1⟩ => ?_⟩
  intro D hD
  obtain ⟨M1', L1'⟩ := M1.push (ho := .lst []) (o := .lst []) hD fun H' ρ' L e => ⟨[], e, .nil⟩
  have hn : (ρ1 ++ [D])[m1.length]? = some D := by rw [← M1.len, List.getElem?_append_right (Nat.le_refl _)]; simp
  refine ⟨fun i n H => n = z.items.length - i ∧ i ≤ z.items.length ∧ ∃ μ ρ, Lat K (upd H1 D (.lst [])) (ρ1 ++ [D]) H ρ ∧ EnvOk K H ρ env σ ∧ MemOk K H ρ μ ∧ Post K mg E (RP K) H ρ Q ((lcN z.lk g ft fe vs m1.length env (z.items.drop i) μ).bind fun _ μ2 => .ok (.ref m1.length) μ2),
    ⟨_, rfl, Nat.zero_le _, _, _, .refl _ _ _, eo.mono (l1.trans L1'), M1', q1.later L1'⟩, ?_⟩
  rintro i n H2 ⟨rfl, hi, μ2, ρ2, l2, e2, M2, q2⟩
  have nx : ∀ (H' : Hp) (μ' : Mem) (ρ' : List Addr), i < z.items.length → Lat K H2 ρ2 H' ρ' → MemOk K H' ρ' μ' → Post K mg E (RP K) H' ρ' Q ((lcN z.lk g ft fe vs m1.length env (z.items.drop (i + 1)) μ').bind fun _ μ2 => .ok (.ref m1.length) μ2) →
      ∃ μ ρ, Lat K (upd H1 D (.lst [])) (ρ1 ++ [D]) H' ρ ∧ EnvOk K H' ρ env σ ∧ MemOk K H' ρ μ ∧ Post K mg E (RP K) H' ρ Q ((lcN z.lk g ft fe vs m1.length env (z.items.drop (i + 1)) μ).bind fun _ μ2 => .ok (.ref m1.length) μ2) := fun H' μ' ρ' _ l M' q => ⟨μ', ρ', l2.trans l, e2.mono l, M', q⟩
  by_cases hlt : i < z.items.length
  · have hd : z.items.drop i = z.items[i] :: z.items.drop (i + 1) := List.drop_eq_getElem_cons hlt
    rw [hd] at q2
    unfold lcN at q2
    split at q2
    · rename_i hlk
      obtain ⟨go, yld⟩ := hJ.go H2 ρ2 μ2 i z.items[i] (L1'.trans l2) M2 hlk (List.getElem?_eq_getElem hlt)
      refine .inr ⟨go, fun H' => ∃ μ ρ, Lat K (upd H1 D (.lst [])) (ρ1 ++ [D]) H' ρ ∧ EnvOk K H' ρ env σ ∧ MemOk K H' ρ μ ∧ Post K mg E (RP K) H' ρ Q ((lcN z.lk g ft fe vs m1.length env (z.items.drop (i + 1)) μ).bind fun _ μ2 => .ok (.ref m1.length) μ2), fun H' hh => ⟨z.items.length - (i + 1), by omega, rfl, hlt, hh⟩, fun x H3 hy => ?_⟩
      obtain ⟨l3, M3, r3⟩ := yld x H3 hy
      refine ⟨PL.wipe env vs, μ2, ρ2, z.items[i], (e2.mono l3).wipe vs, M3, r3, ?_⟩
      rw [bind_bind] at q2
      refine (Post.bind (R := RG K is (L2.wipe σ vs)) (q2.later l3)).imp fun σ4 H4 ⟨env4, μ4, ρ4, _, l4, M4, ⟨e4, o4⟩, q4⟩ => ?_
      refine ⟨wipe_out o4 hs, ?_⟩
      rw [bind_bind] at q4
      simp only [bind_onB] at q4
      refine tT_bind (R' := RP K) (k1 := fun m => (((fe env4 m).bind fun q μ3 => match push1 m1.length q μ3 with
        | some μ4 => lcN z.lk g ft fe vs m1.length env (z.items.drop (i + 1)) μ4
        | none => .stuck).bind fun _ μ2 => Res.ok (PV.ref m1.length) μ2)) (k2 := fun m => (lcN z.lk g ft fe vs m1.length env (z.items.drop (i + 1)) m).bind fun _ μ2 => Res.ok (PV.ref m1.length) μ2) e4 M4 q4 fun t H5 μ5 ρ5 _ l5 e5 M5 q5 => ?_
      cases t with
      | false => exact nx H5 μ5 ρ5 hlt ((l3.trans l4).trans l5) M5 q5
      | true =>
        rw [if_pos rfl, bind_bind] at q5
        refine tE_bind e5 M5 q5 fun y H6 q μ6 ρ6 _ l6 e6 M6 r6 q6 => ?_
        have la : Lat K H2 ρ2 H6 ρ6 := ((l3.trans l4).trans l5).trans l6
        unfold push1 at q6
        cases e : μ6[m1.length]? with
        | none => rw [e] at q6; exact q6.elim
        | some o =>
          rw [e] at q6
          cases o with
          | lst acc =>
            simp only at q6
            by_cases hz : acc.length < SL
            · rw [if_pos hz] at q6
              have hn6 : ρ6[m1.length]? = some D := (l2.trans la).get hn
              obtain ⟨ys, k1, k2⟩ := M6.at' _ _ _ e hn6
              have L0 : Lat K H6 ρ6 (upd H6 D (.lst (ys ++ [y]))) ρ6 := ⟨⟨[], by simp⟩, .upd (fun xs q => by rw [k1] at q; cases q) fun ob xs q => by rw [k1] at q; cases q⟩
              obtain ⟨M7, L7⟩ := M6.set (ho := .lst (ys ++ [y])) (u := .lst (acc ++ [q])) e hn6 rfl ⟨ys ++ [y], upd_same, Reps.mono L0 _ _ (k2.append (.cons r6 .nil))⟩
              exact ⟨ys, k1, by rw [SL_eq, k2.length]; exact hz, nx _ _ ρ6 hlt (la.trans L7) M7 (Post.later q6 L7)⟩
            · rw [if_neg hz] at q6; exact q6.elim
          | _ => exact q6.elim
    · exact q2.elim
  · have e : i = z.items.length := by omega
    subst e
    rw [List.drop_eq_nil_of_le (Nat.le_refl _)] at q2
    unfold lcN at q2
    split at q2
    · rename_i hlk
      refine .inl ⟨hJ.stop H2 ρ2 μ2 (L1'.trans l2) M2 hlk, ?_⟩
      refine Post.val (R := RP K) (show Post K mg E (RP K) H2 ρ2 Q (Res.ok (.ref m1.length) μ2) from q2) M2 ?_
      show Rep K H2 ρ2 (.ref m1.length) (.ref D)
      simp only [Rep]
      exact ⟨D, l2.get hn, rfl⟩
    · exact q2.elim
/-- [elt for tg in iter if ..] as a value -/
theorem pp_lc {it : PL.It} {g : Tg} {is : List Nat} {ft fe : Ex} {own : List (Str × Nat)} (hc : X.calm = true) (hN : X.N.Nodup) (hi : PPI X E tg iter it) (ok : BlkOk X.N X.env.scope scope own)
    (hg : ∀ (s : Shared) (H : Hp) (C : Addr) (cl : List (Str × Addr)) (fp : List Addr), PPG (X.blk s H scope (compEnvC scope cl C X.env) fp) E tg is g) (ht : ∀ (s : Shared) (H : Hp) (C : Addr) (cl : List (Str × Addr)) (fp : List Addr), PPTs (X.blk s H scope (compEnvC scope cl C X.env) fp) E ifs ft)
    (he : ∀ (s : Shared) (H : Hp) (C : Addr) (cl : List (Str × Addr)) (fp : List Addr), PP (X.blk s H scope (compEnvC scope cl C X.env) fp) E elt fe) (hw : ∀ i ∈ is, i ∈ own.map (·.2) := by decide) (hs : ∀ x, foldedSetIterable iter X.env x = pure x := by intro _; rfl) :
    PP X E (.ListComp elt [⟨tg, iter, ifs, 0⟩] scope pos) (lc it g ft fe (own.map (·.2))) :=
  ⟨PE.imp (pe_lc hc hN hi.pi ok (fun s H C cl fp => (hg s H C cl fp).pg) (fun s H C cl fp => (ht s H C cl fp).pt) (fun s H C cl fp => (he s H C cl fp).pe) hs) fun _ _ _ h => lc_read hw h⟩
/-- name = [..] on one line -/
theorem pps_setLc (i : Nat) {y : Str} {py spos : Pos} {it : PL.It} {g : Tg} {is : List Nat} {ft fe : Ex} {own : List (Str × Nat)} (hc : X.calm = true) (hN : X.N.Nodup) (hi : PPI X E tg iter it) (ok : BlkOk X.N X.env.scope scope own)
    (hg : ∀ (s : Shared) (H : Hp) (C : Addr) (cl : List (Str × Addr)) (fp : List Addr), PPG (X.blk s H scope (compEnvC scope cl C X.env) fp) E tg is g) (ht : ∀ (s : Shared) (H : Hp) (C : Addr) (cl : List (Str × Addr)) (fp : List Addr), PPTs (X.blk s H scope (compEnvC scope cl C X.env) fp) E ifs ft)
    (he : ∀ (s : Shared) (H : Hp) (C : Addr) (cl : List (Str × Addr)) (fp : List Addr), PP (X.blk s H scope (compEnvC scope cl C X.env) fp) E elt fe) (hsw : swapsWith (.ListComp elt [⟨tg, iter, ifs, 0⟩] scope pos) (some (.Name y py)) spos.line X.env = pure true) (hy : X.N[i]? = some y := by rfl) (hyl : X.env.scope.names.lookup y = some .local := by rfl)
    (hw : ∀ i ∈ is, i ∈ own.map (·.2) := by decide) (hs : ∀ x, foldedSetIterable iter X.env x = pure x := by intro _; rfl) :
    PPs X E (.Assign [.Name y py] (.ListComp elt [⟨tg, iter, ifs, 0⟩] scope pos) spos) (setv i (lc it g ft fe (own.map (·.2)))) :=
  ⟨PS.imp (ps_setLc (i := i) hc hN hy hyl hsw hi.pi ok (fun s H C cl fp => (hg s H C cl fp).pg) (fun s H C cl fp => (ht s H C cl fp).pt) (fun s H C cl fp => (he s H C cl fp).pe) hs) fun D σ H h => by
    obtain ⟨env, μ, ρ, eo, M, h⟩ := h
    have h2 : tE X.K X.mg E (lc it g ft fe (own.map (·.2))) σ H (fun x H1 => gName i x σ H1 D.nx) := tE_of eo M h fun x H1 p m ρ1 _ l1 e1 M1 r1 q1 => ps_nxt (E := E) (mg := X.mg) q1 M1 (e1.set r1)
    exact lc_read hw h2⟩
end
end PL
end
section
set_option autoImplicit false
set_option Elab.async false
set_option linter.all false
set_option maxRecDepth 100000
set_option maxHeartbeats 1000000
/-! Defs, their calls, the law's end. -/
namespace PL
open PySem L2
section
variable {K : PySem.W.Frag} {mg : Str → Option Value} {E : XK} {H : Hp} {ρ : List Addr}
mutual
theorem rep_under : ∀ {p : PV} {x : V}, Rep K H ρ p x → p.under ρ.length = true
  | .non, _, _ => by simp only [PV.under]
  | .bl _, _, _ => by simp only [PV.under]
  | .int _, _, _ => by simp only [PV.under]
  | .str _, _, _ => by simp only [PV.under]
  | .cst _, _, _ => by simp only [PV.under]
  | .tup l, _, h => by
    obtain ⟨a, xs, _, _, h3⟩ := rep_tup h
    simp only [PV.under]
    exact reps_under h3
  | .ref n, _, h => by
    simp only [Rep] at h
    obtain ⟨a, h1, _⟩ := h
    simp only [PV.under, decide_eq_true_eq]
    exact (List.getElem?_eq_some_iff.mp h1).1
theorem reps_under : ∀ {ps : List PV} {xs : List V}, Reps K H ρ ps xs → PV.unders ρ.length ps = true
  | [], _, _ => by simp only [PV.unders]
  | p :: ps, _, h => by
    obtain ⟨y, ys, _, h1, h2⟩ := Reps.cons_iff.mp h
    simp only [PV.unders, rep_under h1, reps_under h2, Bool.and_self]
end
mutual
theorem rep_shrink {t : List Addr} : ∀ {p : PV} {x : V}, Rep K H (ρ ++ t) p x → p.under ρ.length = true → Rep K H ρ p x
  | .non, _, h, _ => by simpa only [Rep] using h
  | .bl _, _, h, _ => by simpa only [Rep] using h
  | .int _, _, h, _ => by simpa only [Rep] using h
  | .str _, _, h, _ => by simpa only [Rep] using h
  | .cst _, _, h, _ => by simpa only [Rep] using h
  | .tup l, _, h, u => by
    obtain ⟨a, xs, h1, h2, h3⟩ := rep_tup h
    simp only [PV.under] at u
    simp only [Rep]
    exact ⟨a, xs, h1, h2, reps_shrink h3 u⟩
  | .ref n, _, h, u => by
    simp only [Rep] at h ⊢
    simp only [PV.under, decide_eq_true_eq] at u
    obtain ⟨a, h1, h2⟩ := h
    rw [List.getElem?_append_left u] at h1
    exact ⟨a, h1, h2⟩
theorem reps_shrink {t : List Addr} : ∀ {p : List PV} {x : List V}, Reps K H (ρ ++ t) p x → PV.unders ρ.length p = true → Reps K H ρ p x
  | [], _, h, _ => by simpa only [Reps] using h
  | p :: ps, _, h, u => by
    obtain ⟨y, ys, rfl, h1, h2⟩ := Reps.cons_iff.mp h
    simp only [PV.unders, Bool.and_eq_true] at u
    exact .cons (rep_shrink h1 u.1) (reps_shrink h2 u.2)
end
theorem repK_vals : ∀ {l : List (Sum Int Str × PV)} {xs : List (Key × V)}, RepK K H ρ l xs → Reps K H ρ (l.map (·.2)) (xs.map (·.2)) ∧ l.map (·.1) = xs.map (·.1)
  | [], xs, h => by
    have : xs = [] := h
    subst this
    exact ⟨.nil, rfl⟩
  | p :: ps, xs, h => by
    obtain ⟨y, ys, rfl, h1, h2⟩ := h
    obtain ⟨h3, h4⟩ := repK_vals h2
    exact ⟨.cons h1 h3, by simp [h4]⟩
theorem repK_shrink {t : List Addr} : ∀ {l : List (Sum Int Str × PV)} {xs : List (Key × V)}, RepK K H (ρ ++ t) l xs → PV.unders ρ.length (l.map (·.2)) = true → RepK K H ρ l xs
  | [], xs, h, _ => h
  | p :: ps, xs, h, u => by
    obtain ⟨y, ys, rfl, h1, h2⟩ := h
    simp only [List.map_cons, PV.unders, Bool.and_eq_true] at u
    exact ⟨y, ys, rfl, rep_shrink h1 u.1, repK_shrink h2 u.2⟩
theorem repO_under {o : PO} {a : Addr} (h : RepO K H ρ o a) : o.under ρ.length = true := by
  cases o with
  | lst l => obtain ⟨xs, _, h⟩ := h; exact reps_under h
  | ro l => obtain ⟨xs, _, h⟩ := h; exact reps_under h
  | dct l => obtain ⟨xs, _, h⟩ := h; exact reps_under (repK_vals h).1
theorem repO_shrink {t : List Addr} {o : PO} {a : Addr} (h : RepO K H (ρ ++ t) o a) (u : o.under ρ.length = true) : RepO K H ρ o a := by
  cases o with
  | lst l => obtain ⟨xs, e, h⟩ := h; exact ⟨xs, e, reps_shrink h u⟩
  | ro l => obtain ⟨xs, e, h⟩ := h; exact ⟨xs, e, reps_shrink h u⟩
  | dct l => obtain ⟨xs, e, h⟩ := h; exact ⟨xs, e, repK_shrink h u⟩
theorem Post.gc {Q : VK} {μ : Mem} {r : Res PV} (h : Post K mg E (RP K) H ρ Q (gc μ r)) (M : MemOk K H ρ μ) : Post K mg E (RP K) H ρ Q r := by
  cases r with
  | ok p m =>
    intro x H' ρ' l M' rx
    unfold PL.gc at h
    simp only at h
    split at h
    · rename_i hg
      obtain ⟨g1, g2, g3⟩ := hg
      obtain ⟨t, rfl⟩ := l.pre
      have l' : Lat K H ρ H' ρ := ⟨⟨[], by simp⟩, l.keep⟩
      have hl := M.len
      refine h x H' ρ l' ⟨by simp; omega, fun n o a hn ha => ?_, fun n k a o u hn hk ho hu mo mu => ?_⟩ (rep_shrink rx (by rw [hl]; exact g2))
      · have hlt : n < μ.length := by
          have := (List.getElem?_eq_some_iff.mp ha).1
          omega
        rw [List.getElem?_take, if_pos hlt] at hn
        have r1 := M'.at' n o a hn (by rw [List.getElem?_append_left (by omega)]; exact ha)
        refine repO_shrink r1 ?_
        rcases g3 n hlt with e | ⟨o', e, ho'⟩
        · rw [hn] at e
          exact repO_under (M.at' n o a e.symm ha)
        · rw [hn] at e
          cases e
          rw [hl]
          exact ho'
      · have k1 : n < μ.length := by have := (List.getElem?_eq_some_iff.mp hn).1; omega
        have k2 : k < μ.length := by have := (List.getElem?_eq_some_iff.mp hk).1; omega
        rw [List.getElem?_take, if_pos k1] at ho
        rw [List.getElem?_take, if_pos k2] at hu
        exact M'.inj n k a o u (by rw [List.getElem?_append_left (by omega)]; exact hn) (by rw [List.getElem?_append_left (by omega)]; exact hk) ho hu mo mu
    · exact h x H' ρ' l M' rx
  | exc x m => exact h
  | stuck => exact h
end
/-- what a def promises by its pure function -/
def spP (K : PySem.W.Frag) (mg : Str → Option Value) (n : Nat) (m : Fn) : Sp := fun vs H Q E => ∃ args μ ρ, args.length = n ∧ MemOk K H ρ μ ∧ Reps K H ρ args vs ∧ Post K mg E (RP K) H ρ Q (m args μ)
/-- a def keeps its promise where the guards of repr are known -/
structure FnG (P : Program) (w : World) (K : PySem.W.Frag) (mg : Str → Option Value) (base : Heap) (CX : CXT) (k : Nat) (f : Addr) (fd : FuncData) (ps : List Str) (sp : Sp) : Prop where
  len : ∀ vs H Q E, sp vs H Q E → vs.length = ps.length
  run : ∀ (A : Around) (outer : List PySem.Env) (s : Shared) (H : Hp) (args : Args) (us : List Value) (vs : List V) (Q : VK) (E : XK), Room k A → A.guards = some [] → Env0 P w K mg base A outer s H → BindsTo s fd args (ps.zip us) → Vals vs us → sp vs H Q E →
    codeAny (model P w) A (.call (.ref f) args) (CR CX outer P w H s Q E) s
theorem fnG_of {CX : CXT} {P : Program} {w : World} {K : PySem.W.Frag} {mg : Str → Option Value} {base : Heap} {k : Nat} {f : Addr} {name qual : Str} {params : Arguments} {body : List Stmt} {scope : Scope} {dV kV doc pm cdv ct oc : Value} {an od : Option Addr}
    {osl : Array (Option Value)} {N ps : List Str} {sp : Sp} (lk : K.lookup f = some ⟨oc, od, .func (PySem.W.fnOf name qual params body scope dV kV doc pm an cdv ct), osl⟩) (hcd : PySem.W.codeIn K cdv qual = true) (S : FnScope N ps scope)
    (len : ∀ vs H Q E, sp vs H Q E → vs.length = ps.length)
    (hbody : ∀ (A : Around) (outer : List PySem.Env) (s : Shared) (H : Hp) (vs : List V) (Q : VK) (E : XK), Room k (A.deeper (PyProof.Rows.envOfC qual scope s.heap.objs.size f cdv)) → A.guards = some [] → sp vs H Q E →
      ∃ t, PSs (cxOf CX P w K mg base N qual scope f cdv A outer s H E) body t ∧ t { nx := fun _ H' => Q .non H', rt := Q } (L2.start N vs) H) :
    FnG P w K mg base CX (k + 1) f (PySem.W.fnOf name qual params body scope dV kV doc pm an cdv ct) ps sp := by
  refine ⟨len, fun A outer s H args us vs Q E hr hgd e0 hb r hsp => ?_⟩
  have hl := len _ _ _ _ hsp
  have KX : K.In s.heap := e0.mod.kin.keeps fun b o e => (e0.bs b o e).1
  have lim : s.heap.NoLimit := e0.mod.nolimit.keeps fun b o e => (e0.bs b o e).1
  have hkind : ∀ y ∈ ps.zip us, scope.names.lookup y.1 = some .local ∨ (scope.names.lookup y.1 = some .cell ∧ ((cellsFrom (s.heap.objs.size + 1) scope.names []).lookup y.1).isSome = true) := fun ⟨n, v⟩ hy => by
    rcases S.par n (List.of_mem_zip hy).1 with q | q
    · exact .inl q
    · exact .inr ⟨q, PySem.W.cellsFrom_some _ _ _ (.inl q)⟩
  refine codeAny_call_function hr.depth (KX _ _ lk) rfl S.co S.gen rfl (PySem.W.codeRec_of KX hcd) (hb _ _ _ _ ?_)
  refine wpAny_newFunctionEnv_cells S.kind hkind fun env he s1 x => ?_
  subst he
  refine ⟨lim.keeps x.toInCall.keep, codeAny_func ?_⟩
  obtain ⟨t, ht, hq⟩ := hbody A outer s H vs Q E (hr.deeper _) hgd hsp
  have I : Inv (cxOf CX P w K mg base N qual scope f cdv A outer s H E) [] (L2.start N vs) H s1 := inv_start S hr.hd e0 hl r x
  refine wpAny_mono (ht.run [] s1 (L2.start N vs) H _ I hq) (fun fl s' hs => ?_) fun e s' hs => hs
  have fin : ∀ {σ' : L2.St} {H' : Hp} {v : V} {u : Value}, Inv (cxOf CX P w K mg base N qual scope f cdv A outer s H E) [] σ' H' s' → RelV v u → Q v H' → CE outer P w H s Q u s' :=
    fun {σ' H' v u} J rv q => ⟨v, H', J.os, J.bare, J.base, J.hok, rv, q⟩
  cases fl with
  | ret u =>
    obtain ⟨v, σ', H', J, rv, q⟩ := hs
    exact fin J rv q
  | next =>
    obtain ⟨σ', H', J, q⟩ := hs
    exact fin (v := V.non) (u := Value.none) J rfl q
  | brk =>
    obtain ⟨_, _, _, q⟩ := hs
    exact False.elim q
  | cont =>
    obtain ⟨_, _, _, q⟩ := hs
    exact False.elim q
/-- the def st of the module under the name x does what the pure m says -/
structure FnM (P : Program) (w : World) (K : PySem.W.Frag) (mg : Str → Option Value) (base : Heap) (CX : CXT) (k : Nat) (x : Str) (st : Stmt) (ps : List Str) (m : Fn) : Prop where
  ex : ∃ (f : Addr) (fd : FuncData) (qual : Str), L2.Fun K x qual st f fd ∧ mg x = some (.ref f) ∧ FnG P w K mg base CX k f fd ps (spP K mg ps.length m)
theorem start_env {K : PySem.W.Frag} {H : Hp} {ρ : List Addr} {N : List Str} {args : List PV} {vs : List V} {n : Nat} (hn : N.length = n) (r : Reps K H ρ args vs) : EnvOk K H ρ (args.map some ++ List.replicate (n - args.length) none) (L2.start N vs) := by
  refine ⟨by simp [L2.start, r.length, hn], fun i p h => ?_⟩
  unfold L2.start
  by_cases hi : i < args.length
  · rw [List.getElem?_append_left (by simpa using hi)] at h
    rw [List.getElem?_map] at h
    cases e : args[i]? with
    | none => rw [e] at h; cases h
    | some q =>
      rw [e] at h
      simp only [Option.map_some, Option.some.injEq] at h
      subst h
      obtain ⟨x, h1, h2⟩ := r.get e
      refine ⟨x, ?_, h2⟩
      rw [List.getElem?_append_left (by simp [r.length]; exact hi), List.getElem?_map, h1]
      rfl
  · rw [List.getElem?_append_right (by simpa using hi)] at h
    have := List.getElem?_replicate (n := n - args.length) (a := (none : Option PV)) (i := i - (args.map some).length)
    rw [this] at h
    split at h <;> cases h
/-- A DEF: its body as a pure statement -/
theorem fn_pure {P : Program} {w : World} {K : PySem.W.Frag} {mg : Str → Option Value} {base : Heap} {k n : Nat} {x qual : Str} {st : Stmt} {f : Addr} {fd : FuncData} {N ps : List Str} {b : Sm} (F : L2.Fun K x qual st f fd) (hm : mg x = some (.ref f)) (S : FnScope N ps (defScope st)) (hn : N.length = n)
    (body : ∀ (cdv : Value) (A : Around) (outer : List PySem.Env) (s : Shared) (H : Hp) (E : XK), Room k (A.deeper (PyProof.Rows.envOfC qual (defScope st) s.heap.objs.size f cdv)) → A.guards = some [] →
      PPb (cxOf CX0 P w K mg base N qual (defScope st) f cdv A outer s H E).nox E (defBody st) b) : FnM P w K mg base CX0 (k + 1) x st ps (fn n b) := by
  refine ⟨f, fd, qual, F, hm, ?_⟩
  obtain ⟨oc, od, kV, doc, pm, an, cdv, ct, osl, rfl, lk, hcd⟩ := F.ex
  refine fnG_of lk hcd S (fun vs H Q E h => ?_) fun A outer s H vs Q E hr hg hsp => ?_
  · obtain ⟨args, μ, ρ, hl, _, r, _⟩ := h
    rw [r.length, hl]
  · refine ⟨_, (body cdv A outer s H E hr hg).ps.nox, ?_⟩
    obtain ⟨args, μ, ρ, hl, M, r, h⟩ := hsp
    refine ⟨_, μ, ρ, start_env hn r, M, ?_⟩
    have h2 : Post K mg E (RP K) H ρ Q (run n b args μ) := Post.gc h M
    unfold run at h2
    show PostS K mg E H ρ _ (b (args.map some ++ List.replicate (n - args.length) none) μ)
    cases e : b (args.map some ++ List.replicate (n - args.length) none) μ with
    | nx env m => rw [e] at h2; exact fun σ' H' ρ' l M' _ => h2 .non H' ρ' l M' rnon
    | rt p m => rw [e] at h2; exact fun x H' ρ' l M' r' => h2 x H' ρ' l M' r'
    | bk env m => rw [e] at h2; exact h2.elim
    | ct env m => rw [e] at h2; exact h2.elim
    | exc x m => rw [e] at h2; exact h2
    | stuck => rw [e] at h2; exact h2.elim
section
variable {X : Cx} {E : XK} {CX : CXT} {k : Nat} {e : Expr} {es : List Expr} {pos : Pos} {m : Fn} {ps : List Str} {st : Stmt}
theorem run_fnG {f : Addr} {fd : FuncData} {args : Args} {pins : List (Addr × Obj)} {σ : L2.St} {H : Hp} {s : Shared} {Q : VK} {us : List Value} {vs : List V} {sp : Sp} (F : FnG X.prog X.w X.K X.mg X.base CX k f fd ps sp) (hr : Room k X.A) (hgd : X.A.guards = some []) (hb : BindsTo s fd args (ps.zip us)) (hx : Passes CX X E)
    (I : Inv X pins σ H s) (r : Vals vs us) (h : sp vs H Q E) : codeAny (model X.prog X.w) X.A (.call (.ref f) args) (fun r s' => match r with | .ok (.ret u) => EP X pins σ Q u s' | .ok _ => False | .error e => X.xe e s') s := by
  refine codeAny_mono (F.run X.A X.stack s H args us vs Q E hr hgd I.env0 hb r h) fun r s' hq => ?_
  cases r with
  | error e => exact hx pins σ H s e s' I hq
  | ok fl =>
    cases fl with
    | ret u => exact I.after hq
    | next => exact False.elim hq
    | brk => exact False.elim hq
    | cont => exact False.elim hq
theorem call_fnG {f : Addr} {fd : FuncData} {pins : List (Addr × Obj)} {σ : L2.St} {H : Hp} {s : Shared} {Q : VK} {us pus : List Value} {kw : List (Str × Value)} {vs : List V} {sp : Sp} (F : FnG X.prog X.w X.K X.mg X.base CX k f fd ps sp) (hr : Room k X.A) (hgd : X.A.guards = some []) (hb : BindsTo s fd ⟨pus, kw⟩ (ps.zip us)) (hx : Passes CX X E)
    (I : Inv X pins σ H s) (r : Vals vs us) (h : sp vs H Q E) : wpAny (model X.prog X.w) X.A (call (.ref f) pus kw) (EP X pins σ Q) X.xe s :=
  wpAny_call (codeAny_mono (run_fnG F hr hgd hb hx I r h) fun r s' hq => by
    cases r with
    | error e => exact hq
    | ok fl =>
      cases fl with
      | ret u => exact hq
      | next => exact False.elim hq
      | brk => exact False.elim hq
      | cont => exact False.elim hq)
/-- how a def's positional arguments bind -/
def Bd (x : Str) (st : Stmt) (ps : List Str) : Prop := ∀ (qual : Str) (kV doc pm : Value) (an : Option Addr) (cdv ct : Value) (us : List Value), us.length = ps.length → bindArgs (PySem.W.fnOf x qual (defArgs st) (defBody st) (defScope st) .none kV doc pm an cdv ct) ⟨us, []⟩ = pure (ps.zip us)
theorem pp_call {x : Str} {g : Ag} {p : Pos} {j : Nat} (F : FnM X.prog X.w X.K X.mg X.base CX j x st ps m) (B : Bd x st ps) (hr : Room k X.A) (hj : j ≤ k) (hgd : X.A.guards = some []) (hx : Passes CX X E) (ha : PPA X E (e :: es) g) (hl : (e :: es).length = ps.length := by rfl) (hg : Gl X x := by rfl) (hdb : (x == ("__debug__" : Str)) = false := by decide)
    (he : starEach (e :: es) X.env = (false, eval e X.env) :: starEach es X.env := by rfl) (hpl : (backTo pos (starEach es X.env)).any (·.1) = false := by rfl) : PP X E (.Call (.Name x p) (e :: es) [] pos) (app m g) := ⟨⟨fun pins s σ H Q I h => by
  obtain ⟨f, fd, qual, FF, hm, G⟩ := F.ex
  obtain ⟨env, μ, ρ, eo, M, h⟩ := h
  have h1 : tA X.K X.mg E g σ H (fun vs H1 => spP X.K X.mg ps.length m vs H1 Q E) := tA_bind eo M h fun xs H1 as μ1 ρ1 eg l1 e1 M1 r1 q1 => ⟨as, μ1, ρ1, by rw [ha.len _ _ _ _ eg, hl], M1, r1, q1⟩
  refine wpAny_Call_Name_kw (ld_glob I hg hm ?_ hdb)
  refine PySem.W.callWith_K (h₀ := X.base) I.ok.mod.kin FF.kp (thn (ha.pa.run pos pins s σ H _ I h1) fun us s1 ⟨vs, H1, I1, r, q⟩ => ⟨I1.kIn, ?_⟩) he hpl
  have hl2 : us.length = ps.length := by rw [← r.length]; exact G.len _ _ _ _ q
  obtain ⟨oc, od, kV, doc, pm, an, cdv, ct, osl, rfl, lk, hcd⟩ := FF.ex
  exact call_fnG G (hr.mono hj) hgd (.of_eq (B qual kV doc pm an cdv ct us hl2)) hx I1 r q⟩⟩
end
end PL
end
section
set_option autoImplicit false
set_option Elab.async false
set_option linter.all false
set_option maxRecDepth 100000
set_option maxHeartbeats 2000000
/-! enumerate of a tuple. -/
namespace PL
section
open PySem
open PySem.Sem (wp)
open PySem.AutoSeq1 (wpAny_loadPart')
theorem meets_enumT (l : Addr) (items : Array Value) (n : Nat) (dct : Option Addr) (sl : Array (Option Value)) :
    Meets (Builtin.«enumerate.__new__» ⟨[.type "enumerate", .ref l], []⟩) (fun _ R s => s.heap.get? l = some { cls := .type "tuple", dict := dct, data := .seq items n, slots := sl } ∧
      R (.ok (.ret (.ref (s.heap.push { cls := .type "tuple_iterator", data := .fields #[.ref l, .int 0 0] }).objs.size)))
        { s with heap := (s.heap.push { cls := .type "tuple_iterator", data := .fields #[.ref l, .int 0 0] }).push { cls := .type "enumerate", data := .fields #[.none, .bool false, .ref s.heap.objs.size, rawInt 0, .none, .none] } }) :=
  .of_wp fun prog w A R s h => by
    obtain ⟨hp, g, d, tk, os⟩ := s; obtain ⟨hl, h⟩ := h
    have hsub := sub_enumerate
    have hL : Heap.IsTuple (Shared.heap ⟨hp, g, d, tk, os⟩) l items := ⟨_, hl, rfl, n, rfl⟩
    wp_walk using wpAny_loadPart' hl
    refine wpAny_stack_any fun st => wpAny_pure ?_
    split
    · rename_i c _ _ _ _ _
      cases (c == Value.type "enumerate")
      · wp_walk using wpAny_loadPart' hl, wpAny_pyIter_tuple hL
        exact ⟨_, rfl, h⟩
      · wp_walk using wpAny_loadPart' hl, wpAny_pyIter_tuple hL
        exact ⟨_, rfl, h⟩
    · wp_walk using wpAny_loadPart' hl, wpAny_pyIter_tuple hL
      exact ⟨_, rfl, h⟩
section
variable {prog : Program} {w : World} {A : Around} {E : Value → Shared → Prop} {s : Shared}
theorem call_enumT {l : Addr} {items : Array Value} {Q : Value → Shared → Prop} (hL : s.heap.IsTuple l items)
    (h : ∀ h', IsEnum h' (s.heap.objs.size + 1) s.heap.objs.size 0 .none → h'.IsTupleIter s.heap.objs.size l 0 → h'.objs.size = s.heap.objs.size + 2 →
      (∀ b o, s.heap.get? b = some o → h'.get? b = some o) → Q (.ref (s.heap.objs.size + 1)) { s with heap := h' }) :
    wpAny (model prog w) A (call (.type "enumerate") [.ref l]) Q E s := by
  obtain ⟨⟨c, dct, dt, sl⟩, hl, hc, n, hd⟩ := hL
  replace hc : c = .type "tuple" := hc
  replace hd : dt = .seq items n := hd
  subst hc hd
  refine callType_new F.called_enumerate (by decide) (F.typeCall_enumerate_1 _) (F.newCall_enumerate_1 _) (fun obj => F.args_object_init_2 obj _) F.entry_enumerate_new
    (meets_enumT l items n dct sl) ⟨hl, ?_⟩
  have hz : (s.heap.push { cls := .type "tuple_iterator", data := .fields #[.ref l, .int 0 0] }).objs.size = s.heap.objs.size + 1 := Heap.size_push ..
  show _ ∧ _
  rw [hz]
  have he : IsEnum ((s.heap.push { cls := .type "tuple_iterator", data := .fields #[.ref l, .int 0 0] }).push
      { cls := .type "enumerate", data := .fields #[.none, .bool false, .ref s.heap.objs.size, rawInt 0, .none, .none] }) (s.heap.objs.size + 1) s.heap.objs.size 0 .none := by
    have := Heap.get?_push_size (s.heap.push { cls := .type "tuple_iterator", data := .fields #[.ref l, .int 0 0] })
      (o := { cls := .type "enumerate", data := .fields #[.none, .bool false, .ref s.heap.objs.size, rawInt 0, .none, .none] }) rfl
    rw [hz] at this; exact this
  refine ⟨⟨_, he, rfl⟩, h _ he ⟨_, Heap.get?_push_of_some _ (Heap.get?_push_size _ rfl), rfl, rfl⟩ (by rw [Heap.size_push, hz]) fun b o x => Heap.get?_push_of_some _ (Heap.get?_push_of_some _ x)⟩
theorem enum_endT {e it l : Addr} {i : Nat} {items : Array Value} {old : Value} {Q : Option Value → Shared → Prop} (hh : A.handled = none)
    (he : IsEnum s.heap e it i old) (hit : s.heap.IsTupleIter it l i) (hl : s.heap.IsTuple l items) (hx : items[i]? = none)
    (hQ : ∀ h', Heap.ExtBut it s.heap h' → Q none { s with heap := h' }) : wpAny (model prog w) A (pyNext (.ref e)) Q E s := by
  have hT : s.TypeIs (.ref e) "enumerate" := ⟨_, he, rfl⟩
  unfold pyNext
  refine wpAny_bind (wpAny_attempt (wpAny_callSpecial?_slot (name := Str.ofString "__next__") hT F.slot_enumerate_next
    (wpAny_call_entry F.slot_enumerate_next hT F.entry_enumerate_next ?_ (F.args_enumerate_next_1 _))))
  show wpAny _ _ (field (.ref e) 2 >>= _) _ _ _
  refine wpAny_bind (wpAny_field he rfl (x := .ref it) rfl ?_)
  refine wpAny_bind (wpAny_nextOf_tuple_end hh hit hl hx fun h' x he' hx' => ?_)
  obtain ⟨o, ho, hc⟩ := hx'
  refine wpAny_bind (wpAny_isInstance (T := "StopIteration") (b := true) ⟨o, ho, hc⟩ isSubtype_stop ?_)
  exact wpAny_pure (hQ _ he')
end
end
section
open PySem PySem.Spec PyProof.Rows L2
/-- the tuple at a at each turn, each item in a new pair -/
def IteT (K : PySem.W.Frag) (a : Addr) : L2.It :=
  ⟨fun i H => ∃ (xs : List V) (x : V), SqT K H a xs ∧ xs[i]? = some x, fun i H v H' => ∃ T x, v = .ref T ∧ H T = none ∧ H' = upd H T (.tup [.int (i : Nat), x]) ∧ ∀ xs, SqT K H a xs → xs[i]? = some x, fun i H => ∃ xs : List V, SqT K H a xs ∧ xs.length ≤ i⟩
theorem turn_enumT {P : Program} {w : World} {K : PySem.W.Frag} {elts : List Expr} {kk : Nat} {tpos : Pos} (a e it : Addr) :
    Turn P w K (.Tuple elts kk tpos) (IteT K a) [e, it] e (fun i h => (∃ old, IsEnum h e it ((i : Nat) : Int) old) ∧ h.IsTupleIter it a i ∧ e ≠ it ∧ e ≠ a ∧ it ≠ a) where
  mem := by simp
  obj := fun i h st b hb => by
    obtain ⟨⟨old, he⟩, ⟨o, ho, hc, hd⟩, _⟩ := st
    have e' : b = e ∨ b = it := by simpa using hb
    rcases e' with z | z
    · rw [z]; exact ⟨_, he, fun v q => nomatch q⟩
    · rw [z]; exact ⟨o, ho, fun v q => by rw [hd] at q; cases q⟩
  keep := fun i h h' st k => let ⟨⟨old, he⟩, hi, hne⟩ := st; ⟨⟨old, k e (by simp) _ he⟩, hi.at fun o q => k it (by simp) o q, hne⟩
  item := by
    intro X hP hw hK hc i pins s σ H E I hf st hg
    subst hP hw hK
    obtain ⟨⟨old, he⟩, hit, hne, hea, hia⟩ := st
    obtain ⟨xs, x, hq, hx⟩ := hg
    obtain ⟨its, rv, p, hz⟩ := I.tuple hq
    obtain ⟨u, hu, ru⟩ := rv.get hx
    have hel : e < s.heap.objs.size := Heap.lt_size he
    have hil : it < s.heap.objs.size := by obtain ⟨_, q, _⟩ := hit; exact Heap.lt_size q
    have hlt : i < its.toArray.size := by
      have := (List.getElem?_eq_some_iff.mp hu).1
      simpa using this
    refine wpAny_pyNext_enum_itemD (Draws.tuple (A := X.A.in1) (show X.A.in1.handled = none from I.ok.hd hc) it a (Ne.symm hia) its.toArray) he ⟨hit, p⟩ hlt hne (by simp [hne, hea]) fun y h' tk hy ho hst' hT hsz hk => ?_
    obtain rfl : y = u := by
      have h1 : its[i]? = some y := by simpa using hy
      rw [hu] at h1
      exact (Option.some.inj h1).symm
    refine ⟨_, rfl, wpAny_letOwnedTupleGo_enum (s := { s with heap := h', toks := tk + 1 }) ho fun h'' he' sb => ?_⟩
    have hT2 : h''.get? s.heap.objs.size = some { cls := .type "tuple", data := .seq #[.int i tk, y] } := (sb.2 _ (Nat.ne_of_gt hel)).trans hT
    have new : ObjOk X.prog X.w (upd H s.heap.objs.size (.tup [.int (i : Nat), x])) h'' s.heap.objs.size (.tup [.int (i : Nat), x]) :=
      ⟨by show 2 ≤ sizeLine; decide, [.int i tk, y], .cons ⟨_, rfl⟩ (.cons ru .nil), ⟨_, hT2, rfl, _, rfl⟩⟩
    have I1 : Inv X pins σ (upd H s.heap.objs.size (.tup [.int (i : Nat), x])) { s with heap := h'', toks := tk + 1 } :=
      I.turnedNew (ch := [e, it]) (fun b ob hb q => (sb.2 b (fun z => hb (by simp [z]))).trans (hk b ob (fun z => hb (by simp [z])) (fun z => hb (by simp [z])) q)) hf (Nat.le_refl _) new
    refine ⟨.ref s.heap.objs.size, _, I1, rfl, ⟨_, x, rfl, I.hok.fresh (Nat.le_refl _), rfl, fun ys hy => by rw [I.tuple_inj hy hq]; exact hx⟩, ⟨⟨y, ?_⟩, hst'.1.at fun o q => (sb.2 it (Ne.symm hne)).trans q, hne, hea, hia⟩, fun b hb => ?_⟩
    · have e1 : ((i + 1 : Nat) : Int) = (i : Int) + 1 := by omega
      rw [e1]; exact he'
    · have hb' : b < s.heap.objs.size := by
        have e' : b = e ∨ b = it := by simpa using hb
        rcases e' with z | z
        · rw [z]; exact hel
        · rw [z]; exact hil
      rw [upd_ne (Nat.ne_of_lt hb')]
      exact (hf b hb).1
  done := by
    intro X hP hw hK hc i pins s σ H E I hf st hg
    subst hP hw hK
    obtain ⟨⟨old, he⟩, hit, hne, hea, hia⟩ := st
    obtain ⟨xs, hq, hx⟩ := hg
    obtain ⟨its, rv, p, hz⟩ := I.tuple hq
    obtain ⟨f0, f1, f2, f3, f4, f5⟩ := hf it (by simp)
    have hl := rv.length
    exact enum_endT (I.ok.hd hc) he hit p (by simp; omega) fun h' eb => ⟨rfl, I.turned (t' := s.toks) (fun b o hb q => eb b o hb q) f0 f1 f3 f4 f5⟩
  self := fun A i s Q E st h => let ⟨⟨_, he⟩, _⟩ := st; wpAny_pyIter_enum he h
def iEnumT (K : PySem.W.Frag) (ta : TA) : TI := fun σ H R => ta σ H fun vs H1 => ∃ a xs, vs = [.ref a] ∧ SqT K H1 a xs ∧ R (IteT K a) H1
theorem pi_enumT {X : Cx} {e : Expr} {ta : TA} {p pos tpos : Pos} {elts : List Expr} {kk : Nat} (hg : Gl X "enumerate") (hm : X.mg "enumerate" = none) (ha : PA X [e] ta) (hs : starEach [e] X.env = [(false, eval e X.env)] := by rfl) :
    PI X (.Tuple elts kk tpos) (.Call (.Name "enumerate" p) [e] [] pos) (iEnumT X.K ta) := by
  refine ⟨fun pins s σ H R I h => ?_⟩
  refine Call_ (ld_blt I hg hm boot_enumerate (PyProof.Rows.callWith_type1 (thn (ha.run pos pins s σ H _ I h) fun us s1 ⟨vs, H1, I1, r1, q1⟩ => ?_) hs rfl))
  obtain ⟨a, xs, ex, hq, q⟩ := q1
  subst ex
  cases r1 with
  | cons r rr =>
    cases rr
    cases r
    obtain ⟨its, rv, p', hz⟩ := I1.tuple hq
    have hlt : a < s1.heap.objs.size := by obtain ⟨o, h1, _⟩ := p'; exact Heap.lt_size h1
    refine call_enumT p' fun h' he hit hsz hk => wpAny_pyIter_enum he ?_
    have I2 : Inv X pins σ H1 { s1 with heap := h' } := I1.kept (t' := s1.toks) hk
    refine ⟨s1.heap.objs.size + 1, [s1.heap.objs.size + 1, s1.heap.objs.size], _, _, H1, rfl, I2, turn_enumT a (s1.heap.objs.size + 1) s1.heap.objs.size, ⟨⟨.none, he⟩, hit, Nat.succ_ne_self _, Nat.ne_of_gt (Nat.lt_succ_of_lt hlt), Nat.ne_of_gt hlt⟩, fun b hb => ?_, q⟩
    have e' : b = s1.heap.objs.size + 1 ∨ b = s1.heap.objs.size := by simpa using hb
    have hle : s1.heap.objs.size ≤ b := by
      rcases e' with z | z
      · rw [z]; exact Nat.le_add_right _ _
      · rw [z]; exact Nat.le_refl _
    exact I1.fpOk hle (I1.hok.fresh hle)
end
section
open PySem L2
theorem itOk_enumT {K : PySem.W.Frag} {H : Hp} {ρ : List Addr} {l : List PV} {a : Addr} {xs : List V} (s : SqT K H a xs) (r : Reps K H ρ l xs) : ItOk K H ρ ⟨enumL 0 l, []⟩ (IteT K a) where
  go := fun H1 ρ1 μ1 i p l1 M1 lk hi => by
    obtain ⟨p1, g1, rfl⟩ := enumL_get hi
    have s1 := l1.keep a xs s
    obtain ⟨x, h1, h2⟩ := r.get g1
    refine ⟨⟨xs, x, s1, h1⟩, fun z H' hy => ?_⟩
    obtain ⟨T, x', rfl, hT, rfl, e1⟩ := hy
    have e1 := e1 xs s1
    rw [h1] at e1
    cases e1
    have q := M1.other (ho := .tup [.int (i : Nat), x]) hT
    refine ⟨q.2, q.1, rep_pair q.2 ?_ (Rep.mono l1 _ _ h2)⟩
    rw [Nat.zero_add]
    exact rint
  stop := fun H1 ρ1 μ1 l1 M1 lk => by
    refine ⟨xs, l1.keep a xs s, ?_⟩
    show xs.length ≤ (enumL 0 l).length
    rw [enumL_len, r.length]
    exact Nat.le_refl _
variable {X : Cx} {E : XK} {a : Expr} {fa : Ex} {pos : Pos}
theorem ppi_enum {elts : List Expr} {kk : Nat} {tpos p : Pos} (hm : X.mg "enumerate" = none) (h : PP X E a fa) (hg : Gl X "enumerate" := by rfl) (hs : starEach [a] X.env = [(false, eval a X.env)] := by rfl) :
    PPI X E (.Tuple elts kk tpos) (.Call (.Name "enumerate" p) [a] [] pos) (iEnum fa) :=
  ⟨PI.imp (PI.or (pi_enum hg hm (pa_cons h.pe pa_nil (by rw [hs]; rfl)) hs) (pi_enumT hg hm (pa_cons h.pe pa_nil (by rw [hs]; rfl)) hs)) fun σ H R hh => by
  obtain ⟨env, μ, ρ, eo, M, hh⟩ := hh
  cases z : fa env μ with
  | ok p m =>
    have hz : Post X.K X.mg E (fun H' ρ' z J => ItOk X.K H' ρ' z J) H ρ R (enumOf p m) := by
      unfold iEnum at hh
      rw [z] at hh
      exact hh
    cases p with
    | tup l =>
      refine .inr (pa1 ⟨env, μ, ρ, eo, M, ?_⟩)
      rw [z]
      intro x H1 ρ1 l1 M1 r1
      obtain ⟨a, xs, rfl, k1, k2⟩ := rep_tup r1
      exact ⟨a, xs, rfl, k1, hz (IteT X.K a) H1 ρ1 l1 M1 (itOk_enumT k1 k2)⟩
    | ref n =>
      simp only [enumOf] at hz
      split at hz
      · rename_i l hl
        refine .inl (pa1 ⟨env, μ, ρ, eo, M, ?_⟩)
        rw [z]
        intro x H1 ρ1 l1 M1 r1
        obtain ⟨a, xs, rfl, k1, k2, _⟩ := getL_ref M1 r1 hl
        obtain ⟨b, hb, e⟩ := rep_ref M1 r1
        cases e
        exact ⟨a, xs, rfl, k1, hz (Ite X.K a) H1 ρ1 l1 M1 (itOk_enumL hb)⟩
      · exact hz.elim
    | _ => exact hz.elim
  | exc x m =>
    unfold iEnum at hh
    rw [z] at hh
    exact .inl (pa1 ⟨env, μ, ρ, eo, M, by rw [z]; exact hh⟩)
  | stuck =>
    unfold iEnum at hh
    rw [z] at hh
    exact hh.elim⟩
end
end PL
end
section
set_option autoImplicit false
set_option Elab.async false
set_option linter.all false
set_option maxRecDepth 100000
set_option maxHeartbeats 2000000
/-! Calls with keywords; the law's end. -/
namespace PL
open PySem L2
section
variable {X : Cx} {E : XK} {CX : CXT} {k : Nat} {e : Expr} {es : List Expr} {pos : Pos} {m : Fn} {ps : List Str} {st : Stmt}
/-- the values of keywords -/
structure PPK (X : Cx) (E : XK) (kws : List Keyword) (f : Ag) : Prop where
  pk : PK X kws (tA X.K X.mg E f)
  len : ∀ env μ as μ', f env μ = .ok as μ' → as.length = kws.length
theorem PK.imp {kws : List Keyword} {t t' : TA} (h : PK X kws t) (i : ∀ σ H Q, t' σ H Q → t σ H Q) : PK X kws t' := ⟨fun p pins s σ H Q I q => h.run p pins s σ H Q I (i σ H Q q)⟩
theorem ac_len {fa : Ex} {f : Ag} {n : Nat} (h : ∀ env μ as μ', f env μ = .ok as μ' → as.length = n) : ∀ env μ as μ', ac fa f env μ = .ok as μ' → as.length = n + 1 := fun env μ as μ' e => by
  unfold ac at e
  cases z : fa env μ with
  | ok p m =>
    rw [z, Res.bind_ok] at e
    cases z2 : f env m with
    | ok qs m2 =>
      rw [z2, Res.bind_ok] at e
      cases e
      simp [h _ _ _ _ z2]
    | exc x m2 => rw [z2] at e; cases e
    | stuck => rw [z2] at e; cases e
  | exc x m => rw [z] at e; cases e
  | stuck => rw [z] at e; cases e
theorem ppk_nil : PPK X E [] an := ⟨PK.imp pk_nil fun σ H Q h => by
  obtain ⟨env, μ, ρ, eo, M, h⟩ := h
  exact Post.val (R := RPs X.K) (show Post X.K X.mg E (RPs X.K) H ρ Q (Res.ok [] μ) from h) M .nil, fun env μ as μ' e => by cases e; rfl⟩
theorem ppk_cons {nm : Option Str} {kpos : Pos} {kws : List Keyword} {fa : Ex} {f : Ag} (ha : PP X E e fa) (hr : PPK X E kws f) : PPK X E (⟨nm, e, kpos⟩ :: kws) (ac fa f) := ⟨PK.imp (pk_cons ha.pe hr.pk) fun σ H Q h => by
  obtain ⟨env, μ, ρ, eo, M, h⟩ := h
  exact tE_bind eo M h fun x H1 p m ρ1 _ l1 e1 M1 r1 q1 => tA_bind e1 M1 q1 fun xs H2 qs m2 ρ2 _ l2 e2 M2 r2 q2 =>
    Post.val (R := RPs X.K) (show Post X.K X.mg E (RPs X.K) H2 ρ2 Q (Res.ok (p :: qs) m2) from q2) M2 (.cons (Rep.mono l2 _ _ r1) r2), fun env μ as μ' e => ac_len hr.len env μ as μ' e⟩
theorem perm_reps {K : PySem.W.Frag} {H : Hp} {ρ : List Addr} {l : List PV} {xs : List V} (r : Reps K H ρ l xs) : ∀ is : List Nat, Reps K H ρ (perm is l) (perm is xs)
  | [] => .nil
  | i :: is => by
    have ih := perm_reps r is
    unfold perm at ih ⊢
    cases h : l[i]? with
    | some p =>
      obtain ⟨x, h1, h2⟩ := r.get h
      rw [List.filterMap_cons_some h, List.filterMap_cons_some h1]
      exact .cons h2 ih
    | none =>
      have h1 : xs[i]? = none := by
        rw [List.getElem?_eq_none_iff, r.length]
        exact List.getElem?_eq_none_iff.mp h
      rw [List.filterMap_cons_none h, List.filterMap_cons_none h1]
      exact ih
theorem perm_vals {xs : List V} {us : List Value} (r : Vals xs us) : ∀ is : List Nat, Vals (perm is xs) (perm is us)
  | [] => .nil
  | i :: is => by
    have ih := perm_vals r is
    unfold perm at ih ⊢
    cases h : xs[i]? with
    | some p =>
      obtain ⟨u, h1, h2⟩ := r.get h
      rw [List.filterMap_cons_some h, List.filterMap_cons_some h1]
      exact .cons h2 ih
    | none =>
      rw [List.filterMap_cons_none h, List.filterMap_cons_none (r.none_of h)]
      exact ih
/-- how a call with keywords binds -/
def BdK (x : Str) (st : Stmt) (ps ks : List Str) (n : Nat) (is : List Nat) : Prop := ∀ (qual : Str) (kV doc pm : Value) (an : Option Addr) (cdv ct : Value) (us ws : List Value), us.length = n → ws.length = ks.length →
  bindArgs (PySem.W.fnOf x qual (defArgs st) (defBody st) (defScope st) .none kV doc pm an cdv ct) ⟨us, ks.zip ws⟩ = pure (ps.zip (perm is (us ++ ws)))
theorem pp_callK {x : Str} {g gk : Ag} {p : Pos} {j : Nat} {ks : List Str} {is : List Nat} {kws : List Keyword} (F : FnM X.prog X.w X.K X.mg X.base CX j x st ps m) (B : BdK x st ps ks (e :: es).length is) (hr : Room k X.A) (hj : j ≤ k) (hgd : X.A.guards = some []) (hx : Passes CX X E) (ha : PPA X E (e :: es) g) (hkw : PPK X E kws gk)
    (hl : ∀ l : List PV, l.length = (e :: es).length + kws.length → (perm is l).length = ps.length) (hlk : kws.length = ks.length := by rfl) (hg : Gl X x := by rfl) (hdb : (x == ("__debug__" : Str)) = false := by decide)
    (hall : (backToKw pos (keywordEach kws X.env)).all (·.1.isSome) = true := by rfl) (hks : (backToKw pos (keywordEach kws X.env)).filterMap (·.1) = ks := by rfl)
    (he : starEach (e :: es) X.env = (false, eval e X.env) :: starEach es X.env := by rfl)
    (hpl : ((backTo pos (starEach (e :: es) X.env)).any (·.1) || (backToKw pos (keywordEach kws X.env)).any (·.1.isNone)) = false := by rfl) :
    PP X E (.Call (.Name x p) (e :: es) kws pos) (callK m is g gk) := ⟨⟨fun pins s σ H Q I h => by
  obtain ⟨f, fd, qual, FF, hm, G⟩ := F.ex
  obtain ⟨env, μ, ρ, eo, M, h⟩ := h
  refine wpAny_Call_Name_kw (ld_glob I hg hm ?_ hdb)
  have h1 : tA X.K X.mg E g σ H (fun vs H1 => vs.length = (e :: es).length ∧ tA X.K X.mg E gk σ H1 fun zs H2 => zs.length = ks.length ∧ spP X.K X.mg ps.length m (perm is (vs ++ zs)) H2 Q E) :=
    tA_bind eo M h fun xs H1 as μ1 ρ1 eg l1 e1 M1 r1 q1 => ⟨by rw [r1.length]; exact ha.len _ _ _ _ eg, tA_bind e1 M1 q1 fun ys H2 bs μ2 ρ2 eg2 l2 e2 M2 r2 q2 =>
      ⟨by rw [r2.length, hkw.len _ _ _ _ eg2, hlk], _, μ2, ρ2, hl (as ++ bs) (by rw [List.length_append, ha.len _ _ _ _ eg, hkw.len _ _ _ _ eg2]), M2, perm_reps ((Reps.mono l2 _ _ r1).append r2) is, q2⟩⟩
  refine PySem.W.callWith_KW (h₀ := X.base) I.ok.mod.kin FF.kp hall (thn (ha.pa.run pos pins s σ H _ I h1) fun us s1 ⟨vs, H1, I1, r, hv, q⟩ => ?_) hpl he
  refine thn (hkw.pk.run pos pins s1 σ H1 _ I1 q) fun ws s2 ⟨zs, H2, I2, rz, hz, q2⟩ => ⟨I2.kIn, ?_⟩
  rw [hks]
  obtain ⟨oc, od, kV, doc, pm, an, cdv, ct, osl, rfl, lk, hcd⟩ := FF.ex
  exact call_fnG G (hr.mono hj) hgd (.of_eq (B qual kV doc pm an cdv ct us ws (by rw [← r.length]; exact hv) (by rw [← rz.length]; exact hz))) hx I2 (perm_vals (r.append rz) is) q2⟩⟩
theorem pp_callK0 {x : Str} {gk : Ag} {p : Pos} {j : Nat} {ks : List Str} {is : List Nat} {kws : List Keyword} (F : FnM X.prog X.w X.K X.mg X.base CX j x st ps m) (B : BdK x st ps ks 0 is) (hr : Room k X.A) (hj : j ≤ k) (hgd : X.A.guards = some []) (hx : Passes CX X E) (hkw : PPK X E kws gk)
    (hl : ∀ l : List PV, l.length = kws.length → (perm is l).length = ps.length) (hlk : kws.length = ks.length := by rfl) (hg : Gl X x := by rfl) (hdb : (x == ("__debug__" : Str)) = false := by decide)
    (hall : (backToKw pos (keywordEach kws X.env)).all (·.1.isSome) = true := by rfl) (hks : (backToKw pos (keywordEach kws X.env)).filterMap (·.1) = ks := by rfl)
    (hpl : ((backTo pos (starEach [] X.env)).any (·.1) || (backToKw pos (keywordEach kws X.env)).any (·.1.isNone)) = false := by rfl) :
    PP X E (.Call (.Name x p) [] kws pos) (callK m is an gk) := ⟨⟨fun pins s σ H Q I h => by
  obtain ⟨f, fd, qual, FF, hm, G⟩ := F.ex
  obtain ⟨env, μ, ρ, eo, M, h⟩ := h
  refine wpAny_Call_Name_kw (ld_glob I hg hm ?_ hdb)
  have h1 : tA X.K X.mg E gk σ H (fun zs H2 => zs.length = ks.length ∧ spP X.K X.mg ps.length m (perm is zs) H2 Q E) :=
    tA_bind (k := fun bs μ2 => m (perm is ([] ++ bs)) μ2) eo M h fun ys H2 bs μ2 ρ2 eg2 l2 e2 M2 r2 q2 => ⟨by rw [r2.length, hkw.len _ _ _ _ eg2, hlk], _, μ2, ρ2, hl bs (hkw.len _ _ _ _ eg2), M2, perm_reps r2 is, q2⟩
  refine PySem.W.callWith_KW0 (h₀ := X.base) I.ok.mod.kin FF.kp hall ?_ hpl
  refine thn (hkw.pk.run pos pins s σ H _ I h1) fun ws s2 ⟨zs, H2, I2, rz, hz, q2⟩ => ⟨I2.kIn, ?_⟩
  rw [hks]
  obtain ⟨oc, od, kV, doc, pm, an, cdv, ct, osl, rfl, lk, hcd⟩ := FF.ex
  exact call_fnG G (hr.mono hj) hgd (.of_eq (B qual kV doc pm an cdv ct [] ws rfl (by rw [← rz.length]; exact hz))) hx I2 (perm_vals rz is) q2⟩⟩
end
end PL
end
section
set_option autoImplicit false
set_option Elab.async false
set_option linter.all false
set_option maxRecDepth 100000
set_option maxHeartbeats 2000000
/-! The law's end: from the pure law to the row. -/
namespace PL
open PySem PySem.Spec PyProof.Rows L2
theorem hu65 {A : Around} {k : Nat} (hr : Room k A) : A.units + 65 < cLine := by have := hr.un; omega
theorem hu64 {A : Around} {k : Nat} (hr : Room k A) : A.units + 64 < cLine := by have := hr.un; omega
/-- what the script gives at the law's call -/
structure AtLaw (P : Program) (w : World) (K : PySem.W.Frag) (mg mb : Str → Option Value) (s : Shared) (a : Addr) (vs : List Value) (ns : List Int) : Prop where
  kin : K.In s.heap
  nm : s.heap.Ns mainGlobals mg
  nb : s.heap.Ns builtinsNs mb
  bt : ∀ x : Str, x ≠ "__name__" → mb x = bootBuiltins x
  lim : s.heap.NoLimit
  gens : s.gens = #[]
  obj : s.heap.get? a = some { cls := .type "list", data := .seq vs.toArray }
  vals : IntsAre vs ns
  few : ns.length ≤ sizeLine
/-- an abstract heap in which the script alone may be tracked -/
structure Alone (P : Program) (w : World) (K : PySem.W.Frag) (s : Shared) (a : Addr) (ns : List Int) (H : Hp) : Prop where
  only : Only H
  seq : RoL K H a (ns.map V.int)
  ok : HOk P w H s.heap
  here : ∀ b, H b ≠ none → b = a
  notK : H a ≠ none → K.lookup a = none
theorem AtLaw.alone {P : Program} {w : World} {K : PySem.W.Frag} {mg mb : Str → Option Value} {s : Shared} {a : Addr} {vs : List Value} {ns : List Int} (L : AtLaw P w K mg mb s a vs ns) : ∃ H, Alone P w K s a ns H := by
  have rv := vals_ints L.vals
  cases hk : K.lookup a with
  | some o =>
    have ho : o = { cls := .type "list", data := .seq vs.toArray } := Option.some.inj ((L.kin a o hk).symm.trans L.obj)
    subst ho
    have sq : ∀ H', SqL K H' a (ns.map V.int) := fun H' => Or.inr ⟨_, vs.toArray, _, hk, rfl, rfl, rfl, by rw [List.size_toArray, L.vals.length]; exact L.few, by simpa using rv⟩
    exact ⟨fun _ => none, ⟨fun _ => Or.inl rfl, Or.inr sq, fun b u z => by simp at z, fun b z => absurd rfl z, fun z => absurd rfl z⟩⟩
  | none =>
    let O : HO := .frz { cls := .type "list", data := .seq vs.toArray } (.lst (ns.map V.int))
    have at_a : ∀ b, b = a → (fun b => if b = a then some O else none : Hp) b = some O := fun b e => if_pos e
    have off : ∀ b, b ≠ a → (fun b => if b = a then some O else none : Hp) b = none := fun b e => if_neg e
    refine ⟨fun b => if b = a then some O else none, ⟨fun b => ?_, Or.inl ⟨_, at_a a rfl⟩, fun b u z => ?_, fun b z => ?_, fun _ => hk⟩⟩
    · by_cases e : b = a
      · exact Or.inr ⟨_, _, at_a b e⟩
      · exact Or.inl (off b e)
    · by_cases e : b = a
      · have z2 := (at_a b e).symm.trans z
        cases z2
        subst e
        exact ⟨L.obj, by rw [List.length_map]; exact L.few, vs, _, rv, L.obj⟩
      · have z2 := (off b e).symm.trans z
        cases z2
    · by_cases e : b = a
      · exact e
      · exact absurd (off b e) z
theorem lawG_call {P : Program} {w : World} {K : PySem.W.Frag} {mg mb : Str → Option Value} {k : Nat} {fa a : Addr} {fd : FuncData} {x : Str} {m : Fn} {s : Shared} {vs : List Value} {ns : List Int} (L : AtLaw P w K mg mb s a vs ns) (hr : Room k callerA)
    (F : ∀ base : Heap, K.In base → base.Ns mainGlobals mg → FnG P w K mg base CX0 k fa fd [x] (spP K mg 1 m)) (hbind : ∀ (s : Shared) (u : Value), BindsTo s fd ⟨[u], []⟩ [(x, u)])
    (law : ∃ μ', m [.ref 0] [.ro (ns.map PV.int)] = .ok (.bl true) μ') :
    codeAny (model P w) callerA (.call (.ref fa) ⟨[.ref a], []⟩) (fun r s' => r = .ok (.ret (.bool true)) ∧ OldK s.heap s'.heap ∧ s'.os = s.os ∧ AllBare s'.gens) s := by
  obtain ⟨H, N⟩ := L.alone
  obtain ⟨μ', hlaw⟩ := law
  have keepNs : ∀ {b : Addr} {f : Str → Option Value}, s.heap.Ns b f → (hidT s.heap H).Ns b f := fun {b f} ⟨o, es, ep, e, d, r⟩ => by
    have hb : H b = none := by
      cases q : H b with
      | none => rfl
      | some u =>
        have eb : b = a := N.here b (by simp [q])
        subst eb
        rw [L.obj] at e
        cases e
        cases d
    exact ⟨o, es, ep, hidT_get e hb, d, r⟩
  have kb : K.In (hidT s.heap H) := fun b o e => by
    refine hidT_get (L.kin b o e) ?_
    cases q : H b with
    | none => rfl
    | some u =>
      have eb : b = a := N.here b (by simp [q])
      subst eb
      rw [N.notK (by simp [q])] at e
      cases e
  have hM : Mod K mg (hidT s.heap H) := ⟨kb, keepNs L.nm, ⟨mb, keepNs L.nb, L.bt⟩, let ⟨mc, h1, h2⟩ := L.lim; ⟨mc, keepNs h1, h2⟩⟩
  have e0 : Env0 P w K mg (hidT s.heap H) callerA [] s H :=
    ⟨rfl, hM, fun b o e => of_hidT e, Nat.le_of_eq (hidT_size _ _), trivial, fun b hb => (nomatch (show b ∈ ([] : List Addr) from hb)), N.ok, .of_eq L.gens⟩
  have ints_rep : ∀ l : List Int, Reps K H [a] (l.map PV.int) (l.map V.int) := fun l => by
    induction l with
    | nil => exact .nil
    | cons z l ih => exact .cons rint ih
  have M : MemOk K H [a] [.ro (ns.map PV.int)] := by
    refine ⟨rfl, fun n o b hn hb => ?_, fun n k b o u _ _ ho _ mo _ => ?_⟩
    · have hn0 : n = 0 := by
        have := (List.getElem?_eq_some_iff.mp hn).1
        simpa using this
      subst hn0
      simp only [List.getElem?_cons_zero, Option.some.injEq] at hn hb
      subst hn hb
      exact ⟨ns.map V.int, N.seq, ints_rep ns⟩
    · have hn0 : n = 0 := by
        have := (List.getElem?_eq_some_iff.mp ho).1
        simpa using this
      subst hn0
      simp only [List.getElem?_cons_zero, Option.some.injEq] at ho
      subst ho
      cases mo
  have hsp : spP K mg 1 m [.ref a] H (fun v _ => v = .bl true) (fun _ _ _ => False) := by
    refine ⟨[.ref 0], [.ro (ns.map PV.int)], [a], rfl, M, .cons ?_ .nil, ?_⟩
    · simp only [Rep]
      exact ⟨a, rfl, rfl⟩
    · rw [hlaw]
      intro b H' ρ' l M' r
      exact vbl r
  refine codeAny_mono ((F _ kb (keepNs L.nm)).run callerA [] s H ⟨[.ref a], []⟩ [.ref a] [.ref a] _ _ hr rfl e0 (hbind s (.ref a)) (.cons rfl .nil) hsp) fun r s' h => ?_
  match r, h with
  | .error e, h => exact False.elim h
  | .ok .next, h => exact False.elim h
  | .ok .brk, h => exact False.elim h
  | .ok .cont, h => exact False.elim h
  | .ok (.ret u), h =>
    obtain ⟨v, H', os, bare, un, hok', rv, q⟩ := h
    have qv : v = .bl true := q
    subst qv
    have hu : u = Value.bool true := rv
    subst hu
    refine ⟨rfl, OldK.of_keep fun b o e => ?_, os, bare⟩
    cases q : H b with
    | none => exact un.keep b o e q (fun z => nomatch (show b ∈ ([] : List Addr) from z)) (fun z => nomatch z)
    | some u =>
      rcases N.only b with z | ⟨ob, xs, z⟩
      · rw [q] at z
        cases z
      · have z2 := un.frzs b ob _ z
        have g1 := (N.ok b _ z).1
        have g2 := (hok' b _ z2).1
        rw [e] at g1
        cases g1
        exact g2
/-- the goal that the head leaves -/
theorem walkP {l : PySem.W.OpenLaw} {n k : Nat} {q : Program} {loose : List Str} {XP : (Str → Option Value) → Heap → Prop} {YP : World → Heap → Prop} {d : DefRec} {K : Params → PySem.W.Frag} {x : Str} {st : Stmt} {m : Fn}
    (hn : l.most = some n) (hn2 : n ≤ sizeLine) (hdf : d.params.defaults = []) (hr : Room k callerA)
    (hY : ∀ (w : World) (h : Heap), YP w h → (K w.params).In h)
    (hB : Bd d.name st [x])
    (F : ∀ (w : World) (mg : Str → Option Value) (h base : Heap), (K w.params).In h → h.Ns mainGlobals mg → (K w.params).In base → base.Ns mainGlobals mg → FnM l.prog w (K w.params) mg base CX0 k d.name st [x] m)
    (law : ∀ ns : List Int, ns.length ≤ n → (∀ z ∈ ns, Builtin.Int.intBits z ≤ 1048576) → ∃ μ', m [.ref 0] [.ro (ns.map PV.int)] = .ok (.bl true) μ') :
    PySem.W.WalkO q loose XP YP l.row.toRowW d [] (fun f vs => PySem.call f vs) := by
  refine Att.attach_callB hn hdf fun w s₀ s₁ mg mb fa o pm cd doc a vs ns G Y ho hd hcd hmg hobj hints hlen hbits hg => ?_
  have KX := hY w _ Y
  have L : AtLaw l.prog w (K w.params) mg mb s₁ a vs ns := ⟨KX, G.T.g, G.T.b, G.T.builtins, G.T.nolimit, hg, hobj, hints, Nat.le_trans hlen hn2⟩
  obtain ⟨f0, fd0, qual, FF, hm0, G0⟩ := (F w mg s₁.heap s₁.heap KX G.T.g KX G.T.g).ex
  have ef : f0 = fa := by
    have h1 : (Value.ref f0 : Value) = Value.ref fa := Option.some.inj (hm0.symm.trans hmg)
    injection h1
  subst ef
  obtain ⟨oc, od, kV, doc', pm', an, cdv, ct, osl, rfl, lk, hcd'⟩ := FF.ex
  refine lawG_call L hr (fun base hb1 hb2 => ?_) (fun s u => .of_eq (hB qual kV doc' pm' an cdv ct [u] rfl)) (law ns hlen hbits)
  obtain ⟨f1, fd1, qual1, FF1, hm1, G1⟩ := (F w mg s₁.heap base KX G.T.g hb1 hb2).ex
  have ef : f1 = f0 := by
    have h1 : (Value.ref f1 : Value) = Value.ref f0 := Option.some.inj (hm1.symm.trans hmg)
    injection h1
  subst ef
  obtain ⟨oc1, od1, kV1, doc1, pm1, an1, cdv1, ct1, osl1, e1, lk1, hcd1⟩ := FF1.ex
  have e2 := lk.symm.trans lk1
  injection e2 with e3
  injection e3 with _ _ e4 _
  injection e4 with e5
  rw [e5]
  exact G1
end PL
end
section
set_option autoImplicit false
set_option Elab.async false
set_option linter.all false
set_option maxRecDepth 100000
set_option maxHeartbeats 2000000
/-! More: constants that are tuples, stars in displays, bits, statements that are not followed. -/
namespace PL
open PySem PySem.Spec PyProof.Rows L2
section
variable {K : PySem.W.Frag} {H : Hp} {ρ : List Addr}
/-- values of a constant -/
def KV (K : PySem.W.Frag) (H : Hp) (ρ : List Addr) (l : List PV) (vs : List Value) : Prop := ∃ xs, Vals xs vs ∧ Reps K H ρ l xs
theorem kv_nil : KV K H ρ [] [] := ⟨[], .nil, by simp only [Reps]⟩
theorem kv_cons {p : PV} {x : V} {u : Value} {l : List PV} {vs : List Value} (r : RelV x u) (h : Rep K H ρ p x) (t : KV K H ρ l vs) : KV K H ρ (p :: l) (u :: vs) := by
  obtain ⟨xs, h1, h2⟩ := t
  exact ⟨x :: xs, .cons r h1, .cons h h2⟩
theorem kv_int {i : Int} {t : Tok} {l : List PV} {vs : List Value} (h : KV K H ρ l vs) : KV K H ρ (.int i :: l) (.int i t :: vs) := kv_cons (x := .int i) ⟨t, rfl⟩ rint h
theorem kv_str {i : Str} {t : Tok} {l : List PV} {vs : List Value} (h : KV K H ρ l vs) : KV K H ρ (.str i :: l) (.str i t :: vs) := kv_cons (x := .str i) ⟨t, rfl⟩ rstr h
theorem kv_non {l : List PV} {vs : List Value} (h : KV K H ρ l vs) : KV K H ρ (.non :: l) (.none :: vs) := kv_cons (x := .non) rfl rnon h
theorem kv_bl {i : Bool} {l : List PV} {vs : List Value} (h : KV K H ρ l vs) : KV K H ρ (.bl i :: l) (.bool i :: vs) := kv_cons (x := .bl i) rfl rbl h
theorem kv_ref {p : PV} {a : Addr} {l : List PV} {vs : List Value} (r : Rep K H ρ p (.ref a)) (h : KV K H ρ l vs) : KV K H ρ (p :: l) (.ref a :: vs) := kv_cons (x := .ref a) rfl r h
theorem rep_ktup {a : Addr} {d : Option Addr} {its : Array Value} {n : Nat} {sl : Array (Option Value)} {l : List PV} (q : K.lookup a = some ⟨.type "tuple", d, .seq its n, sl⟩) (hz : its.size ≤ sizeLine) (hv : KV K H ρ l its.toList) : Rep K H ρ (.tup l) (.ref a) := by
  obtain ⟨xs, h1, h2⟩ := hv
  simp only [Rep]
  exact ⟨a, xs, rfl, .inr ⟨_, its, n, q, rfl, rfl, hz, h1⟩, h2⟩
end
section
variable {X : Cx} {E : XK} {a : Expr} {es : List Expr} {fa : Ex} {pos : Pos}
theorem pps_stuck {st : Stmt} : PPs X E st stuckS := ⟨⟨fun pins s σ H D I h => by
  obtain ⟨env, μ, ρ, _, _, h⟩ := h
  exact h.elim⟩⟩
/-- what a display lists, stars among it -/
structure PPAs (X : Cx) (E : XK) (es : List Expr) (f : Ag) : Prop where
  pa : PA X es (tA X.K X.mg E f)
theorem PPA.s {f : Ag} (h : PPA X E es f) : PPAs X E es f := ⟨h.pa⟩
theorem ppas_nil : PPAs X E [] an := PPA.s ppa_nil
theorem ppas_cons {f : Ag} (ha : PP X E a fa) (hr : PPAs X E es f) (hs : starEach (a :: es) X.env = (false, eval a X.env) :: starEach es X.env := by rfl) : PPAs X E (a :: es) (ac fa f) := ⟨by
  refine PA.imp (pa_cons ha.pe hr.pa hs) fun σ H Q h => ?_
  obtain ⟨env, μ, ρ, eo, M, h⟩ := h
  exact tE_bind eo M h fun x H1 p m ρ1 _ l1 e1 M1 r1 q1 => tA_bind e1 M1 q1 fun xs H2 ps m2 ρ2 _ l2 e2 M2 r2 q2 =>
    Post.val (R := RPs X.K) (show Post X.K X.mg E (RPs X.K) H2 ρ2 Q (Res.ok (p :: ps) m2) from q2) M2 (.cons (Rep.mono l2 _ _ r1) r2)⟩
theorem ppas_star {f : Ag} {p : Pos} (ha : PP X E a fa) (hr : PPAs X E es f) (hs : starEach (.Starred a p :: es) X.env = (true, eval a X.env) :: starEach es X.env := by rfl) : PPAs X E (.Starred a p :: es) (acs fa f) := ⟨by
  refine PA.imp (StX.pa_star ha.pe hr.pa hs) fun σ H Q h => ?_
  obtain ⟨env, μ, ρ, eo, M, h⟩ := h
  refine tE_bind eo M h fun x H1 p m ρ1 _ l1 e1 M1 r1 q1 => ?_
  cases p with
  | tup l =>
    obtain ⟨b, xs, rfl, k1, k2⟩ := rep_tup r1
    refine ⟨b, xs, rfl, .inl k1, tA_bind e1 M1 q1 fun ys H2 ps m2 ρ2 _ l2 e2 M2 r2 q2 => ?_⟩
    exact Post.val (R := RPs X.K) (show Post X.K X.mg E (RPs X.K) H2 ρ2 (fun ys H2 => Q ys H2) (Res.ok (l ++ ps) m2) from q2) M2 ((Reps.mono l2 _ _ k2).append r2)
  | ref n =>
    simp only at q1
    split at q1
    · rename_i l e
      obtain ⟨b, xs, g1, rfl, g3, g4⟩ := mem_lst M1 r1 e
      refine ⟨b, xs, rfl, .inr (SqL.of g3), tA_bind e1 M1 q1 fun ys H2 ps m2 ρ2 _ l2 e2 M2 r2 q2 => ?_⟩
      exact Post.val (R := RPs X.K) (show Post X.K X.mg E (RPs X.K) H2 ρ2 (fun ys H2 => Q ys H2) (Res.ok (l ++ ps) m2) from q2) M2 ((Reps.mono l2 _ _ g4).append r2)
    · exact q1.elim
  | _ => exact q1.elim⟩
theorem pp_tupS {f : Ag} {k : Nat} (h : PPAs X E es f) : PP X E (.Tuple es k pos) (app fTup f) := ⟨by
  refine PE.imp (pe_tup h.pa) fun σ H Q h => ?_
  obtain ⟨env, μ, ρ, eo, M, h⟩ := h
  refine tA_bind eo M h fun xs H1 ps m ρ1 _ l1 e1 M1 r1 q1 => ?_
  unfold fTup at q1
  split at q1
  · rename_i hz
    exact ⟨by rw [SL_eq, r1.length]; exact hz, q1.newT M1 r1⟩
  · exact q1.elim⟩
theorem pp_lstS {f : Ag} (h : PPAs X E es f) : PP X E (.List es pos) (app fLst f) := ⟨by
  refine PE.imp (pe_lst h.pa) fun σ H Q h => ?_
  obtain ⟨env, μ, ρ, eo, M, h⟩ := h
  refine tA_bind eo M h fun xs H1 ps m ρ1 _ l1 e1 M1 r1 q1 => ?_
  unfold fLst at q1
  split at q1
  · rename_i hz
    exact ⟨by rw [SL_eq, r1.length]; exact hz, q1.newL M1 r1⟩
  · exact q1.elim⟩
theorem opP_shl : OpR X (binaryOp .LShift) (rP2 X.K X.mg E fShl) := by
  intro pins s σ H x y v u Q I rx ry h
  obtain ⟨μ, ρ, p, q, M, hp, hq, h⟩ := h
  cases p <;> cases q <;> first | exact h.elim | skip
  rename_i i j
  obtain rfl := vint hp
  obtain rfl := vint hq
  simp only [fShl] at h
  split at h
  · rename_i hz
    exact op_shlW pins s σ H _ _ v u Q I rx ry ⟨i, j, rfl, rfl, hz, h.val M rint⟩
  · exact h.elim
theorem opP_shr : OpR X (binaryOp .RShift) (rP2 X.K X.mg E fShr) := by
  intro pins s σ H x y v u Q I rx ry h
  obtain ⟨μ, ρ, p, q, M, hp, hq, h⟩ := h
  cases p <;> cases q <;> first | exact h.elim | skip
  rename_i i j
  obtain rfl := vint hp
  obtain rfl := vint hq
  simp only [fShr] at h
  split at h
  · rename_i hz
    exact op_shr pins s σ H _ _ v u Q I rx ry ⟨i, j, rfl, rfl, hz, h.val M rint⟩
  · exact h.elim
theorem opP_band : OpR X (binaryOp .BitAnd) (rP2 X.K X.mg E fBAnd) := by
  intro pins s σ H x y v u Q I rx ry h
  obtain ⟨μ, ρ, p, q, M, hp, hq, h⟩ := h
  cases p <;> cases q <;> first | exact h.elim | skip
  rename_i i j
  obtain rfl := vint hp
  obtain rfl := vint hq
  exact op_and pins s σ H _ _ v u Q I rx ry ⟨i, j, rfl, rfl, Post.val (R := RP X.K) (show Post X.K X.mg E (RP X.K) H ρ Q (Res.ok (.int (Builtin.bitAnd i j)) μ) from h) M rint⟩
theorem opP_bor : OpR X (binaryOp .BitOr) (rP2 X.K X.mg E fBOr) := by
  intro pins s σ H x y v u Q I rx ry h
  obtain ⟨μ, ρ, p, q, M, hp, hq, h⟩ := h
  cases p <;> cases q <;> first | exact h.elim | skip
  rename_i i j
  obtain rfl := vint hp
  obtain rfl := vint hq
  exact op_or pins s σ H _ _ v u Q I rx ry ⟨i, j, rfl, rfl, Post.val (R := RP X.K) (show Post X.K X.mg E (RP X.K) H ρ Q (Res.ok (.int (Builtin.bitOr i j)) μ) from h) M rint⟩
theorem opP_bxor : OpR X (binaryOp .BitXor) (rP2 X.K X.mg E fBXor) := by
  intro pins s σ H x y v u Q I rx ry h
  obtain ⟨μ, ρ, p, q, M, hp, hq, h⟩ := h
  cases p <;> cases q <;> first | exact h.elim | skip
  rename_i i j
  obtain rfl := vint hp
  obtain rfl := vint hq
  exact op_xor pins s σ H _ _ v u Q I rx ry ⟨i, j, rfl, rfl, Post.val (R := RP X.K) (show Post X.K X.mg E (RP X.K) H ρ Q (Res.ok (.int (Builtin.bitXor i j)) μ) from h) M rint⟩
end
end PL
end
section
set_option autoImplicit false
set_option Elab.async false
set_option linter.all false
set_option maxRecDepth 100000
set_option maxHeartbeats 2000000
/-! range(a, b) of ends of any size. -/
namespace PL
open PySem PySem.Spec PyProof.Rows L2
theorem turn_longrange {P : Program} {w : World} {K : PySem.W.Frag} {tg : Expr} (it : Addr) (lo : Int) (n : Nat) : Turn P w K tg (Itr lo n) [it] it (fun i h => IsLongIter h it (lo + (i : Nat) * 1) ((n : Int) - (i : Nat)) 1) where
  mem := by simp
  obj := fun i h st b hb => by
    have e : b = it := by simpa using hb
    subst e
    exact ⟨_, st, fun v z => by
      have z' : Data.fields _ = Data.cell v := z
      cases z'⟩
  keep := fun i h h' st k => k it (by simp) _ st
  item := by
    intro X hP hw hK hc i pins s σ H E I hf st hg
    subst hP hw hK
    obtain ⟨f0, f1, f2, f3, f4, f5⟩ := hf it (by simp)
    have W := Walks.longrange (prog := X.prog) (w := X.w) (I.ok.hd hc) it lo 1 n
    refine W.item i s _ _ hg st fun v h' tk hv st' kk => ?_
    obtain ⟨t, rfl⟩ := hv
    have I1 : Inv X pins σ H { s with heap := h', toks := tk } := I.turned (fun b o hb e => kk b o (by simpa using hb) e) f0 f1 f3 f4 f5
    refine ⟨_, rfl, go_of (s := { s with heap := h', toks := tk }) (n := "longrange_iterator") st' rfl rfl (by decide) ⟨.int (lo + i), H, I1, ⟨t, ?_⟩, ⟨rfl, rfl⟩, st', fun b hb => (hf b hb).1⟩⟩
    rw [Int.mul_one]
  done := by
    intro X hP hw hK hc i pins s σ H E I hf st hg
    subst hP hw hK
    obtain ⟨f0, f1, f2, f3, f4, f5⟩ := hf it (by simp)
    exact wpAny_pyNext_long_end (I.ok.hd hc) st (by have : n ≤ i := hg; omega) fun h' eb => ⟨rfl, I.turned (t' := s.toks) (fun b o hb e => eb b o hb e) f0 f1 f3 f4 f5⟩
  self := fun _ _ _ _ _ st h => wpAny_pyIter_longiter st h
section
variable {X : Cx} {tg : Expr}
theorem range_itW {pins : List (Addr × Obj)} {σ : L2.St} {H : Hp} {s : Shared} {R : L2.It → Hp → Prop} {E : Value → Shared → Prop} {lo hi : Int} {t u v : Tok} {tk : Nat} (I : Inv X pins σ H s)
    (q : R (Itr lo (hi - lo).toNat) H) : wpAny (model X.prog X.w) X.A (pyIter (.ref s.heap.objs.size)) (PIE X pins σ tg R) E { s with heap := s.heap.push { cls := .type "range", data := .fields #[.int lo t, .int hi u, .int 1 v] }, toks := tk } := by
  have I1 : Inv X pins σ H { s with heap := s.heap.push { cls := .type "range", data := .fields #[.int lo t, .int hi u, .int 1 v] }, toks := tk } := I.kept fun b o e => Heap.get?_push_of_some _ e
  by_cases hs : Builtin.Range.small lo hi 1 = true
  · refine wpAny_pyIter_range (IsRange.new ..) hs ?_
    refine ⟨(s.heap.push { cls := .type "range", data := .fields #[.int lo t, .int hi u, .int 1 v] }).objs.size, [(s.heap.push { cls := .type "range", data := .fields #[.int lo t, .int hi u, .int 1 v] }).objs.size], _, _, H, rfl,
      I1.kept (t' := tk) fun b o e => Heap.get?_push_of_some _ e, turn_range _ lo (hi - lo).toNat, ?_, fun b hb => ?_, q⟩
    · have e1 : lo + ((0 : Nat) : Int) * 1 = lo := by simp
      have e2 : (((hi - lo).toNat : Nat) : Int) - ((0 : Nat) : Int) = Builtin.Range.rangeSize lo hi 1 := by rw [rangeSize_one]; split <;> omega
      show IsRangeIter _ _ (lo + ((0 : Nat) : Int) * 1) ((((hi - lo).toNat : Nat) : Int) - ((0 : Nat) : Int)) 1
      rw [e1, e2]
      exact Heap.get?_push_size _ rfl
    · have e : b = (s.heap.push { cls := .type "range", data := .fields #[.int lo t, .int hi u, .int 1 v] }).objs.size := by simpa using hb
      subst e
      exact I1.fpOk (Nat.le_refl _) (I1.hok.fresh (Nat.le_refl _))
  · refine wpAny_pyIter_longrange (IsRange.new ..) (by simpa using hs) ?_
    refine ⟨(s.heap.push { cls := .type "range", data := .fields #[.int lo t, .int hi u, .int 1 v] }).objs.size, [(s.heap.push { cls := .type "range", data := .fields #[.int lo t, .int hi u, .int 1 v] }).objs.size], _, _, H, rfl,
      I1.kept (t' := tk) fun b o e => Heap.get?_push_of_some _ e, turn_longrange _ lo (hi - lo).toNat, ?_, fun b hb => ?_, q⟩
    · have e1 : lo + ((0 : Nat) : Int) * 1 = lo := by simp
      have e2 : (((hi - lo).toNat : Nat) : Int) - ((0 : Nat) : Int) = Builtin.Range.rangeSize lo hi 1 := by rw [rangeSize_one]; split <;> omega
      show IsLongIter _ _ (lo + ((0 : Nat) : Int) * 1) ((((hi - lo).toNat : Nat) : Int) - ((0 : Nat) : Int)) 1
      rw [e1, e2]
      exact Heap.get?_push_size _ rfl
    · have e : b = (s.heap.push { cls := .type "range", data := .fields #[.int lo t, .int hi u, .int 1 v] }).objs.size := by simpa using hb
      subst e
      exact I1.fpOk (Nat.le_refl _) (I1.hok.fresh (Nat.le_refl _))
def wRng2 (ta : TA) : TI := fun σ H R => ta σ H fun vs H1 => ∃ i j : Int, vs = [.int i, .int j] ∧ R (Itr i (j - i).toNat) H1
theorem pi_range2W {a b : Expr} {ta : TA} {p pos : Pos} (hg : Gl X "range") (hm : X.mg "range" = none) (ha : PA X [a, b] ta) (hs : starEach [a, b] X.env = [(false, eval a X.env), (false, eval b X.env)] := by rfl) (hs2 : starEach [b] X.env = [(false, eval b X.env)] := by rfl) :
    PI X tg (.Call (.Name "range" p) [a, b] [] pos) (wRng2 ta) := by
  refine ⟨fun pins s σ H R I h => ?_⟩
  refine Call_ (ld_blt I hg hm boot_range (PyProof.Rows.callWith_type1 (thn (ha.run pos pins s σ H _ I h) fun us s1 ⟨vs, H1, I1, r1, q1⟩ => ?_) (by rw [hs, hs2]) (by rw [hs2]; rfl)))
  obtain ⟨i, j, e, q⟩ := q1
  subst e
  cases r1 with
  | cons r rr =>
    cases rr with
    | cons r' rr =>
      cases rr
      obtain ⟨t, rfl⟩ := r
      obtain ⟨t', rfl⟩ := r'
      exact call_range_2 (range_itW I1 q)
end
section
variable {X : Cx} {E : XK} {a b tg : Expr} {fa fb : Ex}
theorem ppi_rng2w {p pos : Pos} (hm : X.mg "range" = none) (h : PP X E a fa) (h' : PP X E b fb) (hg : Gl X "range" := by rfl) (hs : starEach [a, b] X.env = [(false, eval a X.env), (false, eval b X.env)] := by rfl) (hs2 : starEach [b] X.env = [(false, eval b X.env)] := by rfl) :
    PPI X E tg (.Call (.Name "range" p) [a, b] [] pos) (iRng2w fa fb) := ⟨PI.imp (pi_range2W (tg := tg) hg hm (pa_cons h.pe (pa_cons h'.pe pa_nil (by rw [hs2]; rfl)) (by rw [hs, hs2])) hs hs2) fun σ H R hh => by
  obtain ⟨env, μ, ρ, eo, M, hh⟩ := hh
  refine tE_bind eo M hh fun x H1 p m ρ1 _ l1 e1 M1 r1 q1 => tE_bind e1 M1 q1 fun y H2 q m2 ρ2 _ l2 e2 M2 r2 q2 => ?_
  cases p with
  | int i =>
    cases q with
    | int j =>
      obtain rfl := vint r1
      obtain rfl := vint r2
      exact ⟨i, j, rfl, q2 (Itr i (j - i).toNat) H2 ρ2 (.refl _ _ _) M2 (itOk_rng i _)⟩
    | _ => exact q2.elim
  | _ => cases q <;> exact q2.elim⟩
end
end PL
end
section
set_option autoImplicit false
set_option Elab.async false
set_option linter.all false
set_option maxRecDepth 100000
set_option maxHeartbeats 2000000
/-! list.index of data. -/
namespace PL
open PySem PySem.Spec PyProof.Rows L2
section
variable {X : Cx} {E : XK} {e : Expr} {es : List Expr} {pos : Pos}
theorem mtP_index (hu : X.A.units + 65 < cLine) : MtR X "list.index" (rPm X.K X.mg E fIndex) := by
  intro pins s σ H x xs v us Q I rx rxs h
  obtain ⟨μ, ρ, p, ps, M, hp, hps, h⟩ := h
  cases p with
  | ref n =>
    match ps, hps with
    | [q], hps =>
      obtain ⟨y, rfl, r⟩ := reps1 hps
      simp only [fIndex] at h
      split at h
      · rename_i d es e3 e4
        split at h
        · rename_i hz
          split at h
          · rename_i j hj
            have D1 := dp_toD M e4 hp
            have D2 := dp_toD M e3 r
            obtain ⟨hjl, hj1, hj2⟩ := List.findIdx?_eq_some_iff_getElem.mp hj
            obtain ⟨a, rfl⟩ : ∃ a, x = .ref a := by
              simp only [Rep] at hp
              first
                | exact ⟨_, hp.2⟩
                | (obtain ⟨a, _, rfl⟩ := hp; exact ⟨a, rfl⟩)
                | (obtain ⟨a, rfl, _⟩ := hp; exact ⟨a, rfl⟩)
            refine mt_indexD hu pins s σ H _ _ v us Q I rx rxs ⟨a, y, d, es, j, es[j], rfl, rfl, D1, D2, hz.2, hz.1, List.getElem?_eq_getElem hjl, hj1, ?_, h.val M rint⟩
            intro k z' hk hz'
            have hkl := (List.getElem?_eq_some_iff.mp hz').1
            have := hj2 k hk
            have e5 := (List.getElem?_eq_some_iff.mp hz').2
            rw [← e5]
            simpa using this
          · exact h.elim
        · exact h.elim
      · exact h.elim
    | [], _ => exact h.elim
    | _ :: _ :: _, _ => exact h.elim
  | _ => exact h.elim
theorem pp_index {o : Expr} {fo : Ex} {g : Ag} {apos : Pos} (hu : X.A.units + 65 < cLine) (ho : PP X E o fo) (ha : PPA X E (e :: es) g) (hbase : attributeBase o "index" X.env (eval o X.env) = eval o X.env := by rfl)
    (hfew : ((backTo pos (starEach (e :: es) X.env)).all (fun x => !x.1) && (backToKw pos (keywordEach [] X.env)).all (fun x => x.1.isSome)
      && decide ((e :: es).length + ([] : List Keyword).length + (if ([] : List Keyword).isEmpty then 0 else 1) < 30)) = true := by rfl)
    (hline : (apos.endLine == pos.line) = true := by rfl) (hs : starEach (e :: es) X.env = (false, eval e X.env) :: starEach es X.env := by rfl) (hplain : (backTo pos (starEach es X.env)).any (·.1) = false := by rfl) :
    PP X E (.Call (.Attribute o "index" apos) (e :: es) [] pos) (mth .list fIndex fo g) :=
  pp_bm (k := .list) PySem.F.plainAttrs_list PySem.F.slot_list_index PySem.F.type_list_index (mtP_index hu) ho ha hbase hfew hline hs hplain
end
end PL
end
section
set_option autoImplicit false
set_option Elab.async false
set_option linter.all false
/-! is True, is False. -/
namespace PL
open PySem PySem.Spec PyProof.Rows L2
section
variable {X : Cx} {E : XK}
theorem cmpP_isB : OpR X (compareOp .Is) (rP2 X.K X.mg E fIsB) := by
  intro pins s σ H x y v u Q I rx ry h
  obtain ⟨μ, ρ, p, q, M, hp, hq, h⟩ := h
  cases p <;> first | exact h.elim | skip
  rename_i a
  cases q <;> first | exact h.elim | skip
  rename_i b
  obtain rfl := vbl hp
  obtain rfl := vbl hq
  have e : fIsB [.bl a, .bl b] μ = .ok (.bl (decide (a = b))) μ := rfl
  rw [e] at h
  exact op_isBl pins s σ H _ _ v u Q I rx ry ⟨a, b, rfl, rfl, h.val M rbl⟩
theorem cmpP_notB : OpR X (compareOp .IsNot) (rP2 X.K X.mg E fNotB) := by
  intro pins s σ H x y v u Q I rx ry h
  obtain ⟨μ, ρ, p, q, M, hp, hq, h⟩ := h
  cases p <;> first | exact h.elim | skip
  rename_i a
  cases q <;> first | exact h.elim | skip
  rename_i b
  obtain rfl := vbl hp
  obtain rfl := vbl hq
  have e : fNotB [.bl a, .bl b] μ = .ok (.bl (!decide (a = b))) μ := rfl
  rw [e] at h
  exact op_notBl pins s σ H _ _ v u Q I rx ry ⟨a, b, rfl, rfl, h.val M rbl⟩
end
end PL
end
section
set_option autoImplicit false
set_option Elab.async false
set_option linter.all false
set_option maxRecDepth 100000
set_option maxHeartbeats 2000000
/-! Dicts with keys numbers and texts. -/
namespace PL
open PySem PySem.Spec PyProof.Rows L2
section
variable {K : PySem.W.Frag} {H : Hp} {ρ : List Addr}
theorem RepK.nil : RepK K H ρ [] [] := rfl
theorem RepK.cons_iff {p : DK × PV} {ps : KVs} {zs : List (Key × V)} : RepK K H ρ (p :: ps) zs ↔ ∃ y ys, zs = (p.1, y) :: ys ∧ Rep K H ρ p.2 y ∧ RepK K H ρ ps ys := Iff.rfl
theorem RepK.length : ∀ {kvs : KVs} {xs : List (Key × V)}, RepK K H ρ kvs xs → xs.length = kvs.length
  | [], xs, h => by have h' : xs = [] := h; subst h'; rfl
  | p :: ps, xs, h => by
    obtain ⟨y, ys, rfl, _, t⟩ := h
    simp [RepK.length t]
theorem RepK.val (k : DK) : ∀ {kvs : KVs} {xs : List (Key × V)}, RepK K H ρ kvs xs → (valD kvs k = none ∧ valV xs k = none) ∨ ∃ p x, valD kvs k = some p ∧ valV xs k = some x ∧ Rep K H ρ p x
  | [], xs, h => by have h' : xs = [] := h; subst h'; exact .inl ⟨rfl, rfl⟩
  | p :: ps, xs, h => by
    obtain ⟨y, ys, rfl, r, t⟩ := h
    by_cases e : p.1 = k
    · refine .inr ⟨p.2, y, by simp [valD, e], valV_pos (p := (p.1, y)) e, r⟩
    · have e1 : valD (p :: ps) k = valD ps k := by simp [valD, e]
      have e2 : valV ((p.1, y) :: ys) k = valV ys k := valV_neg (p := (p.1, y)) e
      rw [e1, e2]
      exact RepK.val k t
theorem RepK.any (k : DK) {kvs : KVs} {xs : List (Key × V)} (h : RepK K H ρ kvs xs) : (kvs.any fun kv => decide (kv.1 = k)) = xs.any fun kv => decide (kv.1 = k) := by
  induction kvs generalizing xs with
  | nil => have h' : xs = [] := h; subst h'; rfl
  | cons p ps ih =>
    obtain ⟨y, ys, rfl, r, t⟩ := h
    rw [List.any_cons, List.any_cons, ih t]
theorem RepK.map (k : DK) {q : PV} {y : V} (hq : Rep K H ρ q y) : ∀ {kvs : KVs} {xs : List (Key × V)}, RepK K H ρ kvs xs → RepK K H ρ (kvs.map fun kv => if kv.1 = k then (kv.1, q) else kv) (xs.map fun kv => if kv.1 = k then (kv.1, y) else kv)
  | [], xs, h => by have h' : xs = [] := h; subst h'; rfl
  | p :: ps, xs, h => by
    obtain ⟨z, ys, rfl, r, t⟩ := h
    by_cases e : p.1 = k
    · simp only [List.map_cons, e, if_true]
      exact ⟨y, _, rfl, hq, RepK.map k hq t⟩
    · simp only [List.map_cons, e, if_false]
      exact ⟨z, _, rfl, r, RepK.map k hq t⟩
theorem RepK.snoc {k : DK} {q : PV} {y : V} (hq : Rep K H ρ q y) : ∀ {kvs : KVs} {xs : List (Key × V)}, RepK K H ρ kvs xs → RepK K H ρ (kvs ++ [(k, q)]) (xs ++ [(k, y)])
  | [], xs, h => by have h' : xs = [] := h; subst h'; exact ⟨y, [], rfl, hq, rfl⟩
  | p :: ps, xs, h => by
    obtain ⟨z, ys, rfl, r, t⟩ := h
    exact ⟨z, _, rfl, r, RepK.snoc hq t⟩
theorem RepK.put {k : DK} {q : PV} {y : V} (hq : Rep K H ρ q y) {kvs : KVs} {xs : List (Key × V)} (h : RepK K H ρ kvs xs) : RepK K H ρ (putD kvs k q) (putK xs k y) := by
  unfold putD putK
  rw [h.any k]
  split
  · exact h.map k hq
  · exact h.snoc hq
theorem RepK.merge : ∀ {more : KVs} {ms : List (Key × V)} {kvs : KVs} {xs : List (Key × V)}, RepK K H ρ more ms → RepK K H ρ kvs xs → RepK K H ρ (mergeD kvs more) (mergeK xs ms)
  | [], ms, kvs, xs, h, t => by have h' : ms = [] := h; subst h'; exact t
  | p :: ps, ms, kvs, xs, h, t => by
    obtain ⟨y, ys, rfl, r, u⟩ := h
    have q := RepK.merge (more := ps) (ms := ys) u (t.put (k := p.1) r)
    exact q
theorem key_of' {q : PV} {k : DK} {y : V} (e : keyOf q = some k) (r : Rep K H ρ q y) : y = kV k := by
  cases q <;> simp only [keyOf, Option.some.injEq, reduceCtorEq] at e
  · subst e; exact vint r
  · subst e; exact vstr r
theorem dct_of {μ : Mem} {p : PV} {kvs : KVs} {x : V} (M : MemOk K H ρ μ) (e : dctAt μ p = some kvs) (r : Rep K H ρ p x) : ∃ n a xs, p = .ref n ∧ μ[n]? = some (.dct kvs) ∧ ρ[n]? = some a ∧ x = .ref a ∧ H a = some (.dK xs) ∧ RepK K H ρ kvs xs := by
  cases p <;> simp only [dctAt, reduceCtorEq] at e
  rename_i n
  split at e
  · rename_i kvs' e2
    cases e
    obtain ⟨a, h1, h2⟩ := rep_ref M r
    obtain ⟨xs, h3, h4⟩ := M.at' n _ a e2 h1
    exact ⟨n, a, xs, rfl, e2, h1, h2, h3, h4⟩
  · cases e
end
section
variable {X : Cx} {E : XK} {o i e : Expr} {fo fi fe : Ex} {pos pos' : Pos}
theorem pp_dget (hu : X.A.units + 1 < cLine) (ho : PP X E o fo) (hi : PP X E i fi) (hs : NoSl i := by intro _ _; rfl) : PP X E (.Subscript o i pos) (app2 fDGet fo fi) := ⟨by
  refine PE.imp (pe_dget hu ho.pe hi.pe hs) fun σ H Q h => ?_
  obtain ⟨env, μ, ρ, eo, M, h⟩ := h
  refine tE_bind eo M h fun x H1 p m ρ1 _ l1 e1 M1 r1 q1 => tE_bind e1 M1 q1 fun y H2 q m2 ρ2 _ l2 e2 M2 r2 q2 => ?_
  simp only [fDGet] at q2
  split at q2
  · rename_i kvs k h1 h2
    obtain ⟨n, a, xs, rfl, g1, g2, g3, g4, g5⟩ := dct_of M2 h1 (Rep.mono l2 _ _ r1)
    subst g3
    rcases g5.val k with ⟨z1, z2⟩ | ⟨p', x', z1, z2, z3⟩
    · rw [z1] at q2; exact q2.elim
    · rw [z1] at q2
      refine ⟨a, x', rfl, ?_, q2.val M2 z3⟩
      rw [key_of' h2 r2, ← z2]
      exact DGet.k g4
  · exact q2.elim⟩
theorem pps_dput (hu : X.A.units + 1 < cLine) (ho : PP X E o fo) (hi : PP X E i fi) (he : PP X E e fe) (hs : swapsWith e (some (.Subscript o i pos')) pos.line X.env = pure false := by rfl) :
    PPs X E (.Assign [.Subscript o i pos'] e pos) (dput fo fi fe) := ⟨by
  refine PS.imp (ps_dput hu ho.pe hi.pe he.pe hs) fun D σ H h => ?_
  obtain ⟨env, μ, ρ, eo, M, h⟩ := h
  have step : ∀ {f : Ex} {k : PV → Mem → Out} {H ρ env μ}, EnvOk X.K H ρ env σ → MemOk X.K H ρ μ → PostS X.K X.mg E H ρ D (.of (f env μ) k) → ∀ {Q : VK}, (∀ x H1 p m ρ1, Lat X.K H ρ H1 ρ1 → EnvOk X.K H1 ρ1 env σ → MemOk X.K H1 ρ1 m → Rep X.K H1 ρ1 p x → PostS X.K X.mg E H1 ρ1 D (k p m) → Q x H1) → tE X.K X.mg E f σ H Q :=
    fun {f k H ρ env μ} eo M h {Q} i => ⟨env, μ, ρ, eo, M, (PostS.of (R := RP X.K) h).imp fun x H1 ⟨p, m, ρ1, e, l, M1, r, q⟩ => i x H1 p m ρ1 l (eo.mono l) M1 r q⟩
  refine step (f := fe) eo M h fun v H1 p m ρ1 l1 e1 M1 r1 q1 => step (f := fo) e1 M1 q1 fun x H2 px m2 ρ2 l2 e2 M2 r2 q2 => step (f := fi) e2 M2 q2 fun y H3 py m3 ρ3 l3 e3 M3 r3 q3 => ?_
  have rx := Rep.mono l3 _ _ r2
  have rv := Rep.mono (l2.trans l3) _ _ r1
  cases px with
  | ref n =>
    simp only [fDPut] at q3
    split at q3
    · rename_i kvs k h1 h2
      split at q3
      · rename_i hz
        obtain ⟨n', a, xs, en, g1, g2, g3, g4, g5⟩ := dct_of (p := .ref n) (kvs := kvs) M3 (by simp only [dctAt, h1]) rx
        cases en
        subst g3
        have hl : xs.length < sizeLine := by rw [g5.length, SL_eq]; exact hz
        refine ⟨a, _, rfl, by rw [key_of' h2 r3]; exact DPut.k g4 hl, ?_⟩
        have L0 : Lat X.K H3 ρ3 (upd H3 a (.dK (putK xs k v))) ρ3 := ⟨⟨[], by simp⟩, .upd (fun xs q => by rw [g4] at q; cases q) fun ob xs q => by rw [g4] at q; cases q⟩
        have w := M3.set (ho := .dK (putK xs k v)) (u := .dct (putD kvs k p)) h1 g2 rfl ⟨_, upd_same, RepK.mono L0 _ _ (g5.put rv)⟩
        have q4 : PostS X.K X.mg E H3 ρ3 D (.nx env (m3.set n (.dct (putD kvs k p)))) := q3
        exact q4 σ _ ρ3 w.2 w.1 (e3.mono w.2)
      · exact q3.elim
    · exact q3.elim
  | _ => exact q3.elim⟩
theorem pp_dnew : PP X E (.Dict [] [] pos) dnew := ⟨by
  refine PE.imp pe_dnewK fun σ H Q h => ?_
  obtain ⟨env, μ, ρ, eo, M, h⟩ := h
  intro p hp
  have q := M.push (ho := .dK []) (o := .dct []) hp fun H' ρ' L e => ⟨[], e, rfl⟩
  have h' : Post X.K X.mg E (RP X.K) H ρ Q (.ok (.ref μ.length) (μ ++ [.dct []])) := h
  refine h' (.ref p) _ _ q.2 q.1 ?_
  show Rep X.K _ _ (.ref μ.length) (.ref p)
  simp only [Rep]
  exact ⟨p, by rw [← M.len, List.getElem?_append_right (Nat.le_refl _)]; simp, rfl⟩⟩
/-- pairs of a display -/
def RPP (K : PySem.W.Frag) (H : Hp) (ρ : List Addr) : List (PV × PV) → List (V × V) → Prop
  | [], xs => xs = []
  | p :: ps, xs => ∃ x y ys, xs = (x, y) :: ys ∧ Rep K H ρ p.1 x ∧ Rep K H ρ p.2 y ∧ RPP K H ρ ps ys
theorem RPP.mono {K : PySem.W.Frag} {H H' : Hp} {ρ ρ' : List Addr} (l : Lat K H ρ H' ρ') : ∀ (ps : List (PV × PV)) (xs : List (V × V)), RPP K H ρ ps xs → RPP K H' ρ' ps xs
  | [], _, h => h
  | p :: ps, xs, h => by
    obtain ⟨x, y, ys, e, r1, r2, t⟩ := h
    exact ⟨x, y, ys, e, Rep.mono l _ _ r1, Rep.mono l _ _ r2, RPP.mono l ps ys t⟩
structure PPP (X : Cx) (E : XK) (pos : Pos) (ks : List (Option Expr)) (vs : List Expr) (f : Ap) : Prop where
  ex : ∃ trs, L2.PPs X pos ks vs trs ∧ ∀ σ H (Q : List (V × V) → Hp → Prop), (∃ env μ ρ, EnvOk X.K H ρ env σ ∧ MemOk X.K H ρ μ ∧ Post X.K X.mg E (RPP X.K) H ρ Q (f env μ)) → tPairs trs σ H Q
theorem ppp_nil : PPP X E pos [] [] dn := ⟨[], L2.pps_nil, fun σ H Q ⟨env, μ, ρ, eo, M, h⟩ => Post.val (R := RPP X.K) (show Post X.K X.mg E (RPP X.K) H ρ Q (Res.ok [] μ) from h) M rfl⟩
theorem ppp_cons {k v : Expr} {fk fv : Ex} {ks : List (Option Expr)} {vs : List Expr} {f : Ap} (hk : PP X E k fk) (hv : PP X E v fv) (hr : PPP X E pos ks vs f) : PPP X E pos (some k :: ks) (v :: vs) (dc fk fv f) := by
  obtain ⟨trs, h1, h2⟩ := hr.ex
  refine ⟨(tE X.K X.mg E fk, tE X.K X.mg E fv) :: trs, L2.pps_cons hk.pe hv.pe h1, fun σ H Q ⟨env, μ, ρ, eo, M, h⟩ => ?_⟩
  refine tE_bind (fa := fk) eo M h fun x H1 p m ρ1 _ l1 e1 M1 r1 q1 => tE_bind (fa := fv) e1 M1 q1 fun y H2 q m2 ρ2 _ l2 e2 M2 r2 q2 => h2 σ H2 _ ⟨env, m2, ρ2, e2, M2, ?_⟩
  refine (Post.bind (R := RPP X.K) q2).imp fun ps H3 ⟨qs, m3, ρ3, _, l3, M3, r3, q3⟩ => ?_
  exact Post.val (R := RPP X.K) (show Post X.K X.mg E (RPP X.K) H3 ρ3 Q (Res.ok ((p, q) :: qs) m3) from q3) M3 ⟨x, y, ps, rfl, Rep.mono (l2.trans l3) _ _ r1, Rep.mono l3 _ _ r2, r3⟩
theorem keys_rep {K : PySem.W.Frag} {H : Hp} {ρ : List Addr} : ∀ {ps : List (PV × PV)} {kvs : KVs} {xs : List (V × V)}, keysOf ps = some kvs → RPP K H ρ ps xs → ∃ ks : List (Key × V), xs = ks.map (fun kv => (kV kv.1, kv.2)) ∧ RepK K H ρ kvs ks
  | [], kvs, xs, e, h => by
    simp only [keysOf, Option.some.injEq] at e
    subst e
    have h' : xs = [] := h
    subst h'
    exact ⟨[], rfl, rfl⟩
  | p :: ps, kvs, xs, e, h => by
    obtain ⟨x, y, ys, rfl, r1, r2, t⟩ := h
    simp only [keysOf] at e
    split at e
    · rename_i k ks h1 h2
      cases e
      obtain ⟨zs, rfl, hz⟩ := keys_rep h2 t
      exact ⟨(k, y) :: zs, by rw [key_of' h1 r1]; rfl, y, zs, rfl, r2, hz⟩
    · cases e
theorem pp_disp {ks : List (Option Expr)} {vs : List Expr} {f : Ap} (h : PPP X E pos ks vs f) (hall : ks.all (·.isSome) = true := by rfl) (hl : ks.length = vs.length := by rfl) (h0 : ks ≠ [] := by exact fun h => nomatch h) (h15 : ks.length ≤ 15 := by decide) :
    PP X E (.Dict ks vs pos) (dsp f) := by
  obtain ⟨trs, h1, h2⟩ := h.ex
  refine ⟨PE.imp (pe_disp h1 hall hl h0 h15) fun σ H Q hq => ?_⟩
  obtain ⟨env, μ, ρ, eo, M, hq⟩ := hq
  intro p hp
  have q := M.push (ho := .dK []) (o := .dct []) hp fun H' ρ' L e => ⟨[], e, rfl⟩
  have hq' : Post X.K X.mg E (RP X.K) H ρ Q ((f env (μ ++ [.dct []])).bind fun ps μ1 => dfin μ.length ps μ1) := hq
  refine h2 σ _ _ ⟨env, μ ++ [.dct []], ρ ++ [p], eo.mono q.2, q.1, ?_⟩
  refine (Post.bind (R := RPP X.K) (hq'.later q.2)).imp fun ps H3 ⟨qs, m3, ρ3, _, l3, M3, r3, q3⟩ => ?_
  unfold dfin at q3
  split at q3
  · rename_i kvs e1 e2
    split at q3
    · rename_i hz
      have hp1 : (ρ ++ [p])[μ.length]? = some p := by rw [← M.len, List.getElem?_append_right (Nat.le_refl _)]; simp
      have hp3 := l3.get hp1
      obtain ⟨xs, k1, k2⟩ := M3.at' _ _ p e1 hp3
      have k3 : xs = [] := k2
      subst k3
      obtain ⟨zs, rfl, hzs⟩ := keys_rep e2 r3
      refine ⟨k1, zs, rfl, by rw [hzs.length]; exact hz, ?_⟩
      have L0 : Lat X.K H3 ρ3 (upd H3 p (.dK (mergeK [] zs))) ρ3 := ⟨⟨[], by simp⟩, .upd (fun xs q => by rw [k1] at q; cases q) fun ob xs q => by rw [k1] at q; cases q⟩
      have w := M3.set (ho := .dK (mergeK [] zs)) (u := .dct (mergeD [] kvs)) e1 hp3 rfl ⟨_, upd_same, RepK.mono L0 _ _ (hzs.merge (kvs := []) (xs := []) rfl)⟩
      refine q3 (.ref p) _ _ w.2 w.1 ?_
      show Rep X.K _ _ (.ref μ.length) (.ref p)
      simp only [Rep]
      exact ⟨p, hp3, rfl⟩
    · exact q3.elim
  · exact q3.elim
theorem din_read {f : Fn} {g : Bool → Bool} (hf : ∀ q d μ, f [q, d] μ = match dctAt μ d, keyOf q with
    | some kvs, some k => .ok (.bl (g (valD kvs k).isSome)) μ
    | _, _ => .stuck) {K : PySem.W.Frag} {mg : Str → Option Value} {σ : L2.St} {H : Hp} {Q : VK} (h : tE K mg E (app2 f fi fo) σ H Q) :
    tE K mg E fi σ H fun y H1 => tE K mg E fo σ H1 fun x H2 => ∃ a o, x = .ref a ∧ DGet H2 a y o ∧ Q (.bl (g o.isSome)) H2 := by
  obtain ⟨env, μ, ρ, eo, M, h⟩ := h
  refine tE_bind eo M h fun y H1 p m ρ1 _ l1 e1 M1 r1 q1 => tE_bind e1 M1 q1 fun x H2 q m2 ρ2 _ l2 e2 M2 r2 q2 => ?_
  rw [hf] at q2
  split at q2
  · rename_i kvs k h1 h2
    obtain ⟨n, a, xs, rfl, g1, g2, g3, g4, g5⟩ := dct_of M2 h1 r2
    subst g3
    have hk := key_of' h2 (Rep.mono l2 _ _ r1)
    refine ⟨a, valV xs k, rfl, by rw [hk]; exact DGet.k g4, ?_⟩
    have es : (valV xs k).isSome = (valD kvs k).isSome := by
      rcases g5.val k with ⟨z1, z2⟩ | ⟨p', x', z1, z2, z3⟩
      · rw [z1, z2]; rfl
      · rw [z1, z2]; rfl
    rw [es]
    exact Post.val (R := RP K) q2 M2 rbl
  · exact q2.elim
theorem pp_din (hu : X.A.units + 1 < cLine) (hi : PP X E i fi) (ho : PP X E o fo) (hm : behindInMarks .In o = false := by first | rfl | with_unfolding_all rfl) : PP X E (.Compare i [.In] [o] pos) (app2 fDIn fi fo) :=
  ⟨PE.imp (pe_cmp (pc_din hu hi.pe ho.pe) hm) fun σ H Q h => din_read (g := id) (fun _ _ _ => rfl) h⟩
theorem pp_dnotin (hu : X.A.units + 1 < cLine) (hi : PP X E i fi) (ho : PP X E o fo) (hm : behindInMarks .NotIn o = false := by first | rfl | with_unfolding_all rfl) : PP X E (.Compare i [.NotIn] [o] pos) (app2 fDNotIn fi fo) :=
  ⟨PE.imp (pe_cmp (pc_dnotin hu hi.pe ho.pe) hm) fun σ H Q h => din_read (g := fun b => !b) (fun _ _ _ => rfl) h⟩
theorem tB_read {f : Ex} {K : PySem.W.Frag} {mg : Str → Option Value} {σ : L2.St} {H : Hp} {Q : Bool → Hp → Prop} {t : TE} (i : ∀ Q, tE K mg E f σ H Q → t σ H Q) (h : tT K mg E f σ H Q) : tB t σ H Q := i _ (tE_test h)
theorem ppt_din (hu : X.A.units + 1 < cLine) (hi : PP X E i fi) (ho : PP X E o fo) (hm : behindInMarks .In o = false := by first | rfl | with_unfolding_all rfl) : PPT X E (.Compare i [.In] [o] pos) (app2 fDIn fi fo) :=
  ⟨PT.imp (pt_cmp (pc_din hu hi.pe ho.pe) hm) fun σ H Q h => tB_read (fun Q h => din_read (g := id) (fun _ _ _ => rfl) h) h⟩
theorem ppt_dnotin (hu : X.A.units + 1 < cLine) (hi : PP X E i fi) (ho : PP X E o fo) (hm : behindInMarks .NotIn o = false := by first | rfl | with_unfolding_all rfl) : PPT X E (.Compare i [.NotIn] [o] pos) (app2 fDNotIn fi fo) :=
  ⟨PT.imp (pt_cmp (pc_dnotin hu hi.pe ho.pe) hm) fun σ H Q h => tB_read (fun Q h => din_read (g := fun b => !b) (fun _ _ _ => rfl) h) h⟩
end
theorem hu1 {n : Nat} (h : n + 64 < cLine) : n + 1 < cLine := by omega
end PL
end
section
set_option autoImplicit false
set_option Elab.async false
set_option linter.all false
set_option maxRecDepth 100000
set_option maxHeartbeats 4000000
/-! A tuple so many times, also none, once, of nothing. -/
namespace PL
open PySem PySem.Spec PyProof.Rows L2
theorem tuple_mul_same (l : Addr) (items : Array Value) (n : Nat) (dd : Option Addr) (sl : Array (Option Value)) (x : Int) (u : Tok) (k0 : (decide (x < -(2 ^ 63)) || decide (x ≥ 2 ^ 63)) = false) (k1 : (items.isEmpty || x == 1) = true) :
    Meets (Builtin.«tuple.__mul__» ⟨[.ref l, .int x u], []⟩) (fun _ R s => s.heap.get? l = some { cls := .type "tuple", dict := dd, data := .seq items n, slots := sl } ∧
      R (.ok (.ret (Value.ref l))) s) :=
  .of_wp fun prog w A R s h => by
    obtain ⟨hp, gs, dr, tk, os⟩ := s; obtain ⟨hat, h⟩ := h; have f1 := AutoSeq1.idx_int
    wp_walk using wpAny_loadPart' hat
    repeat (first
      | (refine wpAny_ite_false (decide_eq_false (by rw [k0]; exact Bool.false_ne_true)) ?_; wp_walk using wpAny_loadPart' hat)
      | (refine wpAny_ite_true (decide_eq_true k1) ?_; wp_walk using wpAny_loadPart' hat))
    exact ⟨_, rfl, h⟩
theorem tuple_mul_none (l : Addr) (items : Array Value) (n : Nat) (dd : Option Addr) (sl : Array (Option Value)) (x : Int) (u : Tok) (k0 : (decide (x < -(2 ^ 63)) || decide (x ≥ 2 ^ 63)) = false) (k1 : (items.isEmpty || x == 1) = false) (k2 : (decide (x ≤ 0) || items.isEmpty) = true) :
    Meets (Builtin.«tuple.__mul__» ⟨[.ref l, .int x u], []⟩) (fun _ R s => s.heap.get? l = some { cls := .type "tuple", dict := dd, data := .seq items n, slots := sl } ∧
      R (.ok (.ret (Value.ref s.heap.objs.size))) { s with heap := s.heap.push { cls := Value.type "tuple", data := Data.seq #[] }, toks := s.toks }) :=
  .of_wp fun prog w A R s h => by
    obtain ⟨hp, gs, dr, tk, os⟩ := s; obtain ⟨hat, h⟩ := h; have f1 := AutoSeq1.idx_int
    wp_walk using wpAny_loadPart' hat
    repeat (first
      | (refine wpAny_ite_false (decide_eq_false (by rw [k0]; exact Bool.false_ne_true)) ?_; wp_walk using wpAny_loadPart' hat)
      | (refine wpAny_ite_false (decide_eq_false (by rw [k1]; exact Bool.false_ne_true)) ?_; wp_walk using wpAny_loadPart' hat)
      | (refine wpAny_ite_true (decide_eq_true k2) ?_; wp_walk using wpAny_loadPart' hat))
    exact ⟨_, rfl, h⟩
section
variable {X : Cx} {E : XK}
theorem opP_mulT : OpR X (binaryOp .Mult) (rP2 X.K X.mg E fMulT) := by
  intro pins s σ H x y v u Q I rx ry h
  obtain ⟨μ, ρ, p, q, M, hp, hq, h⟩ := h
  cases p <;> cases q <;> first | exact h.elim | skip
  rename_i l j
  obtain rfl := vint hq
  obtain ⟨a, xs, rfl, h1, h2⟩ := rep_tup hp
  simp only [fMulT] at h
  split at h
  · rename_i hz
    obtain ⟨z1, z2, z3⟩ := hz
    by_cases cA : xs ≠ [] ∧ 2 ≤ j
    · exact op_repT pins s σ H _ _ v u Q I rx ry ⟨a, j, xs, rfl, rfl, h1, cA.1, cA.2, z2, by rw [h2.length]; exact z3, h.newT M (h2.rep _)⟩
    · cases rx
      obtain ⟨t, rfl⟩ := ry
      obtain ⟨its, r, ⟨⟨cls, dd, data, sl⟩, ho, hc, n, hd⟩, hs⟩ := I.tuple h1
      simp only at hc hd
      subst hc hd
      have k0 : (decide (j < -(2 ^ 63)) || decide (j ≥ 2 ^ 63)) = false := by
        rw [decide_eq_false (by omega), decide_eq_false (by omega)] <;> rfl
      have hle : its.length = xs.length := r.length.symm
      by_cases k1 : (its.toArray.isEmpty || j == 1) = true
      · refine wpAny_binaryOp_repeat_ref (T := "tuple") (U := "int") (by decide) ⟨_, ho, rfl⟩ (fun s' => typeIs_int s' j t) noFill_tuple_mul F.fills_int_mul F.slot_int_rmul repeat_tuple F.slot_int_index.lookup
          (call_meets F.slot_int_rmul (typeIs_int s j t) F.entry_int_rmul (F.args_int_rmul_2 _ _) (int_rmul_tuple j t a its.toArray n dd sl)
            ⟨ho, rfl, ⟨_, ho, rfl⟩, call_meets F.slot_tuple_mul ⟨_, ho, rfl⟩ F.entry_tuple_mul (F.args_tuple_mul_2 _ _) (tuple_mul_same a its.toArray n dd sl j t k0 k1) ⟨ho, ?_⟩⟩)
        refine ⟨.ref a, H, I, rfl, h.val M ?_⟩
        show Rep X.K H ρ (.tup (List.replicate j.toNat l).flatten) (.ref a)
        simp only [Rep]
        refine ⟨a, xs, rfl, h1, ?_⟩
        have el : (List.replicate j.toNat l).flatten = l := by
          rcases Bool.or_eq_true _ _ ▸ k1 with c | c
          · have e0 : its = [] := by
              cases its with
              | nil => rfl
              | cons a b => cases c
            have e1 : l = [] := List.eq_nil_of_length_eq_zero (by rw [← h2.length, ← hle, e0]; rfl)
            subst e1
            induction j.toNat with
            | zero => rfl
            | succ k ih => rw [List.replicate_succ, List.flatten_cons, ih]; rfl
          · have : j = 1 := by simpa using c
            subst this
            simp
        rw [el]; exact h2
      · have k1n : (its.toArray.isEmpty || j == 1) = false := by simpa using k1
        have hne : its ≠ [] := by
          intro e; subst e; simp at k1n
        have hj : j ≤ 0 := by
          have : j ≠ 1 := by
            intro e; subst e; simp at k1n
          by_cases c3 : 2 ≤ j
          · exact absurd ⟨fun e => hne (List.eq_nil_of_length_eq_zero (by rw [hle, e]; rfl)), c3⟩ cA
          · omega
        have k2 : (decide (j ≤ 0) || its.toArray.isEmpty) = true := by rw [decide_eq_true hj]; rfl
        refine wpAny_binaryOp_repeat_ref (T := "tuple") (U := "int") (by decide) ⟨_, ho, rfl⟩ (fun s' => typeIs_int s' j t) noFill_tuple_mul F.fills_int_mul F.slot_int_rmul repeat_tuple F.slot_int_index.lookup
          (call_meets F.slot_int_rmul (typeIs_int s j t) F.entry_int_rmul (F.args_int_rmul_2 _ _) (int_rmul_tuple j t a its.toArray n dd sl)
            ⟨ho, rfl, ⟨_, ho, rfl⟩, call_meets F.slot_tuple_mul ⟨_, ho, rfl⟩ F.entry_tuple_mul (F.args_tuple_mul_2 _ _) (tuple_mul_none a its.toArray n dd sl j t k0 k1n k2) ⟨ho, ?_⟩⟩)
        have e0 : (List.replicate j.toNat l).flatten = [] := by
          have : j.toNat = 0 := by omega
          rw [this]; rfl
        rw [e0] at h
        refine ⟨.ref s.heap.objs.size, _, I.laid (t' := s.toks) (o := .tup []) (fun b ob q => Heap.get?_push_of_some _ q) (Nat.le_refl _) ?_, rfl, h.newT M (xs := []) (by simp only [Reps]) _ (I.hok.fresh (Nat.le_refl _))⟩
        exact ⟨Nat.zero_le _, [], .nil, IsTup.new _ _⟩
  · exact h.elim
end
end PL
end
section
set_option autoImplicit false
set_option Elab.async false
set_option linter.all false
set_option maxRecDepth 100000
set_option maxHeartbeats 4000000
/-! `or` of values. -/
namespace PL
open PySem PySem.Spec PyProof.Rows L2
section
variable {X : Cx} {E : XK} {a b : Expr} {fa fb : Ex} {rest : List Expr} {pos : Pos}
theorem pp_orV (ha : PP X E a fa) (hb : PP X E (.BoolOp .Or (b :: rest) pos) fb) : PP X E (.BoolOp .Or (a :: b :: rest) pos) (orV fa fb) := ⟨by
  refine PE.imp (pe_orT ha.pe hb.pe) fun σ H Q h => ?_
  obtain ⟨env, μ, ρ, eo, M, h⟩ := h
  exact tE_bind eo M h fun x H1 p m ρ1 _ l1 e1 M1 r1 q1 => by
    cases p with
    | non =>
      obtain rfl := vnon r1
      exact ⟨false, rfl, by simpa using ⟨env, m, ρ1, e1, M1, q1⟩⟩
    | bl t =>
      obtain rfl := vbl r1
      cases t with
      | false => exact ⟨false, rfl, by simpa using ⟨env, m, ρ1, e1, M1, q1⟩⟩
      | true => exact ⟨true, rfl, by simpa using Post.val q1 M1 r1⟩
    | int i =>
      obtain rfl := vint r1
      by_cases hi : (i != 0) = true
      · refine ⟨true, hi.symm, ?_⟩
        simp only [truP, hi] at q1
        simpa using Post.val q1 M1 r1
      · have hi' : (i != 0) = false := by simpa using hi
        refine ⟨false, hi'.symm, ?_⟩
        simp only [truP, hi'] at q1
        simpa using ⟨env, m, ρ1, e1, M1, q1⟩
    | _ => exact q1.elim⟩
end
end PL
end
section
set_option autoImplicit false
set_option Elab.async false
set_option linter.all false
set_option maxRecDepth 100000
set_option maxHeartbeats 4000000
/-! divmod of great numbers; sorted of numbers. -/
namespace PL
open PySem PySem.Spec PyProof.Rows L2
section
variable {X : Cx} {E : XK}
theorem crP_divmod : CallR X (.builtin "divmod") (rPn X.K X.mg E fDivmodW) := by
  intro pins s σ H xs us Q I rs h
  obtain ⟨μ, ρ, ps, M, hp, h⟩ := h
  match ps, hp with
  | [p, q], hp =>
    cases p with
    | int i =>
      cases q with
      | int j =>
        obtain ⟨x, y, rfl, r1, r2⟩ := reps2 hp
        obtain rfl := vint r1
        obtain rfl := vint r2
        simp only [fDivmodW] at h
        split at h
        · rename_i hc
          have b := PyProof.Rows.intBits_le hc.2
          refine call_divmodW pins s σ H _ us Q I rs ⟨i, j, rfl, divp_ok hc.1 (by omega), h.newT M ?_⟩
          exact ⟨_, _, rfl, rint, _, _, rfl, rint, rfl⟩
        · exact h.elim
      | _ => exact h.elim
    | _ => exact h.elim
  | [], _ => exact h.elim
  | [p], _ => cases p <;> exact h.elim
  | p :: q :: _ :: _, _ => cases p <;> cases q <;> exact h.elim
theorem reps_ints {K : PySem.W.Frag} {H : Hp} {ρ : List Addr} : ∀ l : List Int, Reps K H ρ (l.map PV.int) (l.map V.int)
  | [] => rfl
  | i :: l => ⟨_, _, rfl, rint, reps_ints l⟩
theorem crP_sorted : CallR X (.builtin "sorted") (rPn X.K X.mg E fSorted) := by
  intro pins s σ H xs us Q I rs h
  obtain ⟨μ, ρ, ps, M, hp, h⟩ := h
  match ps, hp with
  | [.ref n], hp =>
    obtain ⟨x, rfl, r⟩ := reps1 hp
    simp only [fSorted] at h
    split at h
    · rename_i is e
      cases e2 : getL μ (.ref n) with
      | none => rw [e2] at e; simp at e
      | some l =>
        rw [e2] at e
        obtain ⟨a, ys, rfl, k1, k2, _⟩ := getL_ref M r e2
        obtain rfl := intsOf_map (show intsOf l = some is from e) k2
        refine cr_sortedI pins s σ H _ us Q I rs ⟨a, is, rfl, k1, fun ns' p hper hasc hn => ?_⟩
        have e3 : ns' = sortI is := asc_uniq (hper.trans (sortI_perm is).symm) hasc (sortI_asc is)
        rw [e3]
        exact h.newL M (reps_ints _) p hn
    · exact h.elim
  | [], _ => exact h.elim
  | p :: _ :: _, _ => cases p <;> exact h.elim
theorem isTrue_ite {t a b : Expr} {pos : Pos} {env : PySem.Env} {whole : Sem Value} {M : Model} {A : Around} {D : Value → Shared → Prop} {s : Shared} {Q : Bool → Shared → Prop}
    (h : wpAny M A (isTrue t env (eval t env)) (fun d s₁ => if d = true then wpAny M A (isTrue a env (eval a env)) Q D s₁ else wpAny M A (isTrue b env (eval b env)) Q D s₁) D s) : wpAny M A (isTrue (.IfExp t a b pos) env whole) Q D s := by
  have e : isTrue (.IfExp t a b pos) env whole = (do if ← isTrue t env (eval t env) then isTrue a env (eval a env) else isTrue b env (eval b env)) := rfl
  rw [e]
  refine wpAny_bind (wpAny_mono h (fun d s₁ h₁ => ?_) fun _ _ x => x)
  cases d <;> exact h₁
def tIfT (t ta tb : TT) : TT := fun σ H Q => t σ H fun d H1 => if d = true then ta σ H1 Q else tb σ H1 Q
theorem pt_ifExp {t a b : Expr} {pos : Pos} {tt ta tb : TT} (ht : PT X t tt) (ha : PT X a ta) (hb : PT X b tb) : PT X (.IfExp t a b pos) (tIfT tt ta tb) := by
  refine ⟨fun pins s σ H Q I h => ?_⟩
  refine isTrue_ite (thn (ht.run pins s σ H _ I h) fun d s1 ⟨H1, I1, q1⟩ => ?_)
  cases d with
  | true => exact ha.run pins s1 σ H1 Q I1 q1
  | false => exact hb.run pins s1 σ H1 Q I1 q1
theorem ite_asB (fe fa fb : Ex) (env : PL.Env) (μ : Mem) : (PL.ite fe fa fb env μ).bind asB = (fe env μ).bind fun p m => onB p ((fa env m).bind asB) ((fb env m).bind asB) := by
  unfold PL.ite
  cases fe env μ with
  | ok p m => cases p with
    | bl t => cases t <;> rfl
    | _ => rfl
  | _ => rfl
theorem ppt_ite {t a b : Expr} {pos : Pos} {ft fa fb : Ex} (ht : PPT X E t ft) (ha : PPT X E a fa) (hb : PPT X E b fb) : PPT X E (.IfExp t a b pos) (PL.ite ft fa fb) := ⟨by
  refine PT.imp (pt_ifExp ht.pt ha.pt hb.pt) fun σ H Q h => ?_
  obtain ⟨env, μ, ρ, eo, M, h⟩ := h
  rw [ite_asB] at h
  exact tT_bind (k1 := fun m => (fa env m).bind asB) (k2 := fun m => (fb env m).bind asB) eo M h fun t H1 m ρ1 _ l1 e1 M1 q1 => by
    cases t with
    | true => exact ⟨env, m, ρ1, e1, M1, q1⟩
    | false => exact ⟨env, m, ρ1, e1, M1, q1⟩⟩
end
end PL
end
section
set_option autoImplicit false
/-! How pure bodies are run: rewriting rules. -/
namespace PL
open PySem
section
variable (env : Env) (μ : Mem)
@[simp] theorem c_ev (p : PV) : c p env μ = .ok p μ := id rfl
@[simp] theorem an_ev : an env μ = .ok [] μ := id rfl
@[simp] theorem ac_ev (a : Ex) (r : Ag) : ac a r env μ = (a env μ).bind fun p μ1 => (r env μ1).bind fun ps μ2 => .ok (p :: ps) μ2 := id rfl
@[simp] theorem acs_ev (a : Ex) (r : Ag) : acs a r env μ = (a env μ).bind fun p μ1 => match p with
  | .tup l => (r env μ1).bind fun ps μ2 => .ok (l ++ ps) μ2
  | .ref n => match μ1[n]? with | some (.lst l) => (r env μ1).bind fun ps μ2 => .ok (l ++ ps) μ2 | _ => .stuck
  | _ => .stuck := id rfl
@[simp] theorem stuckS_ev : stuckS env μ = .stuck := id rfl
@[simp] theorem app_ev (f : Fn) (as : Ag) : app f as env μ = (as env μ).bind fun ps μ1 => f ps μ1 := id rfl
@[simp] theorem app1_ev (f : Fn) (a : Ex) : app1 f a env μ = (a env μ).bind fun p μ1 => f [p] μ1 := id rfl
@[simp] theorem app2_ev (f : Fn) (a b : Ex) : app2 f a b env μ = (a env μ).bind fun p μ1 => (b env μ1).bind fun q μ2 => f [p, q] μ2 := id rfl
@[simp] theorem mth_ev (k : Kd) (f : Fn) (o : Ex) (g : Ag) : mth k f o g env μ = (o env μ).bind fun p μ1 => if isKd k μ1 p = true then (g env μ1).bind fun ps μ2 => f (p :: ps) μ2 else .stuck := id rfl
@[simp] theorem ite_ev (t a b : Ex) : ite t a b env μ = (t env μ).bind fun p μ1 => onB p (a env μ1) (b env μ1) := id rfl
@[simp] theorem and_ev (a b : Ex) : PL.and a b env μ = (a env μ).bind fun p μ1 => onB p (b env μ1) (.ok (.bl false) μ1) := id rfl
@[simp] theorem or_ev (a b : Ex) : PL.or a b env μ = (a env μ).bind fun p μ1 => onB p (.ok (.bl true) μ1) (b env μ1) := id rfl
@[simp] theorem chain_ev (f g : Fn) (a b d : Ex) : chain f g a b d env μ = (a env μ).bind fun p μ1 => (b env μ1).bind fun q μ2 => (f [p, q] μ2).bind fun t μ3 =>
  onB t ((d env μ3).bind fun r μ4 => g [q, r] μ4) (.ok (.bl false) μ3) := id rfl
@[simp] theorem sl_ev (a lo hi : Ex) : sl a lo hi env μ = (a env μ).bind fun p μ1 => ((lo env μ1).bind onPart).bind fun ql μ2 => ((hi env μ2).bind onPart).bind fun qh μ3 => fSl [p, ql, qh] μ3 := id rfl
@[simp] theorem callK_ev (m : Fn) (is : List Nat) (g gk : Ag) : callK m is g gk env μ = (g env μ).bind fun as μ1 => (gk env μ1).bind fun bs μ2 => m (perm is (as ++ bs)) μ2 := id rfl
@[simp] theorem tn_ev (i : Nat) (p : PV) : tn i p env μ = .ok (env.set i (some p)) μ := id rfl
@[simp] theorem t0_ev : t0 [] env μ = .ok env μ := id rfl
@[simp] theorem tc_ev (g : Tg) (r : Tgs) (p : PV) (qs : List PV) : tc g r (p :: qs) env μ = (g p env μ).bind fun e μ1 => r qs e μ1 := id rfl
@[simp] theorem tt_ev (n : Nat) (r : Tgs) (l : List PV) : tt n r (.tup l) env μ = if l.length = n then r l env μ else .stuck := id rfl
@[simp] theorem tt_ref (n : Nat) (r : Tgs) (k : Nat) : tt n r (.ref k) env μ = (match μ[k]? with | some (.lst l) => if l.length = n then r l env μ else .stuck | _ => .stuck) := id rfl
@[simp] theorem tsub_ev (f : Fn) (o i : Ex) (p : PV) : tsub f o i p env μ = (o env μ).bind fun x μ1 => (i env μ1).bind fun y μ2 => (f [x, y, p] μ2).bind fun _ μ3 => .ok env μ3 := id rfl
@[simp] theorem skip_ev : skip env μ = .nx env μ := id rfl
@[simp] theorem brk_ev : brk env μ = .bk env μ := id rfl
@[simp] theorem cnt_ev : cnt env μ = .ct env μ := id rfl
@[simp] theorem seq_ev (a b : Sm) : seq a b env μ = (a env μ).then b := id rfl
@[simp] theorem exp_ev (e : Ex) : PL.exp e env μ = .of (e env μ) fun _ μ1 => .nx env μ1 := id rfl
@[simp] theorem ret_ev (e : Ex) : ret e env μ = .of (e env μ) fun p μ1 => .rt p μ1 := id rfl
@[simp] theorem cond_ev (t : Ex) (a b : Sm) : PL.cond t a b env μ = .of (t env μ) fun p μ1 => onS p (a env μ1) (b env μ1) := id rfl
@[simp] theorem asg_ev (g : Tg) (e : Ex) : asg g e env μ = .of (e env μ) fun p μ1 => .of (g p env μ1) fun e2 μ2 => .nx e2 μ2 := id rfl
@[simp] theorem setv_ev (i : Nat) (e : Ex) : setv i e env μ = .of (e env μ) fun p μ1 => .nx (env.set i (some p)) μ1 := id rfl
@[simp] theorem par_ev (i j : Nat) (a b : Ex) : par i j a b env μ = .of (a env μ) fun p μ1 => .of (b env μ1) fun q μ2 => .nx ((env.set i (some p)).set j (some q)) μ2 := id rfl
@[simp] theorem par3_ev (i j k : Nat) (a b d : Ex) : par3 i j k a b d env μ = .of (a env μ) fun p μ1 => .of (b env μ1) fun q μ2 => .of (d env μ2) fun r μ3 => .nx (((env.set i (some p)).set j (some q)).set k (some r)) μ3 := id rfl
@[simp] theorem forS_ev (it : It) (g : Tg) (body : Sm) : forS it g body env μ = .of (it env μ) fun z μ1 => forN z.lk g body z.items env μ1 := id rfl
@[simp] theorem whileS_ev (t : Ex) (body : Sm) : whileS t body env μ = whileN t body fuel env μ := id rfl
@[simp] theorem iVal_ev (e : Ex) : iVal e env μ = (e env μ).bind itsOf := id rfl
@[simp] theorem iEnum_ev (e : Ex) : iEnum e env μ = (e env μ).bind enumOf := id rfl
@[simp] theorem yes_ev : yes env μ = .ok (.bl true) μ := id rfl
theorem lc_ev (it : It) (g : Tg) (t e : Ex) (vs : List Nat) : lc it g t e vs env μ = (it env μ).bind fun z μ1 => (lcN z.lk g t e vs μ1.length env z.items (μ1 ++ [.lst []])).bind fun _ μ2 => .ok (.ref μ1.length) μ2 := rfl
end
/-- a name's value -/
theorem v_ev (i : Nat) (env : Env) (μ : Mem) (p : PV) (h : env[i]? = some (some p)) : v i env μ = .ok p μ := by unfold v; rw [h]
@[simp] theorem v0 (p : PV) (e : Env) (μ : Mem) : v 0 (some p :: e) μ = .ok p μ := id rfl
@[simp] theorem vS (n : Nat) (o : Option PV) (e : Env) (μ : Mem) : v (n + 1) (o :: e) μ = v n e μ := id rfl
@[simp] theorem itsOf_tup (l : List PV) (μ : Mem) : itsOf (.tup l) μ = .ok ⟨l, []⟩ μ := id rfl
@[simp] theorem enumOf_tup (l : List PV) (μ : Mem) : enumOf (.tup l) μ = .ok ⟨enumL 0 l, []⟩ μ := id rfl
@[simp] theorem locked_nil' (μ : Mem) : locked [] μ := locked_nil μ
theorem forN_nil {lk : List (Nat × List PV)} {g : Tg} {b : Sm} {env : Env} {μ : Mem} (h : locked lk μ) : forN lk g b [] env μ = .nx env μ := by unfold forN; rw [if_pos h]
theorem forN_cons {lk : List (Nat × List PV)} {g : Tg} {b : Sm} {env : Env} {μ : Mem} {p : PV} {ps : List PV} (h : locked lk μ) : forN lk g b (p :: ps) env μ = .of (g p env μ) fun e1 μ1 => match b e1 μ1 with
      | .nx e m => forN lk g b ps e m
      | .ct e m => forN lk g b ps e m
      | .bk e m => .nx e m
      | o => o := by rw [forN, if_pos h]; try rfl
/-! memory: what was there, then new cells -/
@[simp] theorem get_new0 (μ l : Mem) : (μ ++ l)[μ.length]? = l[0]? := by rw [List.getElem?_append_right (Nat.le_refl _), Nat.sub_self]
@[simp] theorem get_new (μ l : Mem) (k : Nat) : (μ ++ l)[μ.length + k]? = l[k]? := by rw [List.getElem?_append_right (Nat.le_add_right _ _), Nat.add_sub_cancel_left]
@[simp] theorem set_new0 (μ l : Mem) (o : PO) : (μ ++ l).set μ.length o = μ ++ l.set 0 o := by rw [List.set_append_right _ _ (Nat.le_refl _), Nat.sub_self]
@[simp] theorem set_new (μ l : Mem) (k : Nat) (o : PO) : (μ ++ l).set (μ.length + k) o = μ ++ l.set k o := by rw [List.set_append_right _ _ (Nat.le_add_right _ _), Nat.add_sub_cancel_left]
@[simp] theorem get_some {μ l : Mem} {k : Nat} {o : PO} (h : μ[k]? = some o) : (μ ++ l)[k]? = some o := by
  rw [List.getElem?_append_left (List.getElem?_eq_some_iff.mp h).1]; exact h
/-! defs -/
@[simp] theorem res_rt (p : PV) (m : Mem) : (Out.rt p m).res = .ok p m := id rfl
@[simp] theorem res_nx (e : Env) (m : Mem) : (Out.nx e m).res = .ok .non m := id rfl
@[simp] theorem res_exc (x : PX) (m : Mem) : (Out.exc x m).res = .exc x m := id rfl
theorem run_ev (n : Nat) (b : Sm) (args : List PV) (μ : Mem) : run n b args μ = (b (args.map some ++ List.replicate (n - args.length) none) μ).res := rfl
theorem fn_ev (n : Nat) (b : Sm) (args : List PV) (μ : Mem) : fn n b args μ = gc μ (run n b args μ) := rfl
@[simp] theorem gc_stuck (μ : Mem) : gc μ .stuck = .stuck := id rfl
theorem gc_drop {μ l : Mem} {p : PV} (h : p.under μ.length = true) : gc μ (.ok p (μ ++ l)) = .ok p μ := by
  unfold gc
  simp only
  rw [if_pos ⟨by simp, h, fun i hi => .inl (List.getElem?_append_left hi)⟩]
  rw [List.take_left]
theorem gc_same {μ : Mem} {p : PV} : gc μ (.ok p μ) = .ok p μ := by
  unfold gc
  simp only
  split
  · rw [List.take_length]
  · rfl
/-- cells of old were written, new ones are dropped -/
theorem gc_wr {μ μ' l : Mem} {p : PV} (hl : μ'.length = μ.length) (h : p.under μ.length = true) (hw : ∀ i, i < μ.length → μ'[i]? = μ[i]? ∨ ∃ o, μ'[i]? = some o ∧ o.under μ.length = true) : gc μ (.ok p (μ' ++ l)) = .ok p μ' := by
  unfold gc
  simp only
  rw [if_pos ⟨by simp [hl], h, fun i hi => by rw [List.getElem?_append_left (by omega)]; exact hw i hi⟩]
  rw [← hl, List.take_left]
/-! data: no reference at all -/
mutual
def PV.data : PV → Bool
  | .tup l => PV.datas l
  | .ref _ => false
  | .cst _ => false
  | .non => true | .bl _ => true | .int _ => true | .str _ => true
def PV.datas : List PV → Bool
  | [] => true
  | p :: ps => PV.data p && PV.datas ps
end
mutual
theorem under_data (n : Nat) : ∀ p : PV, p.data = true → p.under n = true
  | .tup l, h => by simp only [PV.data] at h; simp only [PV.under]; exact unders_data n l h
  | .ref _, h => by simp [PV.data] at h
  | .cst _, h => by simp [PV.data] at h
  | .non, _ => by simp only [PV.under]
  | .bl _, _ => by simp only [PV.under]
  | .int _, _ => by simp only [PV.under]
  | .str _, _ => by simp only [PV.under]
theorem unders_data (n : Nat) : ∀ l : List PV, PV.datas l = true → PV.unders n l = true
  | [], _ => by simp only [PV.unders]
  | p :: ps, h => by
    simp only [PV.datas, Bool.and_eq_true] at h
    simp only [PV.unders, under_data n p h.1, unders_data n ps h.2, Bool.and_self]
end
@[simp] theorem data_int (i : Int) : PV.data (.int i) = true := by simp only [PV.data]
@[simp] theorem data_bl (i : Bool) : PV.data (.bl i) = true := by simp only [PV.data]
@[simp] theorem data_str (i : Str) : PV.data (.str i) = true := by simp only [PV.data]
@[simp] theorem data_non : PV.data .non = true := by simp only [PV.data]
@[simp] theorem data_tup (l : List PV) : PV.data (.tup l) = PV.datas l := by simp only [PV.data]
@[simp] theorem datas_nil : PV.datas [] = true := by simp only [PV.datas]
@[simp] theorem datas_cons (p : PV) (l : List PV) : PV.datas (p :: l) = (PV.data p && PV.datas l) := by simp only [PV.datas]
theorem datas_iff (l : List PV) : PV.datas l = true ↔ ∀ p ∈ l, p.data = true := by
  induction l with
  | nil => simp
  | cons p ps ih => simp [ih]
/-- a def that hands back data and leaves the old cells alone -/
theorem fn_data {n : Nat} {b : Sm} {args : List PV} {μ l : Mem} {p : PV} (h : run n b args μ = .ok p (μ ++ l)) (hd : p.data = true) : fn n b args μ = .ok p μ := by
  rw [fn_ev, h, gc_drop (under_data _ _ hd)]
theorem fn_pure0 {n : Nat} {b : Sm} {args : List PV} {μ : Mem} {p : PV} (h : run n b args μ = .ok p μ) : fn n b args μ = .ok p μ := by
  rw [fn_ev, h, gc_same]
end PL
end
section
set_option autoImplicit false
/-! Operations by rewriting. -/
namespace PL
open PySem
theorem str_inj (a b : String) : (Str.ofString a = Str.ofString b) = (a = b) := by
  apply propext
  constructor
  · intro h
    rw [Str.ofString_eq_toList, Str.ofString_eq_toList] at h
    have h2 : (a.toList.map Char.toNat) = (b.toList.map Char.toNat) := by
      have := congrArg (fun s : Str => s.cps.toList) h
      simpa using this
    have h3 : a.toList = b.toList := by
      have inj : ∀ (l k : List Char), l.map Char.toNat = k.map Char.toNat → l = k := by
        intro l
        induction l with
        | nil => intro k h; cases k with
          | nil => rfl
          | cons _ _ => simp at h
        | cons x xs ih => intro k h; cases k with
          | nil => simp at h
          | cons y ys =>
            simp only [List.map_cons, List.cons.injEq] at h
            rw [ih ys h.2]
            congr 1
            exact Char.ext (UInt32.toNat_inj.mp h.1)
      exact inj _ _ h2
    exact String.toList_inj.mp h3
  · intro h; rw [h]
@[simp] theorem str_inj' (a b : String) : (Str.ofString a = Str.ofString b) ↔ (a = b) := by rw [str_inj]
section
variable (μ : Mem)
@[simp] theorem fAdd_int (i j : Int) : fAdd [.int i, .int j] μ = .ok (.int (i + j)) μ := id rfl
@[simp] theorem fSub_int (i j : Int) : fSub [.int i, .int j] μ = .ok (.int (i - j)) μ := id rfl
@[simp] theorem fNeg_int (i : Int) : fNeg [.int i] μ = .ok (.int (-i)) μ := id rfl
@[simp] theorem fNot_bl (b : Bool) : fNot [.bl b] μ = .ok (.bl (!b)) μ := id rfl
@[simp] theorem fLt_int (i j : Int) : fLt [.int i, .int j] μ = .ok (.bl (decide (i < j))) μ := id rfl
@[simp] theorem fLe_int (i j : Int) : fLe [.int i, .int j] μ = .ok (.bl (decide (i ≤ j))) μ := id rfl
@[simp] theorem fGt_int (i j : Int) : fGt [.int i, .int j] μ = .ok (.bl (decide (j < i))) μ := id rfl
@[simp] theorem fGe_int (i j : Int) : fGe [.int i, .int j] μ = .ok (.bl (decide (j ≤ i))) μ := id rfl
@[simp] theorem fEq_int (i j : Int) : fEq [.int i, .int j] μ = .ok (.bl (decide (i = j))) μ := id rfl
@[simp] theorem fNe_int (i j : Int) : fNe [.int i, .int j] μ = .ok (.bl (!decide (i = j))) μ := id rfl
@[simp] theorem fEq_str (i j : Str) : fEq [.str i, .str j] μ = .ok (.bl (decide (i = j))) μ := id rfl
@[simp] theorem fNe_str (i j : Str) : fNe [.str i, .str j] μ = .ok (.bl (!decide (i = j))) μ := id rfl
@[simp] theorem fEq_bl (i j : Bool) : fEq [.bl i, .bl j] μ = .ok (.bl (decide (i = j))) μ := id rfl
@[simp] theorem fNe_bl (i j : Bool) : fNe [.bl i, .bl j] μ = .ok (.bl (!decide (i = j))) μ := id rfl
@[simp] theorem fInt_int (i : Int) : fInt [.int i] μ = .ok (.int i) μ := id rfl
@[simp] theorem fInt_bl (b : Bool) : fInt [.bl b] μ = .ok (.int (if b then 1 else 0)) μ := id rfl
@[simp] theorem fAbs_int (i : Int) : fAbs [.int i] μ = .ok (.int (if i < 0 then -i else i)) μ := id rfl
@[simp] theorem fMax_int (i j : Int) : fMax [.int i, .int j] μ = .ok (.int (if j > i then j else i)) μ := id rfl
@[simp] theorem fMin_int (i j : Int) : fMin [.int i, .int j] μ = .ok (.int (if j < i then j else i)) μ := id rfl
theorem fMul_ok {i j : Int} (h : mulOk i j) : fMul [.int i, .int j] μ = .ok (.int (i * j)) μ := by simp only [fMul]; rw [if_pos h]
theorem fDiv_ok {i j : Int} (h : divOk j) : fDiv [.int i, .int j] μ = .ok (.int (i / j)) μ := by simp only [fDiv]; rw [if_pos h]
theorem fMod_ok {i j : Int} (h : 0 < j) : fMod [.int i, .int j] μ = .ok (.int (i % j)) μ := by simp only [fMod]; rw [if_pos h]
theorem fPow_ok {i j : Int} (h : 0 ≤ j ∧ j ≤ 1000000 ∧ i.natAbs < 2 ^ 64) : fPow [.int i, .int j] μ = .ok (.int (i ^ j.toNat)) μ := by simp only [fPow]; rw [if_pos h]
theorem fTup_ok {l : List PV} (h : l.length ≤ SL) : fTup l μ = .ok (.tup l) μ := by unfold fTup; rw [if_pos h]
theorem fLst_ok {l : List PV} (h : l.length ≤ SL) : fLst l μ = .ok (.ref μ.length) (μ ++ [.lst l]) := by unfold fLst newL; rw [if_pos h]
@[simp] theorem fTup0 : fTup [] μ = .ok (.tup []) μ := id rfl
@[simp] theorem fTup1 (a : PV) : fTup [a] μ = .ok (.tup [a]) μ := id rfl
@[simp] theorem fTup2 (a b : PV) : fTup [a, b] μ = .ok (.tup [a, b]) μ := id rfl
@[simp] theorem fTup3 (a b d : PV) : fTup [a, b, d] μ = .ok (.tup [a, b, d]) μ := id rfl
@[simp] theorem fTup4 (a b d e : PV) : fTup [a, b, d, e] μ = .ok (.tup [a, b, d, e]) μ := id rfl
@[simp] theorem fLst0 : fLst [] μ = .ok (.ref μ.length) (μ ++ [.lst []]) := id rfl
@[simp] theorem fLst1 (a : PV) : fLst [a] μ = .ok (.ref μ.length) (μ ++ [.lst [a]]) := id rfl
@[simp] theorem fLst2 (a b : PV) : fLst [a, b] μ = .ok (.ref μ.length) (μ ++ [.lst [a, b]]) := id rfl
@[simp] theorem fLst3 (a b d : PV) : fLst [a, b, d] μ = .ok (.ref μ.length) (μ ++ [.lst [a, b, d]]) := id rfl
@[simp] theorem fLst4 (a b d e : PV) : fLst [a, b, d, e] μ = .ok (.ref μ.length) (μ ++ [.lst [a, b, d, e]]) := id rfl
/-- places -/
def ixOf (l : List PV) (i : Int) (μ : Mem) : Res PV := match atI l i with | some q => .ok q μ | none => .stuck
@[simp] theorem fIx_tup (l : List PV) (i : Int) : fIx [.tup l, .int i] μ = ixOf l i μ := id rfl
theorem fIx_lst {n : Nat} {l : List PV} (i : Int) (h : μ[n]? = some (.lst l)) : fIx [.ref n, .int i] μ = ixOf l i μ := by
  simp only [fIx, getL, h]; rfl
theorem fIx_ro {n : Nat} {l : List PV} (i : Int) (h : μ[n]? = some (.ro l)) : fIx [.ref n, .int i] μ = ixOf l i μ := by
  simp only [fIx, getL, h]; rfl
@[simp] theorem ixOf0 (p : PV) (l : List PV) : ixOf (p :: l) 0 μ = .ok p μ := by
  simp [ixOf, atI, ixN]
theorem ixOf_nat {l : List PV} {k : Nat} {p : PV} (h : l[k]? = some p) : ixOf l (k : Int) μ = .ok p μ := by
  have hk := (List.getElem?_eq_some_iff.mp h).1
  unfold ixOf atI ixN
  rw [if_pos (by omega), if_pos (by omega)]
  simp [h]
@[simp] theorem ixOf1 (p q : PV) (l : List PV) : ixOf (p :: q :: l) 1 μ = .ok q μ := ixOf_nat (k := 1) μ rfl
@[simp] theorem ixOf2 (p q r : PV) (l : List PV) : ixOf (p :: q :: r :: l) 2 μ = .ok r μ := ixOf_nat (k := 2) μ rfl
@[simp] theorem ixOf3 (p q r s : PV) (l : List PV) : ixOf (p :: q :: r :: s :: l) 3 μ = .ok s μ := ixOf_nat (k := 3) μ rfl
theorem ixOf_int {l : List PV} {i : Int} {p : PV} (h0 : 0 ≤ i) (h : l[i.toNat]? = some p) : ixOf l i μ = .ok p μ := by
  have e : i = (i.toNat : Int) := by omega
  rw [e]
  exact ixOf_nat μ h
@[simp] theorem ixOf_last (l : List PV) (p : PV) : ixOf (l ++ [p]) (-1) μ = .ok p μ := by
  unfold ixOf atI ixN
  rw [if_neg (by omega), if_pos (by simp; omega)]
  have : ((-1 : Int) + ((l ++ [p]).length : Nat)).toNat = l.length := by simp; omega
  simp only [Option.bind_some, this]
  simp
/-- list cells -/
theorem push1_ok {n : Nat} {l : List PV} {p : PV} (h : μ[n]? = some (.lst l)) (hz : l.length < SL) : push1 n p μ = some (μ.set n (.lst (l ++ [p]))) := by
  unfold push1; rw [h]; simp only; rw [if_pos hz]
theorem append_ok {n : Nat} {l : List PV} {p : PV} (h : μ[n]? = some (.lst l)) (hz : l.length < SL) : fAppend [.ref n, p] μ = .ok .non (μ.set n (.lst (l ++ [p]))) := by
  simp only [fAppend]; rw [push1_ok μ h hz]
theorem isKd_lst {n : Nat} {l : List PV} (h : μ[n]? = some (.lst l)) : isKd .list μ (.ref n) = true := by simp only [isKd]; rw [h]
theorem fTuple_lst {n : Nat} {l : List PV} (h : μ[n]? = some (.lst l)) : fTuple [.ref n] μ = .ok (.tup l) μ := by simp only [fTuple, getL, h]
theorem fLen_lst {n : Nat} {l : List PV} (h : μ[n]? = some (.lst l)) : fLen [.ref n] μ = .ok (.int l.length) μ := by simp only [fLen, getL, h]
@[simp] theorem fLen_tup (l : List PV) : fLen [.tup l] μ = .ok (.int l.length) μ := id rfl
@[simp] theorem fTuple_tup (l : List PV) : fTuple [.tup l] μ = .ok (.tup l) μ := id rfl
theorem itsOf_lst {n : Nat} {l : List PV} (h : μ[n]? = some (.lst l)) : itsOf (.ref n) μ = .ok ⟨l, [(n, l)]⟩ μ := by simp only [itsOf, getL, h]
theorem itsOf_ro {n : Nat} {l : List PV} (h : μ[n]? = some (.ro l)) : itsOf (.ref n) μ = .ok ⟨l, [(n, l)]⟩ μ := by simp only [itsOf, getL, h]
theorem locked_lst {n : Nat} {l : List PV} (h : μ[n]? = some (.lst l)) : locked [(n, l)] μ := fun x hx => by
  simp only [List.mem_singleton] at hx
  subst hx
  exact .inl h
theorem locked_ro {n : Nat} {l : List PV} (h : μ[n]? = some (.ro l)) : locked [(n, l)] μ := fun x hx => by
  simp only [List.mem_singleton] at hx
  subst hx
  exact .inr h
theorem set_ok {n : Nat} {l : List PV} {i : Int} {p : PV} (h : μ[n]? = some (.lst l)) (h0 : 0 ≤ i) (h1 : i < l.length) : fSet [.ref n, .int i, p] μ = .ok .non (μ.set n (.lst (l.set i.toNat p))) := by
  simp only [fSet, h, ixN]
  rw [if_pos h0, if_pos h1]
theorem pop_ok {n : Nat} {l : List PV} {p : PV} (h : μ[n]? = some (.lst (l ++ [p]))) : fPop [.ref n] μ = .ok p (μ.set n (.lst l)) := by
  simp only [fPop, h]
  simp
@[simp] theorem fAppend_ref (n : Nat) (p : PV) : fAppend [.ref n, p] μ = (match μ[n]? with | some (.lst l) => if l.length < SL then .ok .non (μ.set n (.lst (l ++ [p]))) else .stuck | _ => .stuck) := by
  simp only [fAppend, push1]
  cases h : μ[n]? with
  | none => rfl
  | some o =>
    cases o with
    | lst l => by_cases hz : l.length < SL <;> simp [hz]
    | _ => rfl
@[simp] theorem isKd_ref (n : Nat) : isKd .list μ (.ref n) = (match μ[n]? with | some (.lst _) => true | _ => false) := id rfl
@[simp] theorem fIx_ref (n : Nat) (i : Int) : fIx [.ref n, .int i] μ = (match μ[n]? with | some (.lst l) => ixOf l i μ | some (.ro l) => ixOf l i μ | _ => .stuck) := by
  simp only [fIx, getL]
  cases h : μ[n]? with
  | none => rfl
  | some o => cases o <;> rfl
@[simp] theorem fLen_ref (n : Nat) : fLen [.ref n] μ = (match μ[n]? with | some (.lst l) => .ok (.int l.length) μ | some (.ro l) => .ok (.int l.length) μ | _ => .stuck) := by
  simp only [fLen, getL]
  cases h : μ[n]? with
  | none => rfl
  | some o => cases o <;> rfl
@[simp] theorem fTuple_ref (n : Nat) : fTuple [.ref n] μ = (match μ[n]? with | some (.lst l) => .ok (.tup l) μ | some (.ro l) => .ok (.tup l) μ | _ => .stuck) := by
  simp only [fTuple, getL]
  cases h : μ[n]? with
  | none => rfl
  | some o => cases o <;> rfl
@[simp] theorem fList_ref (n : Nat) : fList [.ref n] μ = (match μ[n]? with | some (.lst l) => .ok (.ref μ.length) (μ ++ [.lst l]) | some (.ro l) => .ok (.ref μ.length) (μ ++ [.lst l]) | _ => .stuck) := by
  simp only [fList, getL]
  cases h : μ[n]? with
  | none => rfl
  | some o => cases o <;> rfl
@[simp] theorem fList_tup (l : List PV) : fList [.tup l] μ = .ok (.ref μ.length) (μ ++ [.lst l]) := id rfl
@[simp] theorem itsOf_ref (n : Nat) : itsOf (.ref n) μ = (match μ[n]? with | some (.lst l) => .ok ⟨l, [(n, l)]⟩ μ | some (.ro l) => .ok ⟨l, [(n, l)]⟩ μ | _ => .stuck) := by
  simp only [itsOf, getL]
  cases h : μ[n]? with
  | none => rfl
  | some o => cases o <;> rfl
@[simp] theorem fAdd_ref (a b : Nat) : fAdd [.ref a, .ref b] μ = (match μ[a]?, μ[b]? with
    | some (.lst xs), some (.lst ys) => if xs.length + ys.length ≤ SL then .ok (.ref μ.length) (μ ++ [.lst (xs ++ ys)]) else .stuck
    | _, _ => .stuck) := id rfl
theorem fAdd_tup {a b : List PV} (h : a.length + b.length ≤ SL) : fAdd [.tup a, .tup b] μ = .ok (.tup (a ++ b)) μ := by simp only [fAdd]; rw [if_pos h]
@[simp] theorem fSl_tup (l : List PV) (lo hi : Option Int) (ql qh : PV) (h1 : optI ql = some lo) (h2 : optI qh = some hi) : fSl [.tup l, ql, qh] μ = .ok (.tup (cut l lo hi)) μ := by simp only [fSl, h1, h2]
@[simp] theorem optI_non : optI .non = some none := id rfl
@[simp] theorem optI_int (i : Int) : optI (.int i) = some (some i) := id rfl
@[simp] theorem onPart_non : onPart .non μ = .ok .non μ := id rfl
@[simp] theorem onPart_int (i : Int) : onPart (.int i) μ = .ok (.int i) μ := id rfl
@[simp] theorem fPart_int (i : Int) : fPart [.int i] μ = .ok (.int i) μ := id rfl
@[simp] theorem fSl_tup00 (l : List PV) : fSl [.tup l, .non, .non] μ = .ok (.tup (cut l none none)) μ := id rfl
@[simp] theorem fSl_tup01 (l : List PV) (j : Int) : fSl [.tup l, .non, .int j] μ = .ok (.tup (cut l none (some j))) μ := id rfl
@[simp] theorem fSl_tup10 (l : List PV) (i : Int) : fSl [.tup l, .int i, .non] μ = .ok (.tup (cut l (some i) none)) μ := id rfl
@[simp] theorem fSl_tup11 (l : List PV) (i j : Int) : fSl [.tup l, .int i, .int j] μ = .ok (.tup (cut l (some i) (some j))) μ := id rfl
@[simp] theorem fSl_ref (n : Nat) (ql qh : PV) : fSl [.ref n, ql, qh] μ = (match optI ql, optI qh with
    | some lo, some hi => (match μ[n]? with | some (.lst l) => .ok (.ref μ.length) (μ ++ [.lst (cut l lo hi)]) | some (.ro l) => .ok (.ref μ.length) (μ ++ [.lst (cut l lo hi)]) | _ => .stuck)
    | _, _ => .stuck) := by
  simp only [fSl, getL]
  cases optI ql with
  | none => rfl
  | some lo =>
    cases optI qh with
    | none => rfl
    | some hi =>
      simp only
      cases h : μ[n]? with
      | none => rfl
      | some o => cases o <;> rfl
@[simp] theorem cut_to (l : List PV) (j : Nat) : cut l none (some (j : Int)) = l.take j := by
  unfold cut sIx
  simp only [List.drop_zero, Nat.sub_zero]
  rw [if_neg (by omega)]
  simp only [Int.toNat_natCast]
  rw [Nat.min_def]
  split
  · rfl
  · rw [List.take_of_length_le (Nat.le_refl _), List.take_of_length_le (by omega)]
theorem cut_last (l : List PV) (p : PV) : cut (l ++ [p]) none (some (-1)) = l := by
  unfold cut sIx
  simp only [List.drop_zero, Nat.sub_zero]
  rw [if_pos (by omega)]
  have : ((-1 : Int) + ((l ++ [p]).length : Nat)).toNat = l.length := by simp; omega
  rw [this, List.take_left]
@[simp] theorem cut_from (l : List PV) (j : Nat) : cut l (some (j : Int)) none = l.drop j := by
  unfold cut sIx
  simp only
  rw [if_neg (by omega)]
  simp only [Int.toNat_natCast]
  rw [Nat.min_def]
  split
  · rw [List.take_of_length_le (by simp)]
  · rw [List.drop_of_length_le (Nat.le_refl _), List.drop_of_length_le (by omega)]; simp
@[simp] theorem fSub1 : SL = 16777216 := id rfl
end
/-! texts as constants -/
end PL
end
section
set_option autoImplicit false
/-! Loops by folds. -/
namespace PL
open PySem
/-- what is wanted of a statement's ends -/
structure Wp where
  nx : Env → Mem → Prop := fun _ _ => False
  rt : PV → Mem → Prop := fun _ _ => False
  bk : Env → Mem → Prop := fun _ _ => False
  ct : Env → Mem → Prop := fun _ _ => False
def Out.sat0 (o : Out) (W : Wp) : Prop := match o with
  | .nx e m => W.nx e m
  | .rt p m => W.rt p m
  | .bk e m => W.bk e m
  | .ct e m => W.ct e m
  | _ => False
/-- not reckoned out when looked at -/
def Out.sat (o : Out) (W : Wp) : Prop := (∃ e m, o = .nx e m ∧ W.nx e m) ∨ (∃ p m, o = .rt p m ∧ W.rt p m) ∨ (∃ e m, o = .bk e m ∧ W.bk e m) ∨ (∃ e m, o = .ct e m ∧ W.ct e m)
theorem sat_eq (o : Out) (W : Wp) : o.sat W = o.sat0 W := by
  apply propext
  cases o with
  | nx e m => exact ⟨fun h => by
      rcases h with ⟨_, _, h, h2⟩ | ⟨_, _, h, h2⟩ | ⟨_, _, h, h2⟩ | ⟨_, _, h, h2⟩ <;> cases h <;> exact h2, fun h => .inl ⟨_, _, rfl, h⟩⟩
  | rt e m => exact ⟨fun h => by
      rcases h with ⟨_, _, h, h2⟩ | ⟨_, _, h, h2⟩ | ⟨_, _, h, h2⟩ | ⟨_, _, h, h2⟩ <;> cases h <;> exact h2, fun h => .inr (.inl ⟨_, _, rfl, h⟩)⟩
  | bk e m => exact ⟨fun h => by
      rcases h with ⟨_, _, h, h2⟩ | ⟨_, _, h, h2⟩ | ⟨_, _, h, h2⟩ | ⟨_, _, h, h2⟩ <;> cases h <;> exact h2, fun h => .inr (.inr (.inl ⟨_, _, rfl, h⟩))⟩
  | ct e m => exact ⟨fun h => by
      rcases h with ⟨_, _, h, h2⟩ | ⟨_, _, h, h2⟩ | ⟨_, _, h, h2⟩ | ⟨_, _, h, h2⟩ <;> cases h <;> exact h2, fun h => .inr (.inr (.inr ⟨_, _, rfl, h⟩))⟩
  | exc e m => exact ⟨fun h => by simp [Out.sat] at h, fun h => h.elim⟩
  | stuck => exact ⟨fun h => by simp [Out.sat] at h, fun h => h.elim⟩
@[simp] theorem sat_nx (e : Env) (m : Mem) (W : Wp) : (Out.nx e m).sat W = W.nx e m := by rw [sat_eq]; exact id rfl
@[simp] theorem sat_rt (p : PV) (m : Mem) (W : Wp) : (Out.rt p m).sat W = W.rt p m := by rw [sat_eq]; exact id rfl
@[simp] theorem sat_bk (e : Env) (m : Mem) (W : Wp) : (Out.bk e m).sat W = W.bk e m := by rw [sat_eq]; exact id rfl
@[simp] theorem sat_ct (e : Env) (m : Mem) (W : Wp) : (Out.ct e m).sat W = W.ct e m := by rw [sat_eq]; exact id rfl
@[simp] theorem sat_stuck (W : Wp) : Out.stuck.sat W = False := by rw [sat_eq]; exact id rfl
@[simp] theorem sat_exc (x : PX) (m : Mem) (W : Wp) : (Out.exc x m).sat W = False := by rw [sat_eq]; exact id rfl
def Res.sat {α : Type} (r : Res α) (P : α → Mem → Prop) : Prop := ∃ a m, r = .ok a m ∧ P a m
@[simp] theorem rsat_ok {α : Type} (a : α) (m : Mem) (P : α → Mem → Prop) : (Res.ok a m).sat P = P a m := by
  apply propext
  exact ⟨fun ⟨_, _, h, h2⟩ => by cases h; exact h2, fun h => ⟨a, m, rfl, h⟩⟩
@[simp] theorem rsat_stuck {α : Type} (P : α → Mem → Prop) : (Res.stuck : Res α).sat P = False := by
  apply propext
  simp [Res.sat]
@[simp] theorem rsat_exc {α : Type} (x : PX) (m : Mem) (P : α → Mem → Prop) : (Res.exc x m : Res α).sat P = False := by
  apply propext
  simp [Res.sat]
theorem rsat_ex {α : Type} {r : Res α} {P : α → Mem → Prop} (h : r.sat P) : ∃ a m, r = .ok a m ∧ P a m := h
theorem rsat_imp {α : Type} {r : Res α} {P Q : α → Mem → Prop} (h : r.sat P) (i : ∀ a m, P a m → Q a m) : r.sat Q := by
  obtain ⟨a, m, rfl, h⟩ := h
  simpa using i a m h
theorem bind_sat {α β : Type} {r : Res α} {k : α → Mem → Res β} {P : β → Mem → Prop} (h : r.sat fun a m => (k a m).sat P) : (r.bind k).sat P := by
  obtain ⟨a, m, rfl, h⟩ := h
  exact h
theorem of_sat {α : Type} {r : Res α} {k : α → Mem → Out} {W : Wp} (h : r.sat fun a m => (k a m).sat W) : (Out.of r k).sat W := by
  obtain ⟨a, m, rfl, h⟩ := h
  exact h
theorem then_sat {o : Out} {k : Sm} {W : Wp} (h : o.sat { W with nx := fun e m => (k e m).sat W }) : (o.then k).sat W := by
  cases o <;> simpa using h
theorem sat_imp {o : Out} {W V : Wp} (h : o.sat W) (h1 : ∀ e m, W.nx e m → V.nx e m) (h2 : ∀ p m, W.rt p m → V.rt p m) (h3 : ∀ e m, W.bk e m → V.bk e m) (h4 : ∀ e m, W.ct e m → V.ct e m) : o.sat V := by
  cases o with
  | nx e m => simp at h ⊢; exact h1 _ _ h
  | rt p m => simp at h ⊢; exact h2 _ _ h
  | bk e m => simp at h ⊢; exact h3 _ _ h
  | ct e m => simp at h ⊢; exact h4 _ _ h
  | exc x m => simp at h
  | stuck => simp at h
/-! truth values open in two -/
@[simp] theorem onS_then (p : PV) (a b : Out) (k : Sm) : (onS p a b).then k = onS p (a.then k) (b.then k) := by
  cases p with
  | bl t => cases t <;> rfl
  | _ => rfl
@[simp] theorem onB_bind {α β : Type} (p : PV) (a b : Res α) (k : α → Mem → Res β) : (onB p a b).bind k = onB p (a.bind k) (b.bind k) := by
  cases p with
  | bl t => cases t <;> rfl
  | _ => rfl
@[simp] theorem onB_of {α : Type} (p : PV) (a b : Res α) (k : α → Mem → Out) : Out.of (onB p a b) k = onS p (Out.of a k) (Out.of b k) := by
  cases p with
  | bl t => cases t <;> rfl
  | _ => rfl
@[simp] theorem of_then {α : Type} (r : Res α) (k : α → Mem → Out) (j : Sm) : (Out.of r k).then j = Out.of r fun a m => (k a m).then j := by cases r <;> rfl
@[simp] theorem bind_bind' {α β γ : Type} (r : Res α) (k : α → Mem → Res β) (j : β → Mem → Res γ) : (r.bind k).bind j = r.bind fun a m => (k a m).bind j := by cases r <;> rfl
@[simp] theorem bind_of {α β : Type} (r : Res α) (k : α → Mem → Res β) (j : β → Mem → Out) : Out.of (r.bind k) j = Out.of r fun a m => Out.of (k a m) j := by cases r <;> rfl
@[simp] theorem then_then (o : Out) (a b : Sm) : (o.then a).then b = o.then fun e m => (a e m).then b := by cases o <;> rfl
@[simp] theorem onS_sat (t : Bool) (a b : Out) (W : Wp) : (onS (.bl t) a b).sat W ↔ (t = true → a.sat W) ∧ (t = false → b.sat W) := by cases t <;> simp
@[simp] theorem onB_sat {α : Type} (t : Bool) (a b : Res α) (P : α → Mem → Prop) : (onB (.bl t) a b).sat P ↔ (t = true → a.sat P) ∧ (t = false → b.sat P) := by cases t <;> simp
theorem run_sat {n : Nat} {b : Sm} {args : List PV} {μ : Mem} {P : PV → Mem → Prop} (h : (b (args.map some ++ List.replicate (n - args.length) none) μ).sat { rt := P, nx := fun _ m => P .non m }) : (run n b args μ).sat P := by
  rw [run_ev]
  generalize (b (args.map some ++ List.replicate (n - args.length) none) μ) = o at h
  cases o <;> simpa using h
/-- a def whose result is data: the memory as the body left it, its own cells dropped -/
theorem fn_sat_data {n : Nat} {b : Sm} {args : List PV} {μ : Mem} {p : PV} (hd : p.data = true) (h : (run n b args μ).sat fun q m => q = p ∧ ∃ l, m = μ ++ l) : fn n b args μ = .ok p μ := by
  obtain ⟨q, m, e, rfl, l, rfl⟩ := rsat_ex h
  exact fn_data e hd
/-! loops -/
def turn (g : Tg) (b : Sm) (p : PV) (env : Env) (μ : Mem) : Out := .of (g p env μ) fun e1 μ1 => b e1 μ1
@[simp] theorem turn_ev (g : Tg) (b : Sm) (p : PV) (env : Env) (μ : Mem) : turn g b p env μ = .of (g p env μ) fun e1 μ1 => b e1 μ1 := id rfl
theorem for_sat {α : Type} {lk : List (Nat × List PV)} {g : Tg} {b k : Sm} {W : Wp} {env : Env} {μ : Mem} (enc : α → PV) (xs : List α) (R : Nat → Env → Mem → Prop) (hl : ∀ i env μ, R i env μ → locked lk μ) (h : R 0 env μ)
    (st : ∀ i x env μ, xs[i]? = some x → R i env μ → (turn g b (enc x) env μ).sat { nx := R (i + 1), ct := R (i + 1), bk := fun e m => (k e m).sat W, rt := W.rt })
    (hk : ∀ e m, R xs.length e m → (k e m).sat W) : ((forN lk g b (xs.map enc) env μ).then k).sat W := by
  have go : ∀ (n i : Nat) (env : Env) (μ : Mem), n + i = xs.length → R i env μ → ((forN lk g b ((xs.drop i).map enc) env μ).then k).sat W := by
    intro n
    induction n with
    | zero =>
      intro i env μ hi h
      have : i = xs.length := by omega
      subst this
      rw [List.drop_length, List.map_nil, forN_nil (hl _ env μ h)]
      exact hk env μ h
    | succ n ih =>
      intro i env μ hi h
      have hlt : i < xs.length := by omega
      have s1 := st i xs[i] env μ (List.getElem?_eq_getElem hlt) h
      rw [sat_eq] at s1
      rw [List.drop_eq_getElem_cons hlt, List.map_cons, forN_cons (hl i env μ h)]
      unfold turn at s1
      cases z : g (enc xs[i]) env μ with
      | ok e1 μ1 =>
        rw [z] at s1
        simp only [Out.of_ok] at s1 ⊢
        cases z2 : b e1 μ1 with
        | nx e m => rw [z2] at s1; exact ih (i + 1) e m (by omega) s1
        | ct e m => rw [z2] at s1; exact ih (i + 1) e m (by omega) s1
        | bk e m => rw [z2] at s1; exact s1
        | rt p m => rw [z2] at s1; rw [Out.then_rt, sat_rt]; exact s1
        | exc x m => rw [z2] at s1; exact s1.elim
        | stuck => rw [z2] at s1; exact s1.elim
      | exc x m => rw [z] at s1; exact s1.elim
      | stuck => rw [z] at s1; exact s1.elim
  have := go xs.length 0 env μ (by omega) h
  rwa [List.drop_zero] at this
theorem for_sat0 {α : Type} {lk : List (Nat × List PV)} {g : Tg} {b : Sm} {W : Wp} {env : Env} {μ : Mem} (enc : α → PV) (xs : List α) (R : Nat → Env → Mem → Prop) (hl : ∀ i env μ, R i env μ → locked lk μ) (h : R 0 env μ)
    (st : ∀ i x env μ, xs[i]? = some x → R i env μ → (turn g b (enc x) env μ).sat { nx := R (i + 1), ct := R (i + 1), bk := W.nx, rt := W.rt })
    (hk : ∀ e m, R xs.length e m → W.nx e m) : (forN lk g b (xs.map enc) env μ).sat W := by
  have e : forN lk g b (xs.map enc) env μ = (forN lk g b (xs.map enc) env μ).then fun e m => .nx e m := by
    generalize forN lk g b (xs.map enc) env μ = o
    cases o <;> rfl
  rw [e]
  exact for_sat enc xs R hl h (fun i x env μ hx hR => by simpa using st i x env μ hx hR) (by simpa using hk)
/-- while, by a measure -/
theorem while_sat {t : Ex} {b k : Sm} {W : Wp} {env : Env} {μ : Mem} (R : Nat → Env → Mem → Prop) (n0 : Nat) (hn : n0 < fuel) (h : R n0 env μ)
    (st : ∀ n env μ, R n env μ → (t env μ).sat fun p m => ∃ c, p = .bl c ∧ (c = true → (b env m).sat { nx := fun e m => ∃ n', n' < n ∧ R n' e m, ct := fun e m => ∃ n', n' < n ∧ R n' e m, bk := fun e m => (k e m).sat W, rt := W.rt }) ∧ (c = false → (k env m).sat W)) :
    ((whileN t b fuel env μ).then k).sat W := by
  have go : ∀ (N n : Nat) (env : Env) (μ : Mem), n < N → R n env μ → ((whileN t b N env μ).then k).sat W := by
    intro N
    induction N with
    | zero => intro n env μ hn; omega
    | succ N ih =>
      intro n env μ hn h
      have s1 := st n env μ h
      unfold whileN
      cases z : t env μ with
      | ok p m =>
        rw [z, rsat_ok] at s1
        obtain ⟨c, rfl, s2, s3⟩ := s1
        simp only [Out.of_ok]
        cases c with
        | false => exact s3 rfl
        | true =>
          have s4 := s2 rfl
          rw [sat_eq] at s4
          simp only [onS_true]
          cases z2 : b env m with
          | nx e m => rw [z2] at s4; obtain ⟨n', h1, h2⟩ := s4; exact ih n' e m (by omega) h2
          | ct e m => rw [z2] at s4; obtain ⟨n', h1, h2⟩ := s4; exact ih n' e m (by omega) h2
          | bk e m => rw [z2] at s4; exact s4
          | rt p m => rw [z2] at s4; rw [Out.then_rt, sat_rt]; exact s4
          | exc x m => rw [z2] at s4; exact s4.elim
          | stuck => rw [z2] at s4; exact s4.elim
      | exc x m => rw [z, rsat_exc] at s1; exact s1.elim
      | stuck => rw [z, rsat_stuck] at s1; exact s1.elim
  exact go fuel n0 env μ hn h
/-- comprehensions: the list that is made, what each item gives (none: left out) -/
theorem lcN_map {α : Type} {lk : List (Nat × List PV)} {g : Tg} {t e : Ex} {vs : List Nat} {n : Nat} {env : Env} (enc : α → PV) (F : α → Option PV) (M : List PV → Mem) (hn : ∀ acc, (M acc)[n]? = some (.lst acc)) (hs : ∀ acc acc', (M acc).set n (.lst acc') = M acc') (hl : ∀ acc, locked lk (M acc)) :
    ∀ (xs : List α) (acc : List PV), acc.length + xs.length < SL → (∀ x ∈ xs, ∀ acc, ∃ e1, g (enc x) (wipe env vs) (M acc) = .ok e1 (M acc) ∧
      match F x with
      | some q => t e1 (M acc) = .ok (.bl true) (M acc) ∧ e e1 (M acc) = .ok q (M acc)
      | none => t e1 (M acc) = .ok (.bl false) (M acc)) →
    lcN lk g t e vs n env (xs.map enc) (M acc) = .ok () (M (acc ++ xs.filterMap F))
  | [], acc, _, _ => by rw [List.map_nil, lcN, if_pos (hl acc)]; simp
  | x :: xs, acc, hz, st => by
    obtain ⟨e1, h1, h2⟩ := st x List.mem_cons_self acc
    rw [List.map_cons, lcN, if_pos (hl acc), h1]
    simp only [Res.bind_ok]
    simp only [List.length_cons] at hz
    cases hF : F x with
    | none =>
      rw [hF] at h2
      simp only at h2
      rw [h2]
      simp only [Res.bind_ok, onB_false]
      rw [lcN_map enc F M hn hs hl xs acc (by omega) fun x hx => st x (List.mem_cons_of_mem _ hx), List.filterMap_cons_none hF]
    | some q =>
      rw [hF] at h2
      simp only at h2
      rw [h2.1]
      simp only [Res.bind_ok, onB_true]
      rw [h2.2]
      simp only [Res.bind_ok]
      rw [push1_ok _ (hn acc) (by omega)]
      simp only
      rw [hs, lcN_map enc F M hn hs hl xs (acc ++ [q]) (by rw [List.length_append, List.length_singleton]; omega) fun x hx => st x (List.mem_cons_of_mem _ hx), List.filterMap_cons_some hF]
      simp
/-- a comprehension whose parts leave the memory alone -/
theorem lc_pure {α : Type} {it : It} {g : Tg} {t e : Ex} {vs : List Nat} {env : Env} {μ μ1 : Mem} {lk : List (Nat × List PV)} (enc : α → PV) (F : α → Option PV) (xs : List α) (hi : it env μ = .ok ⟨xs.map enc, lk⟩ μ1) (hl : ∀ l, locked lk (μ1 ++ l)) (hz : xs.length < SL)
    (st : ∀ x ∈ xs, ∀ l, ∃ e1, g (enc x) (wipe env vs) (μ1 ++ l) = .ok e1 (μ1 ++ l) ∧
      match F x with
      | some q => t e1 (μ1 ++ l) = .ok (.bl true) (μ1 ++ l) ∧ e e1 (μ1 ++ l) = .ok q (μ1 ++ l)
      | none => t e1 (μ1 ++ l) = .ok (.bl false) (μ1 ++ l)) :
    lc it g t e vs env μ = .ok (.ref μ1.length) (μ1 ++ [.lst (xs.filterMap F)]) := by
  rw [lc_ev, hi]
  simp only [Res.bind_ok]
  have := lcN_map (lk := lk) (g := g) (t := t) (e := e) (vs := vs) (n := μ1.length) (env := env) enc F (fun acc => μ1 ++ [.lst acc]) (fun acc => by simp) (fun acc acc' => by simp) (fun acc => hl _) xs [] (by simpa using hz) fun x hx acc => st x hx _
  rw [this]
  simp
theorem locked_app {lk : List (Nat × List PV)} {μ : Mem} (h : locked lk μ) (l : Mem) : locked lk (μ ++ l) := fun x hx => by
  rcases h x hx with h | h
  · exact .inl (get_some h)
  · exact .inr (get_some h)
theorem gc_keep {μ m : Mem} {p : PV} (h : p.under μ.length = false) : gc μ (.ok p m) = .ok p m := by
  unfold gc
  simp only
  rw [if_neg fun z => by rw [z.2.1] at h; cases h]
/-- a comprehension whose parts change the memory: R by the turn, what is made so far, the memory -/
theorem lc_sat {α : Type} {it : It} {g : Tg} {t e : Ex} {vs : List Nat} {env : Env} {μ μ1 : Mem} {lk : List (Nat × List PV)} {P : PV → Mem → Prop} (enc : α → PV) (xs : List α) (R : Nat → List PV → Mem → Prop) (hi : it env μ = .ok ⟨xs.map enc, lk⟩ μ1)
    (hl : ∀ i acc m, R i acc m → locked lk m) (h0 : R 0 [] (μ1 ++ [.lst []])) (hz : xs.length < SL) (hacc : ∀ i acc m, R i acc m → acc.length ≤ i)
    (st : ∀ i x acc m, xs[i]? = some x → R i acc m → (g (enc x) (wipe env vs) m).sat fun e1 m1 => (t e1 m1).sat fun b m2 => ∃ c, b = .bl c ∧ (c = false → R (i + 1) acc m2) ∧ (c = true → (e e1 m2).sat fun q m3 => m3[μ1.length]? = some (.lst acc) ∧ R (i + 1) (acc ++ [q]) (m3.set μ1.length (.lst (acc ++ [q])))))
    (hk : ∀ acc m, R xs.length acc m → P (.ref μ1.length) m) : (lc it g t e vs env μ).sat P := by
  rw [lc_ev, hi]
  simp only [Res.bind_ok]
  have go : ∀ (n i : Nat) (acc : List PV) (m : Mem), n + i = xs.length → R i acc m → ((lcN lk g t e vs μ1.length env ((xs.drop i).map enc) m).bind fun _ μ2 => .ok (.ref μ1.length) μ2).sat P := by
    intro n
    induction n with
    | zero =>
      intro i acc m hi h
      have : i = xs.length := by omega
      subst this
      rw [List.drop_length, List.map_nil, lcN, if_pos (hl _ acc m h), Res.bind_ok, rsat_ok]
      exact hk acc m h
    | succ n ih =>
      intro i acc m hi h
      have hlt : i < xs.length := by omega
      have s1 := st i xs[i] acc m (List.getElem?_eq_getElem hlt) h
      rw [List.drop_eq_getElem_cons hlt, List.map_cons, lcN, if_pos (hl i acc m h)]
      obtain ⟨e1, m1, z1, s2⟩ := rsat_ex s1
      obtain ⟨b, m2, z2, c, rfl, s3, s4⟩ := rsat_ex s2
      rw [z1]
      simp only [Res.bind_ok]
      rw [z2]
      simp only [Res.bind_ok]
      cases c with
      | false => exact ih (i + 1) acc m2 (by omega) (s3 rfl)
      | true =>
        obtain ⟨q, m3, z3, s5, s6⟩ := rsat_ex (s4 rfl)
        simp only [onB_true]
        rw [z3]
        simp only [Res.bind_ok]
        have ha := hacc i acc m h
        rw [push1_ok _ s5 (by omega)]
        exact ih (i + 1) _ _ (by omega) s6
  have := go xs.length 0 [] (μ1 ++ [.lst []]) (by omega) h0
  rwa [List.drop_zero] at this
theorem take_succ' {α : Type} {xs : List α} {i : Nat} {x : α} (h : xs[i]? = some x) : xs.take (i + 1) = xs.take i ++ [x] := by
  rw [List.take_add_one, h]; rfl
theorem lt_of_get {α : Type} {xs : List α} {i : Nat} {x : α} (h : xs[i]? = some x) : i < xs.length := (List.getElem?_eq_some_iff.mp h).1
end PL
end
section
set_option autoImplicit false
/-! Data: what is read, compared, shown. -/
namespace PL
open PySem
mutual
def PV.pd : PV → PyData
  | .non => .none
  | .bl b => .bool b
  | .int i => .int i
  | .str x => .str x
  | .tup l => .tuple (PV.pds l)
  | .ref _ => .none
  | .cst _ => .none
def PV.pds : List PV → List PyData
  | [] => []
  | p :: ps => PV.pd p :: PV.pds ps
end
@[simp] theorem pds_nil : PV.pds [] = [] := by simp only [PV.pds]
@[simp] theorem pds_cons (p : PV) (l : List PV) : PV.pds (p :: l) = p.pd :: PV.pds l := by simp only [PV.pds]
@[simp] theorem pd_tup (l : List PV) : PV.pd (.tup l) = .tuple (PV.pds l) := by simp only [PV.pd]
@[simp] theorem pd_int (i : Int) : PV.pd (.int i) = .int i := by simp only [PV.pd]
@[simp] theorem pd_str (i : Str) : PV.pd (.str i) = .str i := by simp only [PV.pd]
@[simp] theorem pd_bl (i : Bool) : PV.pd (.bl i) = .bool i := by simp only [PV.pd]
@[simp] theorem pd_non : PV.pd .non = .none := by simp only [PV.pd]
theorem pds_map (l : List PV) : PV.pds l = l.map PV.pd := by
  induction l with
  | nil => simp
  | cons p ps ih => simp [ih]
mutual
theorem conv_pd (r : Nat → Option PyData) : ∀ p : PV, p.data = true → PV.conv r p = some p.pd
  | .tup l, h => by simp only [PV.data] at h; simp only [PV.conv, convs_pd r l h, Option.map_some, PV.pd]
  | .ref _, h => by simp [PV.data] at h
  | .cst _, h => by simp [PV.data] at h
  | .non, _ => by simp only [PV.conv, PV.pd]
  | .bl _, _ => by simp only [PV.conv, PV.pd]
  | .int _, _ => by simp only [PV.conv, PV.pd]
  | .str _, _ => by simp only [PV.conv, PV.pd]
theorem convs_pd (r : Nat → Option PyData) : ∀ l : List PV, PV.datas l = true → PV.convs r l = some (PV.pds l)
  | [], _ => by simp only [PV.convs, PV.pds]
  | p :: ps, h => by
    simp only [PV.datas, Bool.and_eq_true] at h
    simp only [PV.convs, conv_pd r p h.1, convs_pd r ps h.2, Option.bind_some, Option.map_some, PV.pds]
end
theorem toD_data {μ : Mem} {p : PV} (h : p.data = true) : toD μ p = some p.pd := by
  unfold toD toDn
  exact conv_pd _ p h
theorem toD_ref (μ : Mem) (n : Nat) : toD μ (.ref n) = (match μ[n]? with
    | some (.lst l) => (PV.convs (fun j => toDn μ 4 (.ref j)) l).map .list
    | some (.ro l) => (PV.convs (fun j => toDn μ 4 (.ref j)) l).map .list
    | _ => none) := by
  unfold toD
  rw [toDn]
  simp only [PV.conv]
  try rfl
theorem toD_lst {μ : Mem} {n : Nat} {l : List PV} (h : μ[n]? = some (.lst l)) (hd : PV.datas l = true) : toD μ (.ref n) = some (.list (PV.pds l)) := by
  rw [toD_ref, h]
  simp only
  rw [convs_pd _ l hd]
  rfl
/-! how great data is: numbers and texts that can be shown, how many items, how deep -/
end PL
namespace PySem.PyData
mutual
def sm : PyData → Bool
  | .none => true
  | .bool _ => true
  | .int i => decide (i.natAbs.log2 < 1920)
  | .str x => strOk x && decide ((reprText x).length ≤ 1990)
  | .list l => sms l
  | .tuple l => sms l
  | .dict _ => false
def sms : List PyData → Bool
  | [] => true
  | x :: xs => sm x && sms xs
end
mutual
def wt : PyData → Nat
  | .list l => wts l + 1
  | .tuple l => wts l + 1
  | .none => 1 | .bool _ => 1 | .int _ => 1 | .str _ => 1 | .dict _ => 1
def wts : List PyData → Nat
  | [] => 0
  | x :: xs => wt x + wts xs
end
end PySem.PyData
namespace PL
open PySem
@[simp] theorem sm_none : PyData.none.sm = true := by simp only [PyData.sm]
@[simp] theorem sm_bool (b : Bool) : (PyData.bool b).sm = true := by simp only [PyData.sm]
@[simp] theorem sm_int (i : Int) : (PyData.int i).sm = decide (i.natAbs.log2 < 1920) := by simp only [PyData.sm]
@[simp] theorem sm_str (x : Str) : (PyData.str x).sm = (PyData.strOk x && decide ((reprText x).length ≤ 1990)) := by simp only [PyData.sm]
@[simp] theorem sm_list (l : List PyData) : (PyData.list l).sm = PyData.sms l := by simp only [PyData.sm]
@[simp] theorem sm_tuple (l : List PyData) : (PyData.tuple l).sm = PyData.sms l := by simp only [PyData.sm]
@[simp] theorem sms_nil : PyData.sms [] = true := by simp only [PyData.sms]
@[simp] theorem sms_cons (x : PyData) (l : List PyData) : PyData.sms (x :: l) = (x.sm && PyData.sms l) := by simp only [PyData.sms]
@[simp] theorem wt_none : PyData.none.wt = 1 := by simp only [PyData.wt]
@[simp] theorem wt_bool (b : Bool) : (PyData.bool b).wt = 1 := by simp only [PyData.wt]
@[simp] theorem wt_int (i : Int) : (PyData.int i).wt = 1 := by simp only [PyData.wt]
@[simp] theorem wt_str (x : Str) : (PyData.str x).wt = 1 := by simp only [PyData.wt]
@[simp] theorem wt_list (l : List PyData) : (PyData.list l).wt = PyData.wts l + 1 := by simp only [PyData.wt]
@[simp] theorem wt_tuple (l : List PyData) : (PyData.tuple l).wt = PyData.wts l + 1 := by simp only [PyData.wt]
@[simp] theorem wts_nil : PyData.wts [] = 0 := by simp only [PyData.wts]
@[simp] theorem wts_cons (x : PyData) (l : List PyData) : PyData.wts (x :: l) = x.wt + PyData.wts l := by simp only [PyData.wts]
@[simp] theorem dp_none : PyData.none.depth = 0 := by simp only [PyData.depth]
@[simp] theorem dp_bool (b : Bool) : (PyData.bool b).depth = 0 := by simp only [PyData.depth]
@[simp] theorem dp_int (i : Int) : (PyData.int i).depth = 0 := by simp only [PyData.depth]
@[simp] theorem dp_str (x : Str) : (PyData.str x).depth = 0 := by simp only [PyData.depth]
@[simp] theorem dp_list (l : List PyData) : (PyData.list l).depth = PyData.depthAll l + 1 := by simp only [PyData.depth]
@[simp] theorem dp_tuple (l : List PyData) : (PyData.tuple l).depth = PyData.depthAll l + 1 := by simp only [PyData.depth]
@[simp] theorem dps_nil : PyData.depthAll [] = 0 := by simp only [PyData.depthAll]
@[simp] theorem dps_cons (x : PyData) (l : List PyData) : PyData.depthAll (x :: l) = max x.depth (PyData.depthAll l) := by simp only [PyData.depthAll]
theorem sms_iff (l : List PyData) : PyData.sms l = true ↔ ∀ x ∈ l, x.sm = true := by
  induction l with
  | nil => simp
  | cons x xs ih => simp [ih]
@[simp] theorem sms_app (l k : List PyData) : PyData.sms (l ++ k) = (PyData.sms l && PyData.sms k) := by
  induction l with
  | nil => simp
  | cons x xs ih => simp [ih, Bool.and_assoc]
@[simp] theorem wts_app (l k : List PyData) : PyData.wts (l ++ k) = PyData.wts l + PyData.wts k := by
  induction l with
  | nil => simp
  | cons x xs ih => simp [ih]; omega
theorem wts_le {l : List PyData} {k : Nat} (h : ∀ x ∈ l, x.wt ≤ k) : PyData.wts l ≤ k * l.length := by
  induction l with
  | nil => simp
  | cons x xs ih =>
    have := h x List.mem_cons_self
    have := ih fun y hy => h y (List.mem_cons_of_mem _ hy)
    simp only [wts_cons, List.length_cons, Nat.mul_add]
    omega
theorem dps_le {l : List PyData} {k : Nat} (h : ∀ x ∈ l, x.depth ≤ k) : PyData.depthAll l ≤ k := by
  induction l with
  | nil => simp
  | cons x xs ih =>
    have := h x List.mem_cons_self
    have := ih fun y hy => h y (List.mem_cons_of_mem _ hy)
    simp only [dps_cons]
    omega
mutual
theorem lay_sm : ∀ d : PyData, d.sm = true → d.canLay0 = true
  | .none, _ => by simp only [PyData.canLay0]
  | .bool _, _ => by simp only [PyData.canLay0]
  | .int _, _ => by simp only [PyData.canLay0]
  | .str x, h => by simp only [PyData.sm, Bool.and_eq_true] at h; simp only [PyData.canLay0, h.1]
  | .list l, h => by simp only [PyData.sm] at h; simp only [PyData.canLay0, lays_sm l h]
  | .tuple l, h => by simp only [PyData.sm] at h; simp only [PyData.canLay0, lays_sm l h]
  | .dict _, h => by simp [PyData.sm] at h
theorem lays_sm : ∀ l : List PyData, PyData.sms l = true → PyData.canLayAll0 l = true
  | [], _ => by simp only [PyData.canLayAll0]
  | x :: xs, h => by
    simp only [PyData.sms, Bool.and_eq_true] at h
    simp only [PyData.canLayAll0, lay_sm x h.1, lays_sm xs h.2, Bool.and_self]
end
mutual
theorem shw_sm : ∀ d : PyData, d.sm = true → d.showable = true
  | .none, _ => by simp only [PyData.showable]
  | .bool _, _ => by simp only [PyData.showable]
  | .int _, h => by simp only [PyData.sm] at h; simp only [PyData.showable, h]
  | .str x, h => by simp only [PyData.showable]
  | .list l, h => by simp only [PyData.sm] at h; simp only [PyData.showable, shws_sm l h]
  | .tuple l, h => by simp only [PyData.sm] at h; simp only [PyData.showable, shws_sm l h]
  | .dict _, h => by simp [PyData.sm] at h
theorem shws_sm : ∀ l : List PyData, PyData.sms l = true → PyData.showableAll l = true
  | [], _ => by simp only [PyData.showableAll]
  | x :: xs, h => by
    simp only [PyData.sms, Bool.and_eq_true] at h
    simp only [PyData.showableAll, shw_sm x h.1, shws_sm xs h.2, Bool.and_self]
end
theorem shaped_sm {d : PyData} (h : d.sm = true) (hd : d.depth ≤ 60) : SeqAt.shaped d = true := by
  unfold SeqAt.shaped
  rw [lay_sm d h]
  simp; omega
theorem join_len (ts : List Str) : (Str.join ", " ts).length ≤ (ts.map fun t => t.length + 2).sum := by
  cases ts with
  | nil => decide
  | cons t r =>
    have h := join_length_add (t :: r) (by simp)
    have : ∀ l : List Str, piled l = (l.map fun t => t.length + 2).sum := by
      intro l
      induction l with
      | nil => rfl
      | cons a b ih => rw [piled_cons, ih]; simp
    rw [this] at h
    omega
mutual
theorem shown_len : ∀ d : PyData, d.sm = true → d.shown.length + 2 ≤ 2000 * d.wt
  | .none, _ => by rw [PyData.shown_none, wt_none]; decide
  | .bool b, _ => by rw [PyData.shown_bool, wt_bool]; cases b <;> decide
  | .int i, h => by
    rw [PyData.shown_int, wt_int]
    rw [sm_int, decide_eq_true_eq] at h
    have := int_text_length_le (k := 1920) (by decide) h
    have e : (Str.ofString (toString i)).length = (toString i).length := by
      rw [Str.ofString_eq_toList]; simp only [Str.length, List.size_toArray, List.length_map, String.length_toList]
    rw [e]
    omega
  | .str x, h => by
    rw [PyData.shown_str, wt_str]
    rw [sm_str, Bool.and_eq_true, decide_eq_true_eq] at h
    omega
  | .list l, h => by
    rw [PyData.shown_list, wt_list]
    rw [sm_list] at h
    have h1 := join_len (PyData.shownAll l)
    have h2 := showns_len l h
    simp only [strLen_append]
    have e1 : (Str.ofString "[").length = 1 := by decide
    have e2 : (Str.ofString "]").length = 1 := by decide
    rw [e1, e2]
    omega
  | .tuple l, h => by
    rw [PyData.shown_tuple, wt_tuple]
    rw [sm_tuple] at h
    have h1 := join_len (PyData.shownAll l)
    have h2 := showns_len l h
    simp only [strLen_append]
    have e1 : (Str.ofString "(").length = 1 := by decide
    have e2 : (Str.ofString (if l.length == 1 then ",)" else ")" : String)).length ≤ 2 := by split <;> decide
    rw [e1]
    omega
  | .dict _, h => by simp [PyData.sm] at h
theorem showns_len : ∀ l : List PyData, PyData.sms l = true → ((PyData.shownAll l).map fun t => t.length + 2).sum ≤ 2000 * PyData.wts l
  | [], _ => by rw [PyData.shownAll_nil]; simp
  | x :: xs, h => by
    simp only [sms_cons, Bool.and_eq_true] at h
    rw [PyData.shownAll_cons, wts_cons]
    have h1 := shown_len x h.1
    have h2 := showns_len xs h.2
    simp only [List.map_cons, List.sum_cons]
    omega
end
theorem repr_ok {μ : Mem} {p : PV} {d : PyData} (h : toD μ p = some d) (hs : d.sm = true) (hw : d.wt ≤ 8000) (hd : d.depth ≤ 60) : fRepr [p] μ = .ok (.str d.shown) μ := by
  simp only [fRepr, h]
  have := shown_len d hs
  rw [if_pos ⟨shw_sm d hs, by show _ ≤ 16777216; omega, by omega⟩]
/-- == with the empty list -/
theorem eqR_nil {μ : Mem} {a b : Nat} {l : List PV} (ha : μ[a]? = some (.lst l)) (hb : μ[b]? = some (.lst [])) (hl : PV.datas l = true) (hs : PyData.sms (PV.pds l) = true) (hd : PyData.depthAll (PV.pds l) ≤ 59) : eqR μ (.ref a) (.ref b) = some l.isEmpty := by
  unfold eqR
  simp only [scalP]
  rw [toD_lst ha hl, toD_lst hb (by simp)]
  simp only
  rw [if_pos ⟨shaped_sm (by simpa using hs) (by simp; omega), shaped_sm (by simp) (by simp)⟩]
  cases l <;> simp [PyData.eqv, PyData.eqvAll]
theorem fNe_nil {μ : Mem} {a b : Nat} {l : List PV} (ha : μ[a]? = some (.lst l)) (hb : μ[b]? = some (.lst [])) (hl : PV.datas l = true) (hs : PyData.sms (PV.pds l) = true) (hd : PyData.depthAll (PV.pds l) ≤ 59) : fNe [.ref a, .ref b] μ = .ok (.bl (!l.isEmpty)) μ := by
  simp only [fNe, eqR_nil ha hb hl hs hd]
theorem fEq_nil {μ : Mem} {a b : Nat} {l : List PV} (ha : μ[a]? = some (.lst l)) (hb : μ[b]? = some (.lst [])) (hl : PV.datas l = true) (hs : PyData.sms (PV.pds l) = true) (hd : PyData.depthAll (PV.pds l) ≤ 59) : fEq [.ref a, .ref b] μ = .ok (.bl l.isEmpty) μ := by
  simp only [fEq, eqR_nil ha hb hl hs hd]
@[simp] theorem pds_app (l k : List PV) : PV.pds (l ++ k) = PV.pds l ++ PV.pds k := by simp [pds_map]
@[simp] theorem datas_app (l k : List PV) : PV.datas (l ++ k) = (PV.datas l && PV.datas k) := by
  induction l with
  | nil => simp
  | cons x xs ih => simp [ih, Bool.and_assoc]
end PL
end
section
set_option autoImplicit false
/-! Memories that grow; results that are new lists. -/
namespace PL
open PySem
@[simp] theorem get_new_2 (μ l : Mem) : (μ ++ l)[μ.length + 1 + 1]? = l[2]? := get_new μ l 2
@[simp] theorem set_new_2 (μ l : Mem) (o : PO) : (μ ++ l).set (μ.length + 1 + 1) o = μ ++ l.set 2 o := set_new μ l 2 o
@[simp] theorem get_new_3 (μ l : Mem) : (μ ++ l)[μ.length + 1 + 1 + 1]? = l[3]? := get_new μ l 3
@[simp] theorem set_new_3 (μ l : Mem) (o : PO) : (μ ++ l).set (μ.length + 1 + 1 + 1) o = μ ++ l.set 3 o := set_new μ l 3 o
@[simp] theorem get_new_4 (μ l : Mem) : (μ ++ l)[μ.length + 1 + 1 + 1 + 1]? = l[4]? := get_new μ l 4
@[simp] theorem set_new_4 (μ l : Mem) (o : PO) : (μ ++ l).set (μ.length + 1 + 1 + 1 + 1) o = μ ++ l.set 4 o := set_new μ l 4 o
@[simp] theorem get_new_5 (μ l : Mem) : (μ ++ l)[μ.length + 1 + 1 + 1 + 1 + 1]? = l[5]? := get_new μ l 5
@[simp] theorem set_new_5 (μ l : Mem) (o : PO) : (μ ++ l).set (μ.length + 1 + 1 + 1 + 1 + 1) o = μ ++ l.set 5 o := set_new μ l 5 o
@[simp] theorem get_new_6 (μ l : Mem) : (μ ++ l)[μ.length + 1 + 1 + 1 + 1 + 1 + 1]? = l[6]? := get_new μ l 6
@[simp] theorem set_new_6 (μ l : Mem) (o : PO) : (μ ++ l).set (μ.length + 1 + 1 + 1 + 1 + 1 + 1) o = μ ++ l.set 6 o := set_new μ l 6 o
@[simp] theorem get_new_7 (μ l : Mem) : (μ ++ l)[μ.length + 1 + 1 + 1 + 1 + 1 + 1 + 1]? = l[7]? := get_new μ l 7
@[simp] theorem set_new_7 (μ l : Mem) (o : PO) : (μ ++ l).set (μ.length + 1 + 1 + 1 + 1 + 1 + 1 + 1) o = μ ++ l.set 7 o := set_new μ l 7 o
@[simp] theorem get_new_8 (μ l : Mem) : (μ ++ l)[μ.length + 1 + 1 + 1 + 1 + 1 + 1 + 1 + 1]? = l[8]? := get_new μ l 8
@[simp] theorem set_new_8 (μ l : Mem) (o : PO) : (μ ++ l).set (μ.length + 1 + 1 + 1 + 1 + 1 + 1 + 1 + 1) o = μ ++ l.set 8 o := set_new μ l 8 o
@[simp] theorem fTup5 (a0 a1 a2 a3 a4 : PV) (μ : Mem) : fTup [a0, a1, a2, a3, a4] μ = .ok (.tup [a0, a1, a2, a3, a4]) μ := id rfl
@[simp] theorem fLst5 (a0 a1 a2 a3 a4 : PV) (μ : Mem) : fLst [a0, a1, a2, a3, a4] μ = .ok (.ref μ.length) (μ ++ [.lst [a0, a1, a2, a3, a4]]) := id rfl
@[simp] theorem fTup6 (a0 a1 a2 a3 a4 a5 : PV) (μ : Mem) : fTup [a0, a1, a2, a3, a4, a5] μ = .ok (.tup [a0, a1, a2, a3, a4, a5]) μ := id rfl
@[simp] theorem fLst6 (a0 a1 a2 a3 a4 a5 : PV) (μ : Mem) : fLst [a0, a1, a2, a3, a4, a5] μ = .ok (.ref μ.length) (μ ++ [.lst [a0, a1, a2, a3, a4, a5]]) := id rfl
@[simp] theorem fTup7 (a0 a1 a2 a3 a4 a5 a6 : PV) (μ : Mem) : fTup [a0, a1, a2, a3, a4, a5, a6] μ = .ok (.tup [a0, a1, a2, a3, a4, a5, a6]) μ := id rfl
@[simp] theorem fLst7 (a0 a1 a2 a3 a4 a5 a6 : PV) (μ : Mem) : fLst [a0, a1, a2, a3, a4, a5, a6] μ = .ok (.ref μ.length) (μ ++ [.lst [a0, a1, a2, a3, a4, a5, a6]]) := id rfl
@[simp] theorem fTup8 (a0 a1 a2 a3 a4 a5 a6 a7 : PV) (μ : Mem) : fTup [a0, a1, a2, a3, a4, a5, a6, a7] μ = .ok (.tup [a0, a1, a2, a3, a4, a5, a6, a7]) μ := id rfl
@[simp] theorem fLst8 (a0 a1 a2 a3 a4 a5 a6 a7 : PV) (μ : Mem) : fLst [a0, a1, a2, a3, a4, a5, a6, a7] μ = .ok (.ref μ.length) (μ ++ [.lst [a0, a1, a2, a3, a4, a5, a6, a7]]) := id rfl
@[simp] theorem fTup9 (a0 a1 a2 a3 a4 a5 a6 a7 a8 : PV) (μ : Mem) : fTup [a0, a1, a2, a3, a4, a5, a6, a7, a8] μ = .ok (.tup [a0, a1, a2, a3, a4, a5, a6, a7, a8]) μ := id rfl
@[simp] theorem fLst9 (a0 a1 a2 a3 a4 a5 a6 a7 a8 : PV) (μ : Mem) : fLst [a0, a1, a2, a3, a4, a5, a6, a7, a8] μ = .ok (.ref μ.length) (μ ++ [.lst [a0, a1, a2, a3, a4, a5, a6, a7, a8]]) := id rfl
@[simp] theorem fTup10 (a0 a1 a2 a3 a4 a5 a6 a7 a8 a9 : PV) (μ : Mem) : fTup [a0, a1, a2, a3, a4, a5, a6, a7, a8, a9] μ = .ok (.tup [a0, a1, a2, a3, a4, a5, a6, a7, a8, a9]) μ := id rfl
@[simp] theorem fLst10 (a0 a1 a2 a3 a4 a5 a6 a7 a8 a9 : PV) (μ : Mem) : fLst [a0, a1, a2, a3, a4, a5, a6, a7, a8, a9] μ = .ok (.ref μ.length) (μ ++ [.lst [a0, a1, a2, a3, a4, a5, a6, a7, a8, a9]]) := id rfl
@[simp] theorem fTup11 (a0 a1 a2 a3 a4 a5 a6 a7 a8 a9 a10 : PV) (μ : Mem) : fTup [a0, a1, a2, a3, a4, a5, a6, a7, a8, a9, a10] μ = .ok (.tup [a0, a1, a2, a3, a4, a5, a6, a7, a8, a9, a10]) μ := id rfl
@[simp] theorem fLst11 (a0 a1 a2 a3 a4 a5 a6 a7 a8 a9 a10 : PV) (μ : Mem) : fLst [a0, a1, a2, a3, a4, a5, a6, a7, a8, a9, a10] μ = .ok (.ref μ.length) (μ ++ [.lst [a0, a1, a2, a3, a4, a5, a6, a7, a8, a9, a10]]) := id rfl
@[simp] theorem fTup12 (a0 a1 a2 a3 a4 a5 a6 a7 a8 a9 a10 a11 : PV) (μ : Mem) : fTup [a0, a1, a2, a3, a4, a5, a6, a7, a8, a9, a10, a11] μ = .ok (.tup [a0, a1, a2, a3, a4, a5, a6, a7, a8, a9, a10, a11]) μ := id rfl
@[simp] theorem fLst12 (a0 a1 a2 a3 a4 a5 a6 a7 a8 a9 a10 a11 : PV) (μ : Mem) : fLst [a0, a1, a2, a3, a4, a5, a6, a7, a8, a9, a10, a11] μ = .ok (.ref μ.length) (μ ++ [.lst [a0, a1, a2, a3, a4, a5, a6, a7, a8, a9, a10, a11]]) := id rfl
@[simp] theorem fTup13 (a0 a1 a2 a3 a4 a5 a6 a7 a8 a9 a10 a11 a12 : PV) (μ : Mem) : fTup [a0, a1, a2, a3, a4, a5, a6, a7, a8, a9, a10, a11, a12] μ = .ok (.tup [a0, a1, a2, a3, a4, a5, a6, a7, a8, a9, a10, a11, a12]) μ := id rfl
@[simp] theorem fLst13 (a0 a1 a2 a3 a4 a5 a6 a7 a8 a9 a10 a11 a12 : PV) (μ : Mem) : fLst [a0, a1, a2, a3, a4, a5, a6, a7, a8, a9, a10, a11, a12] μ = .ok (.ref μ.length) (μ ++ [.lst [a0, a1, a2, a3, a4, a5, a6, a7, a8, a9, a10, a11, a12]]) := id rfl
@[simp] theorem fTup14 (a0 a1 a2 a3 a4 a5 a6 a7 a8 a9 a10 a11 a12 a13 : PV) (μ : Mem) : fTup [a0, a1, a2, a3, a4, a5, a6, a7, a8, a9, a10, a11, a12, a13] μ = .ok (.tup [a0, a1, a2, a3, a4, a5, a6, a7, a8, a9, a10, a11, a12, a13]) μ := id rfl
@[simp] theorem fLst14 (a0 a1 a2 a3 a4 a5 a6 a7 a8 a9 a10 a11 a12 a13 : PV) (μ : Mem) : fLst [a0, a1, a2, a3, a4, a5, a6, a7, a8, a9, a10, a11, a12, a13] μ = .ok (.ref μ.length) (μ ++ [.lst [a0, a1, a2, a3, a4, a5, a6, a7, a8, a9, a10, a11, a12, a13]]) := id rfl
@[simp] theorem fTup15 (a0 a1 a2 a3 a4 a5 a6 a7 a8 a9 a10 a11 a12 a13 a14 : PV) (μ : Mem) : fTup [a0, a1, a2, a3, a4, a5, a6, a7, a8, a9, a10, a11, a12, a13, a14] μ = .ok (.tup [a0, a1, a2, a3, a4, a5, a6, a7, a8, a9, a10, a11, a12, a13, a14]) μ := id rfl
@[simp] theorem fLst15 (a0 a1 a2 a3 a4 a5 a6 a7 a8 a9 a10 a11 a12 a13 a14 : PV) (μ : Mem) : fLst [a0, a1, a2, a3, a4, a5, a6, a7, a8, a9, a10, a11, a12, a13, a14] μ = .ok (.ref μ.length) (μ ++ [.lst [a0, a1, a2, a3, a4, a5, a6, a7, a8, a9, a10, a11, a12, a13, a14]]) := id rfl
@[simp] theorem fTup16 (a0 a1 a2 a3 a4 a5 a6 a7 a8 a9 a10 a11 a12 a13 a14 a15 : PV) (μ : Mem) : fTup [a0, a1, a2, a3, a4, a5, a6, a7, a8, a9, a10, a11, a12, a13, a14, a15] μ = .ok (.tup [a0, a1, a2, a3, a4, a5, a6, a7, a8, a9, a10, a11, a12, a13, a14, a15]) μ := id rfl
@[simp] theorem fLst16 (a0 a1 a2 a3 a4 a5 a6 a7 a8 a9 a10 a11 a12 a13 a14 a15 : PV) (μ : Mem) : fLst [a0, a1, a2, a3, a4, a5, a6, a7, a8, a9, a10, a11, a12, a13, a14, a15] μ = .ok (.ref μ.length) (μ ++ [.lst [a0, a1, a2, a3, a4, a5, a6, a7, a8, a9, a10, a11, a12, a13, a14, a15]]) := id rfl
def Ext (μ m : Mem) : Prop := ∃ l, m = μ ++ l
@[simp] theorem ext_app (μ l : Mem) : Ext μ (μ ++ l) := ⟨l, rfl⟩
@[simp] theorem ext_refl (μ : Mem) : Ext μ μ := ⟨[], by simp⟩
theorem Ext.refl (μ : Mem) : Ext μ μ := ⟨[], by simp⟩
theorem Ext.app (μ l : Mem) : Ext μ (μ ++ l) := ⟨l, rfl⟩
theorem Ext.trans {a b d : Mem} (h : Ext a b) (k : Ext b d) : Ext a d := by
  obtain ⟨l, rfl⟩ := h
  obtain ⟨j, rfl⟩ := k
  exact ⟨l ++ j, by simp⟩
theorem Ext.get {μ m : Mem} (h : Ext μ m) {k : Nat} {o : PO} (e : μ[k]? = some o) : m[k]? = some o := by
  obtain ⟨l, rfl⟩ := h
  exact get_some e
theorem Ext.len {μ m : Mem} (h : Ext μ m) : μ.length ≤ m.length := by
  obtain ⟨l, rfl⟩ := h
  simp
theorem Ext.set {μ m : Mem} (h : Ext μ m) {k : Nat} (hk : μ.length ≤ k) (o : PO) : Ext μ (m.set k o) := by
  obtain ⟨l, rfl⟩ := h
  refine ⟨l.set (k - μ.length) o, ?_⟩
  rw [List.set_append_right _ _ hk]
/-- a new list -/
def NewL (μ : Mem) (l : List PV) (p : PV) (m : Mem) : Prop := ∃ k, p = .ref k ∧ μ.length ≤ k ∧ m[k]? = some (.lst l) ∧ Ext μ m
theorem newL_mk {μ m : Mem} {l : List PV} {k : Nat} (h1 : μ.length ≤ k) (h2 : m[k]? = some (.lst l)) (h3 : Ext μ m) : NewL μ l (.ref k) m := ⟨k, rfl, h1, h2, h3⟩
theorem newL_iff (μ r : Mem) (l : List PV) (k : Nat) : NewL μ l (.ref (μ.length + k)) (μ ++ r) ↔ r[k]? = some (.lst l) := by
  constructor
  · rintro ⟨j, e, h1, h2, h3⟩
    cases e
    simpa using h2
  · intro h
    exact newL_mk (by omega) (by rw [get_new]; exact h) (Ext.app _ _)
@[simp] theorem newL_0 (μ r : Mem) (l : List PV) : NewL μ l (.ref (μ.length)) (μ ++ r) ↔ r[0]? = some (.lst l) := newL_iff μ r l 0
@[simp] theorem newL_1 (μ r : Mem) (l : List PV) : NewL μ l (.ref (μ.length + 1)) (μ ++ r) ↔ r[1]? = some (.lst l) := newL_iff μ r l 1
@[simp] theorem newL_2 (μ r : Mem) (l : List PV) : NewL μ l (.ref (μ.length + 1 + 1)) (μ ++ r) ↔ r[2]? = some (.lst l) := newL_iff μ r l 2
@[simp] theorem newL_3 (μ r : Mem) (l : List PV) : NewL μ l (.ref (μ.length + 1 + 1 + 1)) (μ ++ r) ↔ r[3]? = some (.lst l) := newL_iff μ r l 3
@[simp] theorem newL_4 (μ r : Mem) (l : List PV) : NewL μ l (.ref (μ.length + 1 + 1 + 1 + 1)) (μ ++ r) ↔ r[4]? = some (.lst l) := newL_iff μ r l 4
@[simp] theorem newL_5 (μ r : Mem) (l : List PV) : NewL μ l (.ref (μ.length + 1 + 1 + 1 + 1 + 1)) (μ ++ r) ↔ r[5]? = some (.lst l) := newL_iff μ r l 5
@[simp] theorem newL_6 (μ r : Mem) (l : List PV) : NewL μ l (.ref (μ.length + 1 + 1 + 1 + 1 + 1 + 1)) (μ ++ r) ↔ r[6]? = some (.lst l) := newL_iff μ r l 6
@[simp] theorem newL_7 (μ r : Mem) (l : List PV) : NewL μ l (.ref (μ.length + 1 + 1 + 1 + 1 + 1 + 1 + 1)) (μ ++ r) ↔ r[7]? = some (.lst l) := newL_iff μ r l 7
@[simp] theorem newL_8 (μ r : Mem) (l : List PV) : NewL μ l (.ref (μ.length + 1 + 1 + 1 + 1 + 1 + 1 + 1 + 1)) (μ ++ r) ↔ r[8]? = some (.lst l) := newL_iff μ r l 8
theorem fn_sat_new {n : Nat} {b : Sm} {args : List PV} {μ : Mem} {l : List PV} (h : (run n b args μ).sat (NewL μ l)) : (fn n b args μ).sat (NewL μ l) := by
  obtain ⟨q, m, e, k, rfl, hk, h1, h2⟩ := rsat_ex h
  rw [fn_ev, e, gc_keep (by simp [PV.under]; omega)]
  exact (rsat_ok _ _ _).mpr ⟨k, rfl, hk, h1, h2⟩
/-- a property that survives the dropping of new cells -/
theorem gc_sat {μ : Mem} {r : Res PV} {P : PV → Mem → Prop} (h : r.sat P) (hs : ∀ p m, P p m → μ.length ≤ m.length → p.under μ.length = true → P p (m.take μ.length)) : (gc μ r).sat P := by
  obtain ⟨p, m, rfl, hp⟩ := rsat_ex h
  unfold gc
  simp only
  split
  · next g => rw [rsat_ok]; exact hs p m hp g.1 g.2.1
  · rw [rsat_ok]; exact hp
theorem fn_sat {n : Nat} {b : Sm} {args : List PV} {μ : Mem} {P : PV → Mem → Prop} (h : (run n b args μ).sat P) (hs : ∀ p m, P p m → μ.length ≤ m.length → p.under μ.length = true → P p (m.take μ.length)) : (fn n b args μ).sat P := by
  rw [fn_ev]; exact gc_sat h hs
theorem ok_of_sat {r : Res PV} {p : PV} {μ : Mem} (h : r.sat fun q m => q = p ∧ m = μ) : r = .ok p μ := by
  obtain ⟨q, m, e, rfl, rfl⟩ := rsat_ex h
  exact e
@[simp] theorem cut_toI (l : List PV) {j : Int} (h : 0 ≤ j) : cut l none (some j) = l.take j.toNat := by
  have e : j = (j.toNat : Int) := by omega
  conv => lhs; rw [e]
  exact cut_to l _
@[simp] theorem cut_fromI (l : List PV) {j : Int} (h : 0 ≤ j) : cut l (some j) none = l.drop j.toNat := by
  have e : j = (j.toNat : Int) := by omega
  conv => lhs; rw [e]
  exact cut_from l _
/-- data of mapped lists -/
theorem datas_map {α : Type} (f : α → PV) (h : ∀ x, (f x).data = true) (l : List α) : PV.datas (l.map f) = true := by
  rw [datas_iff]; intro p hp; obtain ⟨x, _, rfl⟩ := List.mem_map.mp hp; exact h x
@[simp] theorem datas_int (l : List Int) : PV.datas (l.map .int) = true := datas_map _ (fun x => by simp) l
theorem sms_map {α : Type} (f : α → PV) (l : List α) (h : ∀ x ∈ l, (f x).pd.sm = true) : PyData.sms (PV.pds (l.map f)) = true := by
  rw [sms_iff]; intro d hd
  rw [pds_map, List.map_map] at hd
  obtain ⟨x, hx, rfl⟩ := List.mem_map.mp hd
  exact h x hx
theorem dps_map {α : Type} (f : α → PV) (l : List α) (k : Nat) (h : ∀ x ∈ l, (f x).pd.depth ≤ k) : PyData.depthAll (PV.pds (l.map f)) ≤ k := by
  apply dps_le; intro d hd
  rw [pds_map, List.map_map] at hd
  obtain ⟨x, hx, rfl⟩ := List.mem_map.mp hd
  exact h x hx
theorem wts_map {α : Type} (f : α → PV) (l : List α) (k : Nat) (h : ∀ x ∈ l, (f x).pd.wt ≤ k) : PyData.wts (PV.pds (l.map f)) ≤ k * l.length := by
  have := wts_le (l := PV.pds (l.map f)) (k := k) (by
    intro d hd
    rw [pds_map, List.map_map] at hd
    obtain ⟨x, hx, rfl⟩ := List.mem_map.mp hd
    exact h x hx)
  simpa [pds_map] using this
/-- numbers that are not too great to be shown -/
abbrev sml (z : Int) : Prop := z.natAbs < 10 ^ 200
theorem log_sml {z : Int} (h : sml z) : z.natAbs.log2 < 1920 := by
  by_cases h0 : z.natAbs = 0
  · rw [h0]; decide
  · exact (Nat.log2_lt h0).mpr (Nat.lt_of_lt_of_le h (by decide +kernel))
theorem fSum_ref (μ : Mem) (n : Nat) : fSum [.ref n] μ = (match (getL μ (.ref n)).bind intsOf with | some is => .ok (.int is.sum) μ | _ => .stuck) := rfl
theorem intsOf_mapI (l : List Int) : intsOf (l.map .int) = some l := by
  induction l with
  | nil => rfl
  | cons x xs ih => simp [intsOf, ih]
theorem fSum_lst {μ : Mem} {n : Nat} {l : List Int} (h : μ[n]? = some (.lst (l.map .int))) : fSum [.ref n] μ = .ok (.int l.sum) μ := by
  rw [fSum_ref]
  simp only [getL, h, Option.bind_some, intsOf_mapI]
/-- a comprehension ahead of what follows -/
theorem lc_of {α : Type} {it : It} {g : Tg} {t e : Ex} {vs : List Nat} {env : Env} {μ μ1 : Mem} {lk : List (Nat × List PV)} {k : PV → Mem → Out} {W : Wp} (enc : α → PV) (F : α → Option PV) (xs : List α) {ys : List PV} (he : xs.filterMap F = ys) (hi : it env μ = .ok ⟨xs.map enc, lk⟩ μ1) (hl : locked lk μ1) (hz : xs.length < SL)
    (st : ∀ x ∈ xs, ∀ l, ∃ e1, g (enc x) (wipe env vs) (μ1 ++ l) = .ok e1 (μ1 ++ l) ∧
      match F x with
      | some q => t e1 (μ1 ++ l) = .ok (.bl true) (μ1 ++ l) ∧ e e1 (μ1 ++ l) = .ok q (μ1 ++ l)
      | none => t e1 (μ1 ++ l) = .ok (.bl false) (μ1 ++ l))
    (hk : (k (.ref μ1.length) (μ1 ++ [.lst ys])).sat W) : (Out.of (lc it g t e vs env μ) k).sat W := by
  subst he
  rw [lc_pure enc F xs hi (fun l => locked_app hl l) hz st]
  exact hk
theorem lc_bind {α β : Type} {it : It} {g : Tg} {t e : Ex} {vs : List Nat} {env : Env} {μ μ1 : Mem} {lk : List (Nat × List PV)} {k : PV → Mem → Res β} {P : β → Mem → Prop} (enc : α → PV) (F : α → Option PV) (xs : List α) {ys : List PV} (he : xs.filterMap F = ys) (hi : it env μ = .ok ⟨xs.map enc, lk⟩ μ1) (hl : locked lk μ1) (hz : xs.length < SL)
    (st : ∀ x ∈ xs, ∀ l, ∃ e1, g (enc x) (wipe env vs) (μ1 ++ l) = .ok e1 (μ1 ++ l) ∧
      match F x with
      | some q => t e1 (μ1 ++ l) = .ok (.bl true) (μ1 ++ l) ∧ e e1 (μ1 ++ l) = .ok q (μ1 ++ l)
      | none => t e1 (μ1 ++ l) = .ok (.bl false) (μ1 ++ l))
    (hk : (k (.ref μ1.length) (μ1 ++ [.lst ys])).sat P) : ((lc it g t e vs env μ).bind k).sat P := by
  subst he
  rw [lc_pure enc F xs hi (fun l => locked_app hl l) hz st]
  exact hk
theorem filterMap_map' {α β : Type} (f : α → Option β) (enc : β → PV) (l : List α) : l.filterMap (fun x => (f x).map enc) = (l.filterMap f).map enc := by rw [List.map_filterMap]
theorem filterMap_if {α : Type} (p : α → Bool) (enc : α → PV) (l : List α) : l.filterMap (fun x => if p x then some (enc x) else none) = (l.filter p).map enc := by
  induction l with
  | nil => rfl
  | cons x xs ih => by_cases h : p x <;> simp [h, ih]
theorem filterMap_some {α : Type} (enc : α → PV) (l : List α) : l.filterMap (fun x => some (enc x)) = l.map enc := by simp
end PL
end
section
set_option autoImplicit false
/-! The law's pot: two cells that change, the rest stays. -/
namespace PL
open PySem
/-- pot at cell a + 1, its great numbers at cell a -/
def Pot (a : Nat) (m : Mem) : Prop := ∃ (bs : List Int) (f l t : Int), m[a + 1]? = some (.lst [.ref a, .int f, .int l, .int t]) ∧ m[a]? = some (.lst (bs.map .int)) ∧ bs.length ≤ 100 ∧ -(2 ^ 64) < l ∧ l < 2 ^ 64
def Fr (a : Nat) (m m' : Mem) : Prop := m.length ≤ m'.length ∧ ∀ i, i ≠ a → i ≠ a + 1 → i < m.length → m'[i]? = m[i]?
theorem Fr.refl (a : Nat) (m : Mem) : Fr a m m := ⟨Nat.le_refl _, fun _ _ _ _ => rfl⟩
theorem Fr.trans {a : Nat} {x y z : Mem} (h : Fr a x y) (k : Fr a y z) : Fr a x z := ⟨Nat.le_trans h.1 k.1, fun i h1 h2 h3 => (k.2 i h1 h2 (Nat.lt_of_lt_of_le h3 h.1)).trans (h.2 i h1 h2 h3)⟩
theorem Fr.get {a : Nat} {m m' : Mem} (h : Fr a m m') {i : Nat} {o : PO} (e : m[i]? = some o) (h1 : i ≠ a) (h2 : i ≠ a + 1) : m'[i]? = some o := by
  rw [h.2 i h1 h2 (List.getElem?_eq_some_iff.mp e).1]; exact e
theorem Fr.ext {a : Nat} {m m' : Mem} (h : Ext m m') : Fr a m m' := ⟨h.len, fun i _ _ h3 => by obtain ⟨l, rfl⟩ := h; rw [List.getElem?_append_left h3]⟩
theorem Fr.set {a : Nat} {m m' : Mem} (h : Fr a m m') {k : Nat} (o : PO) (hk : k = a ∨ k = a + 1 ∨ m.length ≤ k) : Fr a m (m'.set k o) := by
  refine ⟨by simpa using h.1, fun i h1 h2 h3 => ?_⟩
  rw [List.getElem?_set_ne (by omega)]
  exact h.2 i h1 h2 h3
theorem Pot.lt {a : Nat} {m : Mem} (h : Pot a m) : a + 1 < m.length := by
  obtain ⟨bs, f, l, t, h1, _⟩ := h
  exact (List.getElem?_eq_some_iff.mp h1).1
theorem Pot.ext {a : Nat} {m m' : Mem} (h : Pot a m) (e : Ext m m') : Pot a m' := by
  obtain ⟨bs, f, l, t, h1, h2, h3, h4, h5⟩ := h
  exact ⟨bs, f, l, t, e.get h1, e.get h2, h3, h4, h5⟩
theorem Pot.app {a : Nat} {m : Mem} (h : Pot a m) (l : Mem) : Pot a (m ++ l) := h.ext (Ext.app _ _)
theorem Pot.set {a : Nat} {m : Mem} (h : Pot a m) {k : Nat} (o : PO) (hk : a + 1 < k) : Pot a (m.set k o) := by
  obtain ⟨bs, f, l, t, h1, h2, h3, h4, h5⟩ := h
  exact ⟨bs, f, l, t, by rw [List.getElem?_set_ne (by omega)]; exact h1, by rw [List.getElem?_set_ne (by omega)]; exact h2, h3, h4, h5⟩
theorem Pot.take {a : Nat} {m : Mem} (h : Pot a m) {n : Nat} (hn : a + 1 < n) : Pot a (m.take n) := by
  obtain ⟨bs, f, l, t, h1, h2, h3, h4, h5⟩ := h
  exact ⟨bs, f, l, t, by rw [List.getElem?_take_of_lt hn]; exact h1, by rw [List.getElem?_take_of_lt (by omega)]; exact h2, h3, h4, h5⟩
theorem Fr.take {a : Nat} {m m' : Mem} (h : Fr a m m') : Fr a m (m'.take m.length) := by
  refine ⟨by have := h.1; simp; omega, fun i h1 h2 h3 => ?_⟩
  rw [List.getElem?_take_of_lt h3]
  exact h.2 i h1 h2 h3
/-- pot goes on, the rest stays -/
def Go (a : Nat) (m m' : Mem) : Prop := Pot a m' ∧ Fr a m m'
theorem Go.trans {a : Nat} {x y z : Mem} (h : Go a x y) (k : Go a y z) : Go a x z := ⟨k.1, h.2.trans k.2⟩
theorem Go.take {a : Nat} {m m' : Mem} (hp : Pot a m) (h : Go a m m') : Go a m (m'.take m.length) := ⟨h.1.take hp.lt, h.2.take⟩
theorem Go.app {a : Nat} {m m' : Mem} (h : Go a m m') (l : Mem) : Go a m (m' ++ l) := ⟨h.1.app l, h.2.trans (Fr.ext (Ext.app _ _))⟩
theorem Go.ext {a : Nat} {m m' : Mem} (hp : Pot a m) (h : Ext m m') : Go a m m' := ⟨hp.ext h, Fr.ext h⟩
theorem Go.refl {a : Nat} {m : Mem} (hp : Pot a m) : Go a m m := ⟨hp, Fr.refl _ _⟩
theorem Go.get {a : Nat} {m m' : Mem} (h : Go a m m') {i : Nat} {o : PO} (e : m[i]? = some o) (h1 : a + 1 < i) : m'[i]? = some o := h.2.get e (by omega) (by omega)
/-- a def that draws from the pot and hands back data -/
theorem fn_go {a n : Nat} {b : Sm} {args : List PV} {μ : Mem} {P : PV → Prop} (hp : Pot a μ) (h : (run n b args μ).sat fun p m => P p ∧ Go a μ m) : (fn n b args μ).sat fun p m => P p ∧ Go a μ m :=
  fn_sat h fun _ _ h1 _ _ => ⟨h1.1, h1.2.take hp⟩
@[simp] theorem fMod_int (i j : Int) (μ : Mem) : fMod [.int i, .int j] μ = if 0 < j then .ok (.int (i % j)) μ else .stuck := id rfl
@[simp] theorem fDiv_int (i j : Int) (μ : Mem) : fDiv [.int i, .int j] μ = if divOk j then .ok (.int (i / j)) μ else .stuck := id rfl
@[simp] theorem fMul_int (i j : Int) (μ : Mem) : fMul [.int i, .int j] μ = if mulOk i j then .ok (.int (i * j)) μ else .stuck := id rfl
@[simp] theorem fPow_int (i j : Int) (μ : Mem) : fPow [.int i, .int j] μ = if 0 ≤ j ∧ j ≤ 1000000 ∧ i.natAbs < 2 ^ 64 then .ok (.int (i ^ j.toNat)) μ else .stuck := id rfl
@[simp] theorem fShl_int (i j : Int) (μ : Mem) : fShl [.int i, .int j] μ = if shlOk i j then .ok (.int (i * 2 ^ j.toNat)) μ else .stuck := id rfl
@[simp] theorem fShr_int (i j : Int) (μ : Mem) : fShr [.int i, .int j] μ = if 0 ≤ j then .ok (.int (i / 2 ^ j.toNat)) μ else .stuck := id rfl
@[simp] theorem fBAnd_int (i j : Int) (μ : Mem) : fBAnd [.int i, .int j] μ = .ok (.int (Builtin.bitAnd i j)) μ := id rfl
@[simp] theorem fBOr_int (i j : Int) (μ : Mem) : fBOr [.int i, .int j] μ = .ok (.int (Builtin.bitOr i j)) μ := id rfl
@[simp] theorem fBXor_int (i j : Int) (μ : Mem) : fBXor [.int i, .int j] μ = .ok (.int (Builtin.bitXor i j)) μ := id rfl
@[simp] theorem fSet_ref (n : Nat) (i : Int) (p : PV) (μ : Mem) : fSet [.ref n, .int i, p] μ = (match μ[n]? with
    | some (.lst xs) => match ixN xs.length i with | some k => .ok .non (μ.set n (.lst (xs.set k p))) | none => .stuck
    | _ => .stuck) := id rfl
@[simp] theorem fPop_ref (n : Nat) (μ : Mem) : fPop [.ref n] μ = (match μ[n]? with
    | some (.lst xs) => match xs[xs.length - 1]? with | some q => .ok q (μ.set n (.lst xs.dropLast)) | none => .stuck
    | _ => .stuck) := id rfl
@[simp] theorem get_set_same {μ : Mem} {k : Nat} {o o' : PO} (h : μ[k]? = some o) : (μ.set k o')[k]? = some o' := by
  rw [List.getElem?_set_self (List.getElem?_eq_some_iff.mp h).1]
@[simp] theorem flatP_str (x : Str) : flatP (.str x) = true := id rfl
@[simp] theorem flatP_int (x : Int) : flatP (.int x) = true := id rfl
@[simp] theorem flatP_bl (x : Bool) : flatP (.bl x) = true := id rfl
@[simp] theorem flatP_non : flatP .non = true := id rfl
@[simp] theorem eqF_str (x y : Str) : eqF (.str x) (.str y) = decide (x = y) := by
  show (x == y) = decide (x = y)
  by_cases h : x = y <;> simp [h]
@[simp] theorem eqF_int (x y : Int) : eqF (.int x) (.int y) = decide (x = y) := by
  show (x == y) = decide (x = y)
  by_cases h : x = y <;> simp [h]
@[simp] theorem eqF_int_str (x : Int) (y : Str) : eqF (.int x) (.str y) = false := id rfl
@[simp] theorem eqF_str_int (x : Int) (y : Str) : eqF (.str y) (.int x) = false := id rfl
@[simp] theorem strPair_tup (p : PV) (l : List PV) : strPair p (.tup l) = none := by cases p <;> rfl
@[simp] theorem strPair_ref (p : PV) (l : Nat) : strPair p (.ref l) = none := by cases p <;> rfl
theorem inR_tup {p : PV} {l : List PV} {μ : Mem} (h : flatP p = true) (hl : l.all flatP = true) : inR μ p (.tup l) = some (l.any fun z => eqF z p) := by
  simp only [inR, strPair_tup, inSeq, getL]
  rw [if_pos ⟨h, hl⟩]
theorem inR_lst {p : PV} {n : Nat} {l : List PV} {μ : Mem} (e : μ[n]? = some (.lst l)) (h : flatP p = true) (hl : l.all flatP = true) : inR μ p (.ref n) = some (l.any fun z => eqF z p) := by
  simp only [inR, strPair_ref, inSeq, getL, e]
  rw [if_pos ⟨h, hl⟩]
@[simp] theorem fIn_tup {p : PV} {l : List PV} {μ : Mem} (h : flatP p = true) (hl : l.all flatP = true) : fIn [p, .tup l] μ = .ok (.bl (l.any fun z => eqF z p)) μ := by simp only [fIn, inR_tup h hl]
@[simp] theorem fNotIn_tup {p : PV} {l : List PV} {μ : Mem} (h : flatP p = true) (hl : l.all flatP = true) : fNotIn [p, .tup l] μ = .ok (.bl (!l.any fun z => eqF z p)) μ := by simp only [fNotIn, inR_tup h hl]
theorem fIn_lst {p : PV} {n : Nat} {l : List PV} {μ : Mem} (e : μ[n]? = some (.lst l)) (h : flatP p = true) (hl : l.all flatP = true) : fIn [p, .ref n] μ = .ok (.bl (l.any fun z => eqF z p)) μ := by simp only [fIn, inR_lst e h hl]
theorem fNotIn_lst {p : PV} {n : Nat} {l : List PV} {μ : Mem} (e : μ[n]? = some (.lst l)) (h : flatP p = true) (hl : l.all flatP = true) : fNotIn [p, .ref n] μ = .ok (.bl (!l.any fun z => eqF z p)) μ := by simp only [fNotIn, inR_lst e h hl]
theorem seq_sat {a b : Sm} {env : Env} {μ : Mem} {W : Wp} (P : Env → Mem → Prop) (hA : (a env μ).sat { nx := P }) (hb : ∀ e m, P e m → (b e m).sat W) : (seq a b env μ).sat W := by
  rw [seq_ev]
  refine then_sat (sat_imp hA (fun e m h => hb e m h) (fun _ _ h => h.elim) (fun _ _ h => h.elim) (fun _ _ h => h.elim))
theorem then_sat' {o : Out} {b : Sm} {W : Wp} (P : Env → Mem → Prop) (hA : o.sat { nx := P }) (hb : ∀ e m, P e m → (b e m).sat W) : (o.then b).sat W :=
  then_sat (sat_imp hA (fun e m h => hb e m h) (fun _ _ h => h.elim) (fun _ _ h => h.elim) (fun _ _ h => h.elim))
@[simp] theorem fMul_ref (a : Nat) (k : Int) (μ : Mem) : fMul [.ref a, .int k] μ = (match μ[a]? with
    | some (.lst xs) => if -(2 ^ 63) ≤ k ∧ k < 2 ^ 63 ∧ xs.length * k.toNat ≤ SL then .ok (.ref μ.length) (μ ++ [.lst (List.replicate k.toNat xs).flatten]) else .stuck
    | _ => .stuck) := id rfl
theorem locked_ext {lk : List (Nat × List PV)} {μ m : Mem} (h : locked lk μ) (e : Ext μ m) : locked lk m := by
  obtain ⟨l, rfl⟩ := e
  exact locked_app h l
/-- what is walked, the same in all that follows -/
def Walked (p : PV) (l : List PV) (lk : List (Nat × List PV)) (μ : Mem) : Prop := locked lk μ ∧ ∀ m, Ext μ m → itsOf p m = .ok ⟨l, lk⟩ m
theorem walked_tup (l : List PV) (μ : Mem) : Walked (.tup l) l [] μ := ⟨locked_nil _, fun _ _ => rfl⟩
theorem walked_lst {n : Nat} {l : List PV} {μ : Mem} (h : μ[n]? = some (.lst l)) : Walked (.ref n) l [(n, l)] μ := ⟨locked_lst _ h, fun _ e => itsOf_lst _ (e.get h)⟩
/-- a for without break -/
theorem for_nb {α : Type} {lk : List (Nat × List PV)} {g : Tg} {b k : Sm} {W : Wp} {env : Env} {μ : Mem} (enc : α → PV) (xs : List α) (R : Nat → Env → Mem → Prop) (hl : ∀ i env μ, R i env μ → locked lk μ) (h : R 0 env μ)
    (st : ∀ i x env μ, xs[i]? = some x → R i env μ → (turn g b (enc x) env μ).sat { nx := R (i + 1), ct := R (i + 1), rt := W.rt })
    (hk : ∀ e m, R xs.length e m → (k e m).sat W) : ((forN lk g b (xs.map enc) env μ).then k).sat W :=
  for_sat enc xs R hl h (fun i x env μ hx hR => sat_imp (st i x env μ hx hR) (fun _ _ h => h) (fun _ _ h => h) (fun _ _ h => h.elim) (fun _ _ h => h)) hk
/-- a for that always goes through -/
theorem for_thru {α : Type} {lk : List (Nat × List PV)} {g : Tg} {b k : Sm} {W : Wp} {env : Env} {μ : Mem} (enc : α → PV) (xs : List α) (R : Nat → Env → Mem → Prop) (hl : ∀ i env μ, R i env μ → locked lk μ) (h : R 0 env μ)
    (st : ∀ i x env μ, xs[i]? = some x → R i env μ → (turn g b (enc x) env μ).sat { nx := R (i + 1), ct := R (i + 1) })
    (hk : ∀ e m, R xs.length e m → (k e m).sat W) : ((forN lk g b (xs.map enc) env μ).then k).sat W :=
  for_nb enc xs R hl h (fun i x env μ hx hR => sat_imp (st i x env μ hx hR) (fun _ _ h => h) (fun _ _ h => h.elim) (fun _ _ h => h.elim) (fun _ _ h => h)) hk
theorem lays_int (l : List Int) : PyData.canLayAll0 (PV.pds (l.map .int)) = true := by
  induction l with
  | nil => simp [PyData.canLayAll0]
  | cons x xs ih => simp [PyData.canLayAll0, PyData.canLay0, ih]
theorem dps_int (l : List Int) : PyData.depthAll (PV.pds (l.map .int)) = 0 := by
  induction l with
  | nil => simp
  | cons x xs ih => simp [ih]
theorem fNe_ints {μ : Mem} {a b : Nat} {l : List Int} (ha : μ[a]? = some (.lst (l.map .int))) (hb : μ[b]? = some (.lst [])) : fNe [.ref a, .ref b] μ = .ok (.bl (!l.isEmpty)) μ := by
  have h1 : SeqAt.shaped (.list (PV.pds (l.map .int))) = true := by
    unfold SeqAt.shaped
    simp [PyData.canLay0, lays_int, dps_int]
  simp only [fNe, eqR, scalP]
  rw [toD_lst ha (by simp), toD_lst hb (by simp)]
  simp only
  rw [if_pos ⟨h1, shaped_sm (by simp) (by simp)⟩]
  cases l <;> simp [PyData.eqv, PyData.eqvAll]
theorem divOk_small {j : Int} (h : 0 < j) (h2 : j < 2 ^ 200) : divOk j := by
  refine ⟨h, ?_⟩
  have : j.natAbs < 2 ^ 200 := by omega
  have := (Nat.log2_lt (by omega)).mpr this
  omega
/-- data of so many items, not too deep, that can be shown -/
structure Good (k : Nat) (p : PV) : Prop where
  data : p.data = true
  sm : p.pd.sm = true
  wt : p.pd.wt ≤ k
  dp : p.pd.depth ≤ 10
theorem Good.mono {k j : Nat} {p : PV} (h : Good k p) (l : k ≤ j) : Good j p := ⟨h.data, h.sm, Nat.le_trans h.wt l, h.dp⟩
theorem repr_good {p : PV} {μ : Mem} (h : Good 8000 p) : fRepr [p] μ = .ok (.str p.pd.shown) μ := repr_ok (toD_data h.data) h.sm h.wt (Nat.le_trans h.dp (by decide))
/-- lists of data -/
structure Goods (k : Nat) (l : List PV) : Prop where
  data : PV.datas l = true
  sm : PyData.sms (PV.pds l) = true
  wt : PyData.wts (PV.pds l) ≤ k
  dp : PyData.depthAll (PV.pds l) ≤ 10
theorem Goods.nil : Goods 0 [] := ⟨by simp, by simp, by simp, by simp⟩
theorem Goods.cons {k j : Nat} {p : PV} {l : List PV} (h : Good k p) (hl : Goods j l) : Goods (k + j) (p :: l) := ⟨by simp [h.data, hl.data], by simp [h.sm, hl.sm], by have := h.wt; have := hl.wt; simp; omega, by have := h.dp; have := hl.dp; simp; omega⟩
theorem Goods.mono {k j : Nat} {p : List PV} (h : Goods k p) (l : k ≤ j) : Goods j p := ⟨h.data, h.sm, Nat.le_trans h.wt l, h.dp⟩
theorem repr_goods {n : Nat} {l : List PV} {μ : Mem} (e : μ[n]? = some (.lst l)) (h : Goods 7000 l) : fRepr [.ref n] μ = .ok (.str (PyData.list (PV.pds l)).shown) μ := repr_ok (toD_lst e h.data) (by simp [h.sm]) (by have := h.wt; simp; omega) (by have := h.dp; simp; omega)
theorem Good.tup {k : Nat} {l : List PV} (h : Goods k l) (hd : PyData.depthAll (PV.pds l) ≤ 9) : Good (k + 1) (.tup l) := ⟨by simp [h.data], by simp [h.sm], by have := h.wt; simp; omega, by simp; omega⟩
theorem Goods.map {α : Type} {k : Nat} (f : α → PV) (l : List α) (h : ∀ x ∈ l, Good k (f x)) : Goods (k * l.length) (l.map f) := ⟨by rw [datas_iff]; intro p hp; obtain ⟨x, hx, rfl⟩ := List.mem_map.mp hp; exact (h x hx).data, sms_map f l fun x hx => (h x hx).sm, wts_map f l k fun x hx => (h x hx).wt, dps_map f l 10 fun x hx => (h x hx).dp⟩
theorem Good.int {i : Int} (h : sml i) : Good 1 (.int i) := ⟨by simp, by simp [log_sml h], by simp, by simp⟩
theorem Good.bl (b : Bool) : Good 1 (.bl b) := ⟨by simp, by simp, by simp, by simp⟩
theorem Good.str {x : Str} (h : (PyData.strOk x && decide ((reprText x).length ≤ 1990)) = true) : Good 1 (.str x) := ⟨by simp, by simpa using h, by simp, by simp⟩
@[simp] theorem fIsN_non (p : PV) (μ : Mem) : fIsN [p, .non] μ = .ok (.bl (isNon p)) μ := id rfl
@[simp] theorem fNotN_non (p : PV) (μ : Mem) : fNotN [p, .non] μ = .ok (.bl (!isNon p)) μ := id rfl
@[simp] theorem isNon_non : isNon .non = true := id rfl
@[simp] theorem isNon_int (i : Int) : isNon (.int i) = false := id rfl
@[simp] theorem isNon_bl (i : Bool) : isNon (.bl i) = false := id rfl
@[simp] theorem isNon_str (i : Str) : isNon (.str i) = false := id rfl
@[simp] theorem isNon_tup (i : List PV) : isNon (.tup i) = false := id rfl
@[simp] theorem isNon_ref (i : Nat) : isNon (.ref i) = false := id rfl
@[simp] theorem ixN_last (n : Nat) : ixN (n + 1) (-1) = some n := by
  unfold ixN
  rw [if_neg (by omega), if_pos (by omega)]
  congr 1
  omega
@[simp] theorem set_last {α : Type} (l : List α) (x p : α) : (l ++ [x]).set l.length p = l ++ [p] := by
  rw [List.set_append_right _ _ (Nat.le_refl _), Nat.sub_self]; rfl
theorem log_lt {z : Int} {n : Nat} (h : z.natAbs < 2 ^ n) (h0 : 0 < n) : z.natAbs.log2 < n := by
  by_cases e : z.natAbs = 0
  · rw [e]; exact h0
  · exact (Nat.log2_lt e).mpr h
/-- numbers that may be multiplied -/
theorem mul_big {i j : Int} (hi : i.natAbs < 10 ^ 150) (hj : j.natAbs < 10 ^ 150) : mulOk i j := by
  have e : (10 ^ 150 : Nat) < 2 ^ 500 := by decide +kernel
  have h1 := log_lt (n := 500) (Nat.lt_trans hi e) (by omega)
  have h2 := log_lt (n := 500) (Nat.lt_trans hj e) (by omega)
  exact .inr (.inr (by omega))
/-- one cell may be another one, the rest of the old memory stays -/
structure Upd (a : Nat) (μ m : Mem) (l : List PV) : Prop where
  at' : m[a]? = some (.lst l)
  len : μ.length ≤ m.length
  keep : ∀ i, i ≠ a → i < μ.length → m[i]? = μ[i]?
theorem Upd.take {a : Nat} {μ m : Mem} {l : List PV} (h : Upd a μ m l) (ha : a < μ.length) : Upd a μ (m.take μ.length) l := by
  refine ⟨?_, by have := h.len; simp; omega, fun i h1 h2 => ?_⟩
  · rw [List.getElem?_take_of_lt ha]; exact h.at'
  · rw [List.getElem?_take_of_lt h2]; exact h.keep i h1 h2
theorem Upd.refl {a : Nat} {μ : Mem} {l : List PV} (h : μ[a]? = some (.lst l)) : Upd a μ μ l := ⟨h, Nat.le_refl _, fun _ _ _ => rfl⟩
theorem Upd.app {a : Nat} {μ m : Mem} {l : List PV} (h : Upd a μ m l) (k : Mem) : Upd a μ (m ++ k) l :=
  ⟨get_some h.at', by have := h.len; simp; omega, fun i h1 h2 => by rw [List.getElem?_append_left (by have := h.len; omega)]; exact h.keep i h1 h2⟩
theorem Upd.set {a : Nat} {μ m : Mem} {l k : List PV} (h : Upd a μ m l) : Upd a μ (m.set a (.lst k)) k :=
  ⟨get_set_same h.at', by simpa using h.len, fun i h1 h2 => by rw [List.getElem?_set_ne (by omega)]; exact h.keep i h1 h2⟩
theorem Upd.trans {a : Nat} {x y z : Mem} {l k : List PV} (h : Upd a x y l) (g : Upd a y z k) : Upd a x z k :=
  ⟨g.at', Nat.le_trans h.len g.len, fun i h1 h2 => (g.keep i h1 (Nat.lt_of_lt_of_le h2 h.len)).trans (h.keep i h1 h2)⟩
theorem ext_iff {μ m : Mem} : Ext μ m ↔ μ.length ≤ m.length ∧ ∀ i, i < μ.length → m[i]? = μ[i]? := by
  constructor
  · rintro ⟨l, rfl⟩
    exact ⟨by simp, fun i h => List.getElem?_append_left h⟩
  · rintro ⟨h1, h2⟩
    refine ⟨m.drop μ.length, ?_⟩
    have e : m.take μ.length = μ := by
      apply List.ext_getElem?
      intro i
      by_cases h : i < μ.length
      · rw [List.getElem?_take_of_lt h, h2 i h]
      · rw [List.getElem?_eq_none (by simp; omega), List.getElem?_eq_none (by omega)]
    conv => lhs; rw [← List.take_append_drop μ.length m, e]
theorem Upd.ext {a : Nat} {μ x y : Mem} {l : List PV} (h : Upd a x y l) (e : Ext μ x) (ha : μ.length ≤ a) : Ext μ y := by
  rw [ext_iff] at *
  exact ⟨Nat.le_trans e.1 h.len, fun i hi => (h.keep i (by omega) (by omega)).trans (e.2 i hi)⟩
end PL
end
section
set_option autoImplicit false
/-! Bits of numbers that are not below nought. -/
namespace PL
open PySem
theorem bAnd_nat (x y : Nat) : Builtin.bitAnd (x : Int) (y : Int) = ((x &&& y : Nat) : Int) := by
  unfold Builtin.bitAnd
  have h1 : decide ((0 : Int) ≤ x) = true := by simp
  have h2 : decide ((0 : Int) ≤ y) = true := by simp
  rw [h1, h2]; rfl
theorem bOr_nat (x y : Nat) : Builtin.bitOr (x : Int) (y : Int) = ((x ||| y : Nat) : Int) := by
  have := L2.bitOr_nn (x := (x : Int)) (y := (y : Int)) (by omega) (by omega)
  simpa using this
theorem bXor_nat (x y : Nat) : Builtin.bitXor (x : Int) (y : Int) = ((x ^^^ y : Nat) : Int) := by
  have := Bits.bitXor_pp (x := (x : Int)) (y := (y : Int)) (by omega) (by omega)
  simpa using this
theorem fAnd_nat (x y : Nat) (μ : Mem) : fBAnd [.int x, .int y] μ = .ok (.int ((x &&& y : Nat) : Int)) μ := by simp only [fBAnd, bAnd_nat]
theorem fOr_nat (x y : Nat) (μ : Mem) : fBOr [.int x, .int y] μ = .ok (.int ((x ||| y : Nat) : Int)) μ := by simp only [fBOr, bOr_nat]
theorem fXor_nat (x y : Nat) (μ : Mem) : fBXor [.int x, .int y] μ = .ok (.int ((x ^^^ y : Nat) : Int)) μ := by simp only [fBXor, bXor_nat]
theorem shl_nat {x n k : Nat} (h : x < 2 ^ k) (hn : n + k ≤ 134217728) : shlOk x n := by
  unfold shlOk
  have := L2.shl_ok (i := (x : Int)) (j := n) (n := k) (by simpa using h) (by omega)
  exact this
theorem fShl_nat {x n k : Nat} (h : x < 2 ^ k) (hn : n + k ≤ 134217728) (μ : Mem) : fShl [.int x, .int n] μ = .ok (.int ((x <<< n : Nat) : Int)) μ := by
  have hs := shl_nat h hn
  rw [fShl_int, if_pos hs]
  congr 2
  rw [Nat.shiftLeft_eq]
  push_cast
  simp
theorem fShr_nat (x n : Nat) (μ : Mem) : fShr [.int x, .int n] μ = .ok (.int ((x >>> n : Nat) : Int)) μ := by
  have h : fShr [.int (x : Int), .int (n : Int)] μ = if (0 : Int) ≤ n then .ok (.int ((x : Int) / 2 ^ ((n : Int)).toNat)) μ else .stuck := rfl
  rw [h, if_pos (by omega)]
  congr 2
  rw [Nat.shiftRight_eq_div_pow]
  simp
end PL
namespace PL
theorem fExtend_ref {n k : Nat} {l r : List PV} {μ : Mem} (h1 : μ[n]? = some (.lst l)) (h2 : μ[k]? = some (.lst r)) (hne : n ≠ k) (hz : l.length + r.length ≤ SL) : fExtend [.ref n, .ref k] μ = .ok .non (μ.set n (.lst (l ++ r))) := by
  unfold fExtend
  simp [h1, h2, getL, hne, hz]
end PL
end
section
set_option autoImplicit false
namespace PL
open PySem
@[simp] theorem fIsB_ev (a b : Bool) (μ : Mem) : fIsB [.bl a, .bl b] μ = .ok (.bl (decide (a = b))) μ := id rfl
@[simp] theorem fNotB_ev (a b : Bool) (μ : Mem) : fNotB [.bl a, .bl b] μ = .ok (.bl (!decide (a = b))) μ := id rfl
end PL
end
section
set_option autoImplicit false
/-! Dicts by rewriting; what is drawn from, and what stays. -/
namespace PL
open PySem
@[simp] theorem keyOf_int (i : Int) : keyOf (.int i) = some (.inl i) := id rfl
@[simp] theorem keyOf_str (i : Str) : keyOf (.str i) = some (.inr i) := id rfl
@[simp] theorem valD_nil (k : DK) : valD [] k = none := id rfl
@[simp] theorem valD_cons (x : DK × PV) (r : KVs) (k : DK) : valD (x :: r) k = if x.1 = k then some x.2 else valD r k := by
  by_cases h : x.1 = k <;> simp [valD, h]
theorem valD_put (kvs : KVs) (k : DK) (p : PV) (j : DK) : valD (putD kvs k p) j = if k = j then some p else valD kvs j := by
  unfold putD
  split
  · rename_i h
    induction kvs with
    | nil => simp at h
    | cons x r ih =>
      by_cases e : x.1 = k
      · by_cases e2 : k = j
        · simp [e, e2]
        · simp only [List.map_cons, e, if_true, valD_cons, e2, if_false]
          clear ih h
          induction r with
          | nil => rfl
          | cons y r ih => by_cases e3 : y.1 = k
                           · simp [e3, e2, ih]
                           · simp [e3, ih]
      · simp only [List.any_cons, e, decide_false, Bool.false_or] at h
        simp only [List.map_cons, e, if_false, valD_cons, ih h]
        by_cases e2 : x.1 = j
        · have : k ≠ j := fun z => e (e2.trans z.symm)
          simp [e2, this]
        · simp [e2]
  · rename_i h
    induction kvs with
    | nil => simp
    | cons x r ih =>
      rw [List.any_cons, Bool.or_eq_true, not_or, decide_eq_true_eq] at h
      rw [List.cons_append, valD_cons, valD_cons, ih h.2]
      by_cases e2 : x.1 = j
      · have : k ≠ j := fun z => h.1 (e2.trans z.symm)
        simp [e2, this]
      · simp [e2]
@[simp] theorem dctAt_ref (μ : Mem) (n : Nat) : dctAt μ (.ref n) = (match μ[n]? with | some (.dct kvs) => some kvs | _ => none) := id rfl
theorem fDGet_ok {μ : Mem} {n : Nat} {kvs : KVs} {q : PV} {k : DK} {p : PV} (h : μ[n]? = some (.dct kvs)) (hk : keyOf q = some k) (hp : valD kvs k = some p) : fDGet [.ref n, q] μ = .ok p μ := by
  simp [fDGet, h, hk, hp]
theorem fDPut_ok {μ : Mem} {n : Nat} {kvs : KVs} {q : PV} {k : DK} {p : PV} (h : μ[n]? = some (.dct kvs)) (hk : keyOf q = some k) (hl : kvs.length < SL) : fDPut [.ref n, q, p] μ = .ok .non (μ.set n (.dct (putD kvs k p))) := by
  simp [fDPut, h, hk, hl]
@[simp] theorem dput_ev (o i e : Ex) (env : Env) (μ : Mem) : dput o i e env μ = .of (e env μ) fun p μ1 => .of (o env μ1) fun x μ2 => .of (i env μ2) fun y μ3 => .of (fDPut [x, y, p] μ3) fun _ μ4 => .nx env μ4 := id rfl
@[simp] theorem dn_ev (env : Env) (μ : Mem) : dn env μ = .ok [] μ := id rfl
@[simp] theorem dc_ev (k x : Ex) (r : Ap) (env : Env) (μ : Mem) : dc k x r env μ = (k env μ).bind fun p μ1 => (x env μ1).bind fun q μ2 => (r env μ2).bind fun ps μ3 => .ok ((p, q) :: ps) μ3 := id rfl
@[simp] theorem dsp_ev (r : Ap) (env : Env) (μ : Mem) : dsp r env μ = (r env (μ ++ [.dct []])).bind fun ps μ1 => dfin μ.length ps μ1 := id rfl
@[simp] theorem dnew_ev (env : Env) (μ : Mem) : dnew env μ = .ok (.ref μ.length) (μ ++ [.dct []]) := id rfl
@[simp] theorem keysOf_nil : keysOf [] = some [] := id rfl
@[simp] theorem keysOf_str (x : Str) (p : PV) (r : List (PV × PV)) : keysOf ((.str x, p) :: r) = (keysOf r).map fun ks => (.inr x, p) :: ks := by
  simp only [keysOf, keyOf]
  cases keysOf r <;> rfl
/-- what is drawn from: cells that draws change -/
structure Fam where
  cs : List Nat
  top : Nat
  inv : Mem → Prop
  le : ∀ i ∈ cs, i ≤ top
  loc : ∀ m m', inv m → (∀ i ∈ cs, m'[i]? = m[i]?) → inv m'
  lt : ∀ m, inv m → top < m.length
namespace Fam
variable {F : Fam}
/-- drawn from, all else as it was -/
def Go (F : Fam) (m m' : Mem) : Prop := F.inv m' ∧ m.length ≤ m'.length ∧ ∀ i, i ∉ F.cs → i < m.length → m'[i]? = m[i]?
theorem Go.i {m m' : Mem} (h : F.Go m m') : F.inv m' := h.1
theorem Go.len {m m' : Mem} (h : F.Go m m') : m.length ≤ m'.length := h.2.1
theorem Go.lt {m m' : Mem} (h : F.Go m m') : F.top < m'.length := F.lt _ h.1
theorem refl {m : Mem} (h : F.inv m) : F.Go m m := ⟨h, Nat.le_refl _, fun _ _ _ => rfl⟩
theorem Go.trans {x y z : Mem} (h : F.Go x y) (k : F.Go y z) : F.Go x z := ⟨k.1, Nat.le_trans h.2.1 k.2.1, fun i h1 h2 => (k.2.2 i h1 (Nat.lt_of_lt_of_le h2 h.2.1)).trans (h.2.2 i h1 h2)⟩
theorem ext {m m' : Mem} (h : F.inv m) (e : Ext m m') : F.Go m m' := by
  obtain ⟨l, rfl⟩ := e
  refine ⟨F.loc m _ h fun i hi => ?_, by simp, fun i _ hi => List.getElem?_append_left hi⟩
  have := F.le i hi
  have := F.lt m h
  exact List.getElem?_append_left (by omega)
theorem app {m : Mem} (h : F.inv m) (l : Mem) : F.inv (m ++ l) := (ext h (Ext.app m l)).1
theorem go_app {m : Mem} (h : F.inv m) (l : Mem) : F.Go m (m ++ l) := ext h (Ext.app m l)
theorem Go.ext {m m' m'' : Mem} (h : F.Go m m') (e : Ext m' m'') : F.Go m m'' := h.trans (Fam.ext h.1 e)
theorem Go.app {m m' : Mem} (h : F.Go m m') (l : Mem) : F.Go m (m' ++ l) := h.ext (Ext.app _ _)
theorem Go.get {m m' : Mem} (h : F.Go m m') {i : Nat} {o : PO} (e : m[i]? = some o) (hi : F.top < i) : m'[i]? = some o := by
  rw [h.2.2 i (fun hm => by have := F.le i hm; omega) (List.getElem?_eq_some_iff.mp e).1]; exact e
theorem Go.get' {m m' : Mem} (h : F.Go m m') {i : Nat} {o : PO} (e : m[i]? = some o) (hi : i ∉ F.cs) : m'[i]? = some o := by
  rw [h.2.2 i hi (List.getElem?_eq_some_iff.mp e).1]; exact e
/-- a new cell is written -/
theorem Go.set {m m' : Mem} (h : F.Go m m') (hm : F.top < m.length) {k : Nat} (hk : m.length ≤ k) (o : PO) : F.Go m (m'.set k o) := by
  refine ⟨F.loc m' _ h.1 fun i hi => ?_, by simpa using h.2.1, fun i h1 h2 => ?_⟩
  · have := F.le i hi
    exact List.getElem?_set_ne (by omega)
  · rw [List.getElem?_set_ne (by omega)]
    exact h.2.2 i h1 h2
/-- a cell that draws change is written -/
theorem Go.put {m m' : Mem} (h : F.Go m m') {k : Nat} (hk : k ∈ F.cs) {o : PO} (hi : F.inv (m'.set k o)) : F.Go m (m'.set k o) := by
  refine ⟨hi, by simpa using h.2.1, fun i h1 h2 => ?_⟩
  rw [List.getElem?_set_ne (fun e : k = i => h1 (e ▸ hk))]
  exact h.2.2 i h1 h2
theorem Go.take {m m' : Mem} (hp : F.inv m) (h : F.Go m m') : F.Go m (m'.take m.length) := by
  have hl := F.lt m hp
  refine ⟨F.loc m' _ h.1 fun i hi => ?_, by have := h.2.1; simp; omega, fun i h1 h2 => ?_⟩
  · have := F.le i hi
    exact List.getElem?_take_of_lt (by omega)
  · rw [List.getElem?_take_of_lt h2]
    exact h.2.2 i h1 h2
theorem fn_go {n : Nat} {b : Sm} {args : List PV} {μ : Mem} {P : PV → Prop} (hp : F.inv μ) (h : (run n b args μ).sat fun p m => P p ∧ F.Go μ m) : (fn n b args μ).sat fun p m => P p ∧ F.Go μ m := by
  obtain ⟨p, m, e, h1, h2⟩ := rsat_ex h
  rw [fn_ev, e]
  unfold gc
  simp only
  split
  · exact ⟨_, _, rfl, h1, h2.take hp⟩
  · exact ⟨_, _, rfl, h1, h2⟩
end Fam
/-- a dict that is drawn from, with a list of great numbers behind it -/
def jarF (j : Nat) : Fam where
  cs := [j, j + 1]
  top := j + 1
  inv m := ∃ (bs : List Int) (s t : Int), m[j]? = some (.dct [(.inr ("wide" : Str), .ref (j + 1)), (.inr ("stirred" : Str), .int s), (.inr ("times" : Str), .int t)]) ∧ m[j + 1]? = some (.lst (bs.map .int)) ∧ bs.length ≤ 100
  le i hi := by simp at hi; omega
  loc m m' h e := by
    obtain ⟨bs, s, t, h1, h2, h3⟩ := h
    exact ⟨bs, s, t, by rw [e j (by simp)]; exact h1, by rw [e (j + 1) (by simp)]; exact h2, h3⟩
  lt m h := by
    obtain ⟨bs, s, t, h1, h2, h3⟩ := h
    exact (List.getElem?_eq_some_iff.mp h2).1
end PL
end
section
set_option autoImplicit false
/-! Lists of lists: repr. -/
namespace PL
open PySem
theorem toDn_lst {μ : Mem} {n k : Nat} {l : List PV} (h : μ[n]? = some (.lst l)) (hd : PV.datas l = true) : toDn μ (k + 1) (.ref n) = some (.list (PV.pds l)) := by
  unfold toDn PV.conv
  rw [h]
  simp only
  rw [convs_pd _ l hd]
  rfl
/-- cells that hold lists of data -/
def Cells (μ : Mem) : List Nat → List (List PV) → Prop
  | [], [] => True
  | k :: ks, l :: ls => μ[k]? = some (.lst l) ∧ Cells μ ks ls
  | _, _ => False
theorem convs_cells {μ : Mem} {m : Nat} : ∀ {ks : List Nat} {ls : List (List PV)}, Cells μ ks ls → (∀ l ∈ ls, PV.datas l = true) → PV.convs (fun j => toDn μ (m + 1) (.ref j)) (ks.map .ref) = some (ls.map fun l => .list (PV.pds l))
  | [], [], _, _ => rfl
  | k :: ks, l :: ls, h, hd => by
    have ih := convs_cells (m := m) h.2 fun z hz => hd z (by simp [hz])
    have e : PV.conv (fun j => toDn μ (m + 1) (.ref j)) (.ref k) = some (.list (PV.pds l)) := toDn_lst h.1 (hd l (by simp))
    show (PV.conv (fun j => toDn μ (m + 1) (.ref j)) (.ref k)).bind (fun d => (PV.convs (fun j => toDn μ (m + 1) (.ref j)) (ks.map .ref)).map fun ds => d :: ds) = _
    rw [e, ih]
    rfl
  | [], _ :: _, h, _ => h.elim
  | _ :: _, [], h, _ => h.elim
theorem toD_cells {μ : Mem} {n : Nat} {ks : List Nat} {ls : List (List PV)} (h : μ[n]? = some (.lst (ks.map .ref))) (hc : Cells μ ks ls) (hd : ∀ l ∈ ls, PV.datas l = true) : toD μ (.ref n) = some (.list (ls.map fun l => .list (PV.pds l))) := by
  rw [toD_ref, h]
  simp only
  rw [convs_cells (m := 3) hc hd]
  rfl
theorem repr_two {μ : Mem} {n a b : Nat} {la lb : List PV} (h : μ[n]? = some (.lst [.ref a, .ref b])) (ha : μ[a]? = some (.lst la)) (hb : μ[b]? = some (.lst lb)) (ga : Goods 3000 la) (gb : Goods 3000 lb) : fRepr [.ref n] μ = .ok (.str (PyData.list [.list (PV.pds la), .list (PV.pds lb)]).shown) μ := by
  refine repr_ok (toD_cells (ks := [a, b]) (ls := [la, lb]) h ⟨ha, hb, trivial⟩ (by simp [ga.data, gb.data])) (by simp [ga.sm, gb.sm]) (by have := ga.wt; have := gb.wt; simp; omega) (by have := ga.dp; have := gb.dp; simp; omega)
end PL
end
section
set_option autoImplicit false
/-! sorted(set(a list of numbers)). -/
namespace PL
open PySem
def insS (x : Int) : List Int → List Int
  | [] => [x]
  | y :: l => if x < y then x :: y :: l else if x = y then y :: l else y :: insS x l
def sortS : List Int → List Int
  | [] => []
  | x :: l => insS x (sortS l)
def fSortSet : Fn
  | [.ref n], μ => match (getL μ (.ref n)).bind intsOf with
    | some is => if is.length ≤ 63 then newL ((sortS is).map .int) μ else .stuck
    | none => .stuck
  | _, _ => .stuck
theorem insS_mem (x : Int) : ∀ (l : List Int) (k : Int), k ∈ insS x l ↔ k = x ∨ k ∈ l
  | [], k => by simp [insS]
  | y :: l, k => by
    unfold insS
    by_cases h : x < y
    · rw [if_pos h]; simp
    · rw [if_neg h]
      by_cases e : x = y
      · rw [if_pos e, e]; simp
      · rw [if_neg e, List.mem_cons, insS_mem x l k, List.mem_cons]
        constructor
        · rintro (h | h | h)
          · exact .inr (.inl h)
          · exact .inl h
          · exact .inr (.inr h)
        · rintro (h | h | h)
          · exact .inr (.inl h)
          · exact .inl h
          · exact .inr (.inr h)
theorem sortS_mem : ∀ (l : List Int) (k : Int), k ∈ sortS l ↔ k ∈ l
  | [], k => by simp [sortS]
  | x :: l, k => by simp only [sortS, insS_mem, sortS_mem l k, List.mem_cons]
theorem insS_asc (x : Int) : ∀ l : List Int, l.Pairwise (· < ·) → (insS x l).Pairwise (· < ·)
  | [], _ => List.pairwise_singleton _ _
  | y :: l, h => by
    unfold insS
    obtain ⟨h1, h2⟩ := List.pairwise_cons.mp h
    by_cases c : x < y
    · rw [if_pos c]
      refine List.pairwise_cons.mpr ⟨fun z hz => ?_, h⟩
      rcases List.mem_cons.mp hz with rfl | hz
      · exact c
      · have := h1 z hz; omega
    · rw [if_neg c]
      by_cases e : x = y
      · rw [if_pos e]; exact h
      · rw [if_neg e]
        refine List.pairwise_cons.mpr ⟨fun z hz => ?_, insS_asc x l h2⟩
        rcases (insS_mem x l z).mp hz with rfl | hz
        · omega
        · exact h1 z hz
theorem sortS_asc : ∀ l : List Int, (sortS l).Pairwise (· < ·)
  | [] => List.Pairwise.nil
  | x :: l => insS_asc x _ (sortS_asc l)
theorem ascS_uniq : ∀ {a b : List Int}, (∀ k, k ∈ a ↔ k ∈ b) → a.Pairwise (· < ·) → b.Pairwise (· < ·) → a = b
  | [], [], _, _, _ => rfl
  | [], y :: b, h, _, _ => absurd ((h y).mpr List.mem_cons_self) (by simp)
  | x :: a, [], h, _, _ => absurd ((h x).mp List.mem_cons_self) (by simp)
  | x :: a, y :: b, h, ha, hb => by
    obtain ⟨a1, a2⟩ := List.pairwise_cons.mp ha
    obtain ⟨b1, b2⟩ := List.pairwise_cons.mp hb
    have e : x = y := by
      have h1 : y ≤ x := by
        rcases List.mem_cons.mp ((h x).mp List.mem_cons_self) with e | e
        · omega
        · have := b1 x e; omega
      have h2 : x ≤ y := by
        rcases List.mem_cons.mp ((h y).mpr List.mem_cons_self) with e | e
        · omega
        · have := a1 y e; omega
      omega
    subst e
    rw [ascS_uniq (a := a) (b := b) (fun k => ?_) a2 b2]
    have hk := h k
    rw [List.mem_cons, List.mem_cons] at hk
    constructor
    · intro hm
      rcases hk.mp (.inr hm) with e | e
      · have := a1 k hm; omega
      · exact e
    · intro hm
      rcases hk.mpr (.inr hm) with e | e
      · have := b1 k hm; omega
      · exact e
end PL
end
section
set_option autoImplicit false
set_option Elab.async false
set_option linter.all false
set_option maxRecDepth 100000
set_option maxHeartbeats 4000000
/-! sorted(set(list of numbers)). -/
namespace PL
open PySem PySem.Spec PyProof.Rows L2
section
variable {P : Program} {w : World} {A : Around} {E : Value → Shared → Prop} {s : Shared}
/-- a set just made -/
abbrev noSet (w : World) : Obj := { cls := .type "set", dict := none, data := .set #[] 0 (.fresh 0 0 (!w.params.followText "set-order")) }
theorem set_of_ints {l : Addr} {items : Array Value} (ns : List Int) {Q : Value → Shared → Prop} (calm : A.handled = none) (lst : s.heap.IsList l items) (its : IntsAre items.toList ns) (few : ns.length + 1 < scanBound)
    (fin : ∀ (h' : Heap) (tk c : Nat), SetR w h' s.heap.objs.size (fun j => decide (j ∈ ns)) c → c ≤ ns.length → (∀ b o, s.heap.get? b = some o → h'.get? b = some o) → Q (.ref s.heap.objs.size) { s with heap := h', toks := tk }) :
    wpAny (model P w) A (call (.type "set") [.ref l]) Q E s := by
  have size : items.size = ns.length := by have := its.length; rwa [Array.length_toList] at this
  obtain ⟨c0, t0, mro0⟩ := F.called_set.mro; have made0 := F.called_set.made; have sub0 := F.called_set.sub
  refine wpAny_call (codeAny_of_tree ?_); show wpAny _ _ (callAny (.type "set") _) _ _ _
  refine wpAny_pure ⟨Code.quiet_builtin _ (by decide +kernel), codeAny_builtin F.entry_type_call (?_ : _)⟩; rw [Around.under_plain (weight_type_call_type "set" [.ref l] []) rfl]
  have n1 := F.called_set.notType; have n2 := F.called_set.canCreate; have n3 := F.typeCall_set_1 (.ref l)
  repeat (any_goals (first | assumption | wp_step))
  refine codeAny_mono (code_set_led1 (.ref l) (E := E) (Q₁ := fun ob s₁ => ob = .ref s.heap.objs.size ∧ s₁ = { s with heap := s.heap.push (noSet w) }) ⟨rfl, rfl⟩) fun res s₁ q => ?_
  cases res with
  | error e => exact q
  | ok way =>
    cases way with
    | ret ob =>
      obtain ⟨rfl, rfl⟩ := q
      have here : (s.heap.push (noSet w)).get? s.heap.objs.size = some (noSet w) := Heap.get?_push_size _ rfl
      have isT : Shared.TypeIs { s with heap := s.heap.push (noSet w) } (.ref s.heap.objs.size) "set" := ⟨_, here, rfl⟩
      have m1 := F.called_set.init.lookup; have m2 := F.called_set.init.bind (.ref s.heap.objs.size)
      repeat (any_goals (first | assumption | wp_step))
      refine codeAny_mono (codeAny_call_builtin (R := wants (fun r s₂ => r = .none ∧ ∃ h' tk c, s₂ = { s with heap := h', toks := tk } ∧ SetR w h' s.heap.objs.size (fun j => decide (j ∈ ns)) c ∧ c ≤ ns.length ∧ (∀ b o, s.heap.get? b = some o → h'.get? b = some o)) E) F.called_set.init.plain F.entry_set_init (check_set_init_1 isT ?_)) fun res2 s₂ q2 => ?_
      · obtain ⟨⟨oc, od, oa, os⟩, got, ec, nl, ed⟩ := lst
        simp only at ec ed
        subst ec ed
        have got' : (s.heap.push (noSet w)).get? l = some { cls := .type "list", dict := od, data := .seq items nl, slots := os } := Heap.get?_push_of_some _ got
        have f1 := F.sub_list_set; have f2 := F.sub_list_frozenset; have f3 : (Value.type "list" == Value.type "dict") = false := by decide
        have isL : (s.heap.push (noSet w)).IsList l items := ⟨_, got', rfl, nl, rfl⟩
        unfold Builtin.«set.__init__» noKeywords Builtin.Frozenset.updateFrom
        generalize hp : pyIter = pit
        wp_walk
        subst hp
        refine wpAny_pyIter_list isL (wpAny_bind (wpAny_runValue ?_))
        have lt : l < s.heap.objs.size := Heap.lt_size got
        have calm3 : A.in1.in1.in1.handled = none := by simp [calm]
        have ne1 : l ≠ (s.heap.push (noSet w)).objs.size := by rw [Heap.size_push]; exact Nat.ne_of_lt (Nat.lt_succ_of_lt lt)
        have ne2 : s.heap.objs.size ∉ [(s.heap.push (noSet w)).objs.size, l] := by
          rw [Heap.size_push]; simp only [List.mem_cons, List.not_mem_nil, or_false, not_or]
          exact ⟨Nat.ne_of_lt (Nat.lt_succ_self _), Nat.ne_of_gt lt⟩
        have val : ∀ (i : Nat) (v : Value), items[i]? = some v → ∃ k t, ns[i]? = some k ∧ v = .int k t := fun i v hv => by
          have hi : i < ns.length := by have := (Array.getElem?_eq_some_iff.mp hv).1; omega
          obtain ⟨t, e⟩ := IntsAre.int_at its i v (by rw [Array.getElem?_toList]; exact hv)
          exact ⟨ns[i], t, List.getElem?_eq_getElem hi, by rw [e, List.getD_eq_getElem?_getD, List.getElem?_eq_getElem hi] <;> rfl⟩
        refine set_update_ints ((Walks.list calm3 _ l ne1 items).toS) s.heap.objs.size ne2 ns size few val (items.size - 0) 0 _ (by omega) (Nat.zero_le _) ⟨⟨_, Heap.get?_push_size _ rfl, rfl, rfl⟩, (isL.push _)⟩ ⟨0, Nat.le_refl 0, setR_new_at (Heap.get?_push_of_some _ here)⟩ ?_
        rintro ⟨h', g2, d', tk', os'⟩ c' mv hc' hS'
        have e1 : g2 = s.gens := mv.gens; have e2 : d' = s.drawn := mv.drawn; have e3 : os' = s.os := mv.os
        subst e1 e2 e3
        show wpAny _ _ _ _ _ _; refine wpAny_pure ?_; show wpAny _ _ (PySem.ret Value.none) _ _ _
        rw [size] at hc'
        refine wpAny_pure ⟨rfl, h', tk', c', rfl, hS', hc', fun b o e => mv.heap b o ?_ (Heap.get?_push_of_some _ (Heap.get?_push_of_some _ e))⟩
        have lb := Heap.lt_size e
        simp only [List.mem_cons, List.not_mem_nil, or_false, not_or]
        rw [Heap.size_push]
        exact ⟨Nat.ne_of_lt lb, Nat.ne_of_lt (Nat.lt_succ_of_lt lb)⟩
      · cases res2 with
        | error e => exact q2
        | ok way2 =>
          cases way2 with
          | ret r =>
            obtain ⟨rfl, h', tk, c, rfl, hS', hc', hk'⟩ := q2
            repeat (any_goals (first | assumption | wp_step))
            exact fin _ _ _ hS' hc' hk'
          | _ => exact q2.elim
    | _ => exact q.elim
end
section
variable {X : Cx} {E : XK}
def rSetOfI (K : PySem.W.Frag) (w : World) : List V → Hp → VK → Prop := fun xs H Q => ∃ (l : Addr) (ns : List Int), xs = [V.ref l] ∧ SqL K H l (ns.map V.int) ∧ ns.length + 1 < scanBound ∧ ∀ p c, c ≤ ns.length → H p = none → Q (.ref p) (upd H p (SetO w p (fun j => decide (j ∈ ns)) c))
theorem cr_setOfI (hc : X.calm = true) : CallR X (.type "set") (rSetOfI X.K X.w) := by
  intro pins s σ H xs us Q I r h
  obtain ⟨l, ns, rfl, hq, few, q⟩ := h
  rw [Vals.ref1 r]
  obtain ⟨its, rv, pl, _⟩ := I.list hq
  refine set_of_ints ns (I.ok.hd hc) pl.isList (by simpa using rv.ints) few fun h' tk c hS hle hk => ?_
  exact ⟨.ref _, _, I.laid (t' := tk) hk (Nat.le_refl _) (setO_new hS), rfl, q _ c hle (I.hok.fresh (Nat.le_refl _))⟩
theorem pp_sortset {a : Expr} {fa : Ex} {p p2 q pos : Pos} (ha : PP X E a fa) (hm : X.mg "sorted" = none) (hm2 : X.mg "set" = none) (hc : X.calm = true) (hg : Gl X "sorted" := by rfl) (hg2 : Gl X "set" := by rfl)
    (he : starEach [a] X.env = (false, eval a X.env) :: starEach [] X.env := by rfl) (he2 : starEach [.Call (.Name "set" p2) [a] [] q] X.env = (false, eval (.Call (.Name "set" p2) [a] [] q) X.env) :: starEach [] X.env := by rfl) : PP X E (.Call (.Name "sorted" p) [.Call (.Name "set" p2) [a] [] q] [] pos) (app1 fSortSet fa) := ⟨by
  refine PE.imp (pe_callB (cr_sortedSet hc) hg hm boot_sorted (pa_cons (pe_callTy (cr_setOfI hc) hg2 hm2 boot_set (pa_cons ha.pe pa_nil he) (by decide) (by decide) he rfl) pa_nil he2) (by decide) (by decide) he2 rfl) fun σ H Q h => ?_
  obtain ⟨env, μ, ρ, eo, M, h⟩ := h
  refine tE_bind eo M h fun x H1 p m ρ1 _ l1 e1 M1 r1 q1 => ?_
  cases p with
  | ref n =>
    simp only [fSortSet] at q1
    split at q1
    · rename_i is e
      split at q1
      · rename_i hz
        cases e2 : getL m (.ref n) with
        | none => rw [e2] at e; simp at e
        | some l =>
          rw [e2] at e
          obtain ⟨a, ys, rfl, k1, k2, _⟩ := getL_ref M1 r1 e2
          obtain rfl := intsOf_map (show intsOf l = some is from e) k2
          refine ⟨a, is, rfl, k1, by unfold scanBound; omega, fun p c hle hn => ⟨p, _, _, rfl, upd_same, by omega, fun ns p2 asc mem _ hn2 => ?_⟩⟩
          have e3 : ns = sortS is := ascS_uniq (fun k => by rw [mem k, sortS_mem]; simp) asc (sortS_asc is)
          rw [e3]
          obtain ⟨M2, l2⟩ := M1.other (ho := SetO X.w p (fun j => decide (j ∈ is)) c) hn
          exact (Post.later q1 l2).newL M2 (reps_ints _) p2 hn2
      · exact q1.elim
    · exact q1.elim
  | _ => exact q1.elim⟩
theorem pp_callIf {t : Expr} {ft : Ex} {e : Expr} {es : List Expr} {g : Ag} {x y : Str} {p1 p2 p3 pos : Pos} {j1 j2 k : Nat} {st1 st2 : Stmt} {ps1 ps2 : List Str} {m1 m2 : Fn} (ht : PPT X E t ft) (F1 : FnM X.prog X.w X.K X.mg X.base CX0 j1 x st1 ps1 m1) (B1 : Bd x st1 ps1) (F2 : FnM X.prog X.w X.K X.mg X.base CX0 j2 y st2 ps2 m2) (B2 : Bd y st2 ps2) (hr : Room k X.A) (hj1 : j1 ≤ k) (hj2 : j2 ≤ k) (hgd : X.A.guards = some []) (hx : Passes CX0 X E) (ha : PPA X E (e :: es) g) (hl1 : (e :: es).length = ps1.length := by rfl) (hl2 : (e :: es).length = ps2.length := by rfl) (hg1 : Gl X x := by rfl) (hg2 : Gl X y := by rfl) (hd1 : (x == ("__debug__" : Str)) = false := by decide) (hd2 : (y == ("__debug__" : Str)) = false := by decide)
    (he : starEach (e :: es) X.env = (false, eval e X.env) :: starEach es X.env := by rfl) (hpl : (backTo pos (starEach es X.env)).any (·.1) = false := by rfl)
    (hev : eval (.Call (.IfExp t (.Name x p1) (.Name y p2) p3) (e :: es) [] pos) X.env = (do callWith pos (← eval (.IfExp t (.Name x p1) (.Name y p2) p3) X.env) [] (backTo pos (starEach (e :: es) X.env)) (backToKw pos (keywordEach [] X.env))) := by rfl) : PP X E (.Call (.IfExp t (.Name x p1) (.Name y p2) p3) (e :: es) [] pos) (PL.ite ft (app m1 g) (app m2 g)) := ⟨⟨fun pins s σ H Q I h => by
  obtain ⟨env, μ, ρ, eo, M, h⟩ := h
  have go : ∀ {j : Nat} {z : Str} {st : Stmt} {ps : List Str} {m : Fn} {p : Pos} (F : FnM X.prog X.w X.K X.mg X.base CX0 j z st ps m) (B : Bd z st ps) (hj : j ≤ k) (hl : (e :: es).length = ps.length) (hgl : Gl X z) (hdb : (z == ("__debug__" : Str)) = false) (s1 : Shared) (H1 : Hp) (I1 : Inv X pins σ H1 s1) (h1 : tE X.K X.mg E (app m g) σ H1 Q),
      wpAny (model X.prog X.w) X.A (eval (.Name z p) X.env) (fun f s₁ => wpAny (model X.prog X.w) X.A (callWith pos f [] (backTo pos (starEach (e :: es) X.env)) (backToKw pos (keywordEach [] X.env))) (EP X pins σ Q) X.xe s₁) X.xe s1 := by
    intro j z st ps m p F B hj hl hgl hdb s1 H1 I1 h1
    obtain ⟨f, fd, qual, FF, hm, G⟩ := F.ex
    obtain ⟨env, μ, ρ, eo, M, h1⟩ := h1
    have h2 : tA X.K X.mg E g σ H1 (fun vs H1 => spP X.K X.mg ps.length m vs H1 Q E) := tA_bind eo M h1 fun xs H1 as μ1 ρ1 eg l1 e1 M1 r1 q1 => ⟨as, μ1, ρ1, by rw [ha.len _ _ _ _ eg, hl], M1, r1, q1⟩
    refine ld_glob I1 hgl hm ?_ hdb
    refine PySem.W.callWith_K (h₀ := X.base) I1.ok.mod.kin FF.kp (thn (ha.pa.run pos pins s1 σ H1 _ I1 h2) fun us s1 ⟨vs, H2, I2, r, q⟩ => ⟨I2.kIn, ?_⟩) he hpl
    have hl2 : us.length = ps.length := by rw [← r.length]; exact G.len _ _ _ _ q
    obtain ⟨oc, od, kV, doc, pm, an, cdv, ct, osl, rfl, lk, hcd⟩ := FF.ex
    exact call_fnG G (hr.mono hj) hgd (.of_eq (B qual kV doc pm an cdv ct us hl2)) hx I2 r q
  rw [hev]
  refine wpAny_bind (wpAny_IfExp ?_)
  have h2 : tT X.K X.mg E ft σ H (fun c H1 => if c = true then tE X.K X.mg E (app m1 g) σ H1 Q else tE X.K X.mg E (app m2 g) σ H1 Q) := tT_bind (k1 := fun m => app m1 g env m) (k2 := fun m => app m2 g env m) eo M h fun t H1 m ρ1 _ l1 e1 M1 q1 => by
    cases t with
    | true => exact ⟨env, m, ρ1, e1, M1, q1⟩
    | false => exact ⟨env, m, ρ1, e1, M1, q1⟩
  refine thn (ht.pt.run pins s σ H _ I h2) fun d s1 ⟨H1, I1, q1⟩ => ?_
  cases d with
  | true => exact go F1 B1 hj1 hl1 hg1 hd1 s1 H1 I1 q1
  | false => exact go F2 B2 hj2 hl2 hg2 hd2 s1 H1 I1 q1⟩⟩
end
end PL
end
section
/-! The pure bodies (printed by gen.py). -/
namespace Law
open PySem PL
abbrev K_DROP : PV := .str ("drop" : Str)
abbrev K_FILL : PV := .str ("fill" : Str)
abbrev K_TURN : PV := .str ("turn" : Str)
/- ticks_up: 0 part, 1 is_turned -/
noncomputable def b_ticks_up : Sm :=
  (seq (PL.cond (app2 fEq (app2 fIx (v 0) (c (.int 0))) (c (.str ("on" : Str))))
   (ret (PL.ite (v 1) (app1 fNeg (app2 fIx (v 0) (c (.int 1)))) (app2 fIx (v 0) (c (.int 1)))))
   skip)
  (seq (PL.cond (app2 fEq (app2 fIx (v 0) (c (.int 0))) (c (.str ("off" : Str))))
   (ret (PL.ite (v 1) (app2 fIx (v 0) (c (.int 1))) (app1 fNeg (app2 fIx (v 0) (c (.int 1))))))
   skip)
  (ret (c (.int 0)))))
noncomputable def m_ticks_up : Fn := fn 2 b_ticks_up
/- moves: 0 row, 1 part, 2 found, 3 is_turned -/
noncomputable def b_moves : Sm :=
  (seq (par 2 3 (app fLst an) (c (.bl false)))
  (seq (forS (iVal (v 0)) (tn 1)
   (seq (PL.cond (app2 fEq (app2 fIx (v 1) (c (.int 0))) (c K_TURN))
    (setv 3 (app1 fNot (v 3)))
    skip)
   (PL.exp (mth .list fAppend (v 2) (ac (app m_ticks_up (ac (v 1) (ac (v 3) an))) an)))))
  (ret (app fTup (ac (v 2) (ac (v 3) an))))))
noncomputable def m_moves : Fn := fn 4 b_moves
/- heights: 0 row, 1 move, 2 found, 3 height -/
noncomputable def b_heights : Sm :=
  (seq (par 2 3 (app fLst an) (c (.int 0)))
  (seq (forS (iVal (app2 fIx (app m_moves (ac (v 0) an)) (c (.int 0)))) (tn 1)
   (seq (setv 3 (app2 fAdd (v 3) (v 1)))
   (PL.exp (mth .list fAppend (v 2) (ac (v 3) an)))))
  (ret (app fTuple (ac (v 2) an)))))
noncomputable def m_heights : Fn := fn 4 b_heights
/- with_stage: 0 found, 1 word, 2 number -/
noncomputable def b_with_stage : Sm :=
  (seq (PL.cond (PL.and (app2 fNe (v 0) (app fLst an)) (app2 fEq (app2 fIx (app2 fIx (v 0) (app1 fNeg (c (.int 1)))) (c (.int 0))) (v 1)))
   (ret (app2 fAdd (sl (v 0) (c .non) (app1 fPart (app1 fNeg (c (.int 1))))) (app fLst (ac (app fTup (ac (v 1) (ac (v 2) an))) an))))
   skip)
  (ret (app2 fAdd (v 0) (app fLst (ac (app fTup (ac (v 1) (ac (v 2) an))) an)))))
noncomputable def m_with_stage : Fn := fn 3 b_with_stage
/- stages_beyond: 0 row, 1 high, 2 depth, 3 found, 4 height -/
noncomputable def b_stages_beyond : Sm :=
  (seq (setv 3 (app fLst an))
  (seq (forS (iVal (app m_heights (ac (v 0) an))) (tn 4)
   (PL.cond (app2 fGt (v 4) (v 1))
    (seq (setv 1 (v 4))
    (setv 3 (app m_with_stage (ac (v 3) (ac (c K_DROP) (ac (v 1) an))))))
    (PL.cond (app2 fGt (app1 fNeg (v 4)) (v 2))
     (seq (setv 2 (app1 fNeg (v 4)))
     (setv 3 (app m_with_stage (ac (v 3) (ac (c K_FILL) (ac (v 2) an))))))
     skip)))
  (ret (app fTuple (ac (v 3) an)))))
noncomputable def m_stages_beyond : Fn := fn 5 b_stages_beyond
/- stages: 0 row -/
noncomputable def b_stages : Sm :=
  (ret (app m_stages_beyond (ac (v 0) (ac (c (.int 0)) (ac (c (.int 0)) an)))))
noncomputable def m_stages : Fn := fn 1 b_stages
/- most_of: 0 steps, 1 word, 2 own, 3 number -/
noncomputable def b_most_of : Sm :=
  (ret (app fMax (ac (app fLst (ac (c (.int 0)) (acs (lc (iVal (v 0)) (tt 2 (tc (tn 2) (tc (tn 3) t0))) (app2 fEq (v 2) (v 1)) (v 3) [2, 3]) an))) an)))
noncomputable def m_most_of : Fn := fn 4 b_most_of
/- ahead_of: 0 steps, 1 word, 2 bound, 3 place, 4 own, 5 number -/
noncomputable def b_ahead_of : Sm :=
  (seq (forS (iEnum (v 0)) (tt 2 (tc (tn 3) (tc (tt 2 (tc (tn 4) (tc (tn 5) t0))) t0)))
   (PL.cond (PL.and (app2 fEq (v 4) (v 1)) (app2 fGt (v 5) (v 2)))
    (ret (sl (v 0) (c .non) (app1 fPart (v 3))))
    skip))
  (ret (v 0)))
noncomputable def m_ahead_of : Fn := fn 6 b_ahead_of
/- filled_ahead: 0 steps, 1 k -/
noncomputable def b_filled_ahead : Sm :=
  (ret (app m_most_of (ac (app m_ahead_of (ac (v 0) (ac (c K_DROP) (ac (v 1) an)))) (ac (c K_FILL) an))))
noncomputable def m_filled_ahead : Fn := fn 2 b_filled_ahead
/- dropped_ahead: 0 steps, 1 l -/
noncomputable def b_dropped_ahead : Sm :=
  (ret (app m_most_of (ac (app m_ahead_of (ac (v 0) (ac (c K_FILL) (ac (v 1) an)))) (ac (c K_DROP) an))))
noncomputable def m_dropped_ahead : Fn := fn 2 b_dropped_ahead
/- _law_pot: 0 script, 1 cells, 2 cell, 3 first, 4 last -/
noncomputable def b__law_pot : Sm :=
  (seq (setv 1 (lc (iVal (sl (v 0) (c .non) (app1 fPart (c (.int 60))))) (tn 2) yes (PL.ite (app2 fGe (v 2) (c (.int 0))) (app2 fMul (c (.int 2)) (v 2)) (app2 fSub (app1 fNeg (c (.int 1))) (app2 fMul (c (.int 2)) (v 2)))) [2]))
  (seq (par 3 4 (c (.int 7919)) (app2 fAdd (c (.int 104729)) (app fLen (ac (v 1) an))))
  (seq (forS (iVal (v 1)) (tn 2)
   (par 3 4 (app2 fMod (app fInt (ac (app2 fAdd (app2 fAdd (app2 fMul (v 3) (c (.int 69069))) (v 2)) (c (.int 1))) an)) (c (.int 4294967291))) (app2 fMod (app fInt (ac (app2 fAdd (app2 fAdd (app2 fMul (v 4) (c (.int 48271))) (app2 fMul (c (.int 5)) (v 2))) (c (.int 3))) an)) (c (.int 4294967279)))))
  (ret (app fLst (ac (lc (iVal (v 1)) (tn 2) (app2 fGt (v 2) (app2 fPow (c (.int 10)) (c (.int 15)))) (v 2) [2]) (ac (v 3) (ac (v 4) (ac (c (.int 0)) an)))))))))
noncomputable def m__law_pot : Fn := fn 5 b__law_pot
/- _law_dip: 0 pot, 1 size, 2 mixed, 3 cell -/
noncomputable def b__law_dip : Sm :=
  (seq (PL.cond (app2 fNe (app2 fIx (v 0) (c (.int 0))) (app fLst an))
   (seq (setv 3 (mth .list fPop (app2 fIx (v 0) (c (.int 0))) an))
   (seq (PL.cond (app2 fGe (v 3) (v 1))
    (PL.exp (mth .list fAppend (app2 fIx (v 0) (c (.int 0))) (ac (app2 fDiv (v 3) (v 1)) an)))
    skip)
   (ret (app2 fMod (app fInt (ac (v 3) an)) (v 1)))))
   skip)
  (seq (asg (tsub fSet (v 0) (c (.int 3))) (app2 fAdd (app2 fIx (v 0) (c (.int 3))) (c (.int 1))))
  (seq (setv 2 (app2 fMod (app2 fAdd (app2 fIx (v 0) (c (.int 1))) (app2 fMul (app2 fIx (v 0) (c (.int 3))) (c (.int 2654435761)))) (c (.int 4294967291))))
  (seq (setv 2 (app2 fMod (app2 fAdd (app2 fAdd (app2 fMul (v 2) (v 2)) (app2 fMul (app2 fIx (v 0) (c (.int 2))) (app2 fIx (v 0) (c (.int 3))))) (c (.int 12345))) (c (.int 4294967279))))
  (ret (app2 fMod (app2 fDiv (app2 fMod (app2 fMul (v 2) (c (.int 40503))) (c (.int 4294967231))) (c (.int 8192))) (v 1)))))))
noncomputable def m__law_dip : Fn := fn 4 b__law_dip
/- _law_pick: 0 pot, 1 items -/
noncomputable def b__law_pick : Sm :=
  (ret (app2 fIx (v 1) (app m__law_dip (ac (v 0) (ac (app fLen (ac (v 1) an)) an)))))
noncomputable def m__law_pick : Fn := fn 2 b__law_pick
/- _law_part: 0 pot, 1 sizes, 2 way -/
noncomputable def b__law_part : Sm :=
  (seq (setv 2 (app m__law_dip (ac (v 0) (ac (c (.int 9)) an))))
  (seq (PL.cond (app2 fEq (v 2) (c (.int 0)))
   (ret (app fTup (ac (c (.str ("turn" : Str))) an)))
   skip)
  (ret (app fTup (ac (PL.ite (app2 fEq (v 2) (c (.int 1))) (c (.str ("delay" : Str))) (PL.ite (app2 fLt (v 2) (c (.int 6))) (c (.str ("on" : Str))) (c (.str ("off" : Str))))) (ac (app m__law_pick (ac (v 0) (ac (v 1) an))) an))))))
noncomputable def m__law_part : Fn := fn 3 b__law_part
/- _law_row: 0 pot, 1 many, 2 sizes, 3 row, 4 way, 5 turn, 6 part -/
noncomputable def b__law_row : Sm :=
  (seq (setv 3 (app fTuple (ac (lc (iRng1 (v 1)) (tn 5) yes (app m__law_part (ac (v 0) (ac (v 2) an))) [5]) an)))
  (seq (setv 4 (app m__law_dip (ac (v 0) (ac (c (.int 6)) an))))
  (seq (PL.cond (app2 fEq (v 4) (c (.int 0)))
   (ret (app fTuple (ac (lc (iVal (v 3)) (tn 6) (app2 fNe (app2 fIx (v 6) (c (.int 0))) (c (.str ("turn" : Str)))) (v 6) [6]) an)))
   skip)
  (ret (PL.ite (app2 fEq (v 4) (c (.int 1))) (app fTuple (ac (lc (iVal (v 3)) (tn 6) (app2 fIn (app2 fIx (v 6) (c (.int 0))) (app fTup (ac (c (.str ("on" : Str))) (ac (c (.str ("delay" : Str))) an)))) (v 6) [6]) an)) (v 3))))))
noncomputable def m__law_row : Fn := fn 7 b__law_row
/- _law_ahead: 0 steps, 1 word, 2 number, 3 found, 4 own, 5 size -/
noncomputable def b__law_ahead : Sm :=
  (seq (setv 3 (c (.int 0)))
  (seq (forS (iVal (v 0)) (tt 2 (tc (tn 4) (tc (tn 5) t0)))
   (seq (PL.cond (PL.and (app2 fEq (v 4) (v 1)) (app2 fGt (v 5) (v 2)))
    (ret (v 3))
    skip)
   (PL.cond (app2 fNe (v 4) (v 1))
    (setv 3 (app fMax (ac (v 3) (ac (v 5) an))))
    skip)))
  (ret (v 3))))
noncomputable def m__law_ahead : Fn := fn 6 b__law_ahead
/- _law_is_right: 0 steps, 1 number, 2 due, 3 told, 4 again -/
noncomputable def b__law_is_right : Sm :=
  (seq (setv 2 (app fLst (ac (app m__law_ahead (ac (v 0) (ac (c (.str ("drop" : Str))) (ac (v 1) an)))) (ac (app m__law_ahead (ac (v 0) (ac (c (.str ("fill" : Str))) (ac (v 1) an)))) an))))
  (seq (setv 3 (app fLst (ac (app m_filled_ahead (ac (v 0) (ac (v 1) an))) (ac (app m_dropped_ahead (ac (v 0) (ac (v 1) an))) an))))
  (seq (setv 4 (app fLst (ac (callK m_filled_ahead [1, 0] an (ac (v 1) (ac (v 0) an))) (ac (callK m_dropped_ahead [1, 0] an (ac (v 1) (ac (v 0) an))) an))))
  (ret (app2 fEq (app fRepr (ac (app fLst (ac (v 3) (ac (v 4) an))) an)) (app fRepr (ac (app fLst (ac (v 2) (ac (v 2) an))) an)))))))
noncomputable def m__law_is_right : Fn := fn 5 b__law_is_right
/- _law_contrary: 0 part -/
noncomputable def b__law_contrary : Sm :=
  (ret (PL.ite (app2 fIn (app2 fIx (v 0) (c (.int 0))) (app fTup (ac (c (.str ("on" : Str))) (ac (c (.str ("off" : Str))) an)))) (app2 fAdd (PL.ite (app2 fEq (app2 fIx (v 0) (c (.int 0))) (c (.str ("on" : Str)))) (app fTup (ac (c (.str ("off" : Str))) an)) (app fTup (ac (c (.str ("on" : Str))) an))) (sl (v 0) (app1 fPart (c (.int 1))) (c .non))) (v 0)))
noncomputable def m__law_contrary : Fn := fn 1 b__law_contrary
/- _law_numbers: 0 steps, 1 found, 2 word, 3 size -/
noncomputable def b__law_numbers : Sm :=
  (seq (setv 1 (app fLst (ac (c (.int 0)) (ac (c (.int 1)) (ac (app2 fPow (c (.int 10)) (c (.int 32))) an)))))
  (seq (forS (iVal (v 0)) (tt 2 (tc (tn 2) (tc (tn 3) t0)))
   (setv 1 (app2 fAdd (v 1) (app fLst (ac (app2 fSub (v 3) (c (.int 1))) (ac (v 3) (ac (app2 fAdd (v 3) (c (.int 1))) an)))))))
  (ret (app1 fSortSet (v 1)))))
noncomputable def m__law_numbers : Fn := fn 4 b__law_numbers
/- law: 0 script, 1 pot, 2 turn, 3 far, 4 sizes, 5 row, 6 kept, 7 further, 8 number, 9 steps, 10 others, 11 last, 12 here, 13 part -/
noncomputable def b_law : Sm :=
  (seq (setv 1 (app m__law_pot (ac (v 0) an)))
  (seq (forS (iRng1 (c (.int 10))) (tn 2)
   (seq (setv 3 (app m__law_pick (ac (v 1) (ac (app fLst (ac (c (.int 1)) (ac (app2 fPow (c (.int 10)) (c (.int 3))) (ac (app2 fPow (c (.int 10)) (c (.int 9))) (ac (app2 fPow (c (.int 10)) (c (.int 15))) (ac (app2 fPow (c (.int 10)) (c (.int 21))) (ac (app2 fPow (c (.int 10)) (c (.int 27))) an))))))) an))))
   (seq (setv 4 (PL.ite (app2 fLt (v 2) (c (.int 5))) (app fLst (ac (c (.int 0)) (ac (c (.int 1)) (ac (c (.int 2)) (ac (c (.int 3)) (ac (c (.int 5)) an)))))) (app fLst (ac (c (.int 1)) (ac (v 3) (ac (app2 fMul (c (.int 2)) (v 3)) (ac (app2 fAdd (app2 fMul (c (.int 3)) (v 3)) (c (.int 1))) (ac (app2 fMul (c (.int 5)) (v 3)) an))))))))
   (seq (setv 5 (app m__law_row (ac (v 1) (ac (app m__law_dip (ac (v 1) (ac (c (.int 10)) an))) (ac (v 4) an)))))
   (seq (par3 9 10 11 (app m_stages (ac (v 5) an)) (app m_stages (ac (app fTuple (ac (lc (iVal (v 5)) (tn 13) yes (app m__law_contrary (ac (v 13) an)) [13]) an)) an)) (app fLst (ac (c (.int 0)) (ac (c (.int 0)) an))))
   (seq (setv 6 (app fRepr (ac (v 9) an)))
   (seq (setv 7 (app m_stages (ac (app2 fAdd (app2 fAdd (v 5) (app fTup (ac (app fTup (ac (c (.str ("turn" : Str))) an)) an))) (sl (v 5) (c .non) (app1 fPart (app m__law_dip (ac (v 1) (ac (app2 fAdd (app fLen (ac (v 5) an)) (c (.int 1))) an)))))) an)))
   (seq (forS (iVal (app m__law_numbers (ac (v 9) an))) (tn 8)
    (seq (PL.cond (PL.or (app1 fNot (app m__law_is_right (ac (v 9) (ac (v 8) an)))) (app1 fNot (app m__law_is_right (ac (v 7) (ac (v 8) an)))))
     (ret (c (.bl false)))
     skip)
    (seq (setv 12 (app fLst (ac (app m_filled_ahead (ac (v 9) (ac (v 8) an))) (ac (app m_dropped_ahead (ac (v 9) (ac (v 8) an))) an))))
    (seq (PL.cond (PL.or (app2 fLt (app2 fIx (v 12) (c (.int 0))) (app2 fIx (v 11) (c (.int 0)))) (app2 fLt (app2 fIx (v 12) (c (.int 1))) (app2 fIx (v 11) (c (.int 1)))))
     (ret (c (.bl false)))
     skip)
    (seq (PL.cond (app2 fNe (app fLst (ac (app m_filled_ahead (ac (v 10) (ac (v 8) an))) (ac (app m_dropped_ahead (ac (v 10) (ac (v 8) an))) an))) (app1 fRevL (v 12)))
     (ret (c (.bl false)))
     skip)
    (setv 11 (v 12)))))))
   (seq (PL.cond (app2 fNe (app fRepr (ac (v 9) an)) (v 6))
    (ret (c (.bl false)))
    skip)
   (PL.cond (PL.and (app2 fNe (v 9) (app fTup an)) (app2 fNe (PL.ite (app2 fEq (app2 fIx (app2 fIx (v 9) (c (.int 0))) (c (.int 0))) (c (.str ("drop" : Str)))) (app m_filled_ahead (ac (v 9) (ac (c (.int 0)) an))) (app m_dropped_ahead (ac (v 9) (ac (c (.int 0)) an)))) (c (.int 0))))
    (ret (c (.bl false)))
    skip))))))))))
  (ret (PL.and (app2 fEq (app m_filled_ahead (ac (app fTup an) (ac (c (.int 3)) an))) (c (.int 0))) (app2 fEq (app m_dropped_ahead (ac (app fTup an) (ac (c (.int 0)) an))) (c (.int 0)))))))
noncomputable def m_law : Fn := fn 14 b_law
end Law
end
section
set_option Elab.async false
set_option linter.all false
set_option maxRecDepth 100000
set_option maxHeartbeats 4000000
/-! The walk (printed by gen.py). -/
namespace Law
open PySem PySem.Spec PyProof.Rows L2 PL
def top (i : Nat) : Stmt := PySem.Challenge.pw_latewires_k15_whole_numbers_ahead.main.body.getD i (.Pass ⟨0, 0, 0, 0⟩)
abbrev s_ticks_up : Stmt := top 4
abbrev N_ticks_up : List Str := ["part", "is_turned"]
theorem sc_ticks_up : FnScope N_ticks_up ["part", "is_turned"] (defScope s_ticks_up) := ⟨rfl, rfl, rfl, by decide +kernel, rfl, by decide +kernel, by decide +kernel⟩
theorem bd_ticks_up : Bd "ticks_up" s_ticks_up ["part", "is_turned"] := fun _ _ _ _ _ _ _ us hl => match us, hl with | [_, _], _ => rfl
abbrev s_moves : Stmt := top 5
abbrev N_moves : List Str := ["row", "part", "found", "is_turned"]
theorem sc_moves : FnScope N_moves ["row"] (defScope s_moves) := ⟨rfl, rfl, rfl, by decide +kernel, rfl, by decide +kernel, by decide +kernel⟩
theorem bd_moves : Bd "moves" s_moves ["row"] := fun _ _ _ _ _ _ _ us hl => match us, hl with | [_], _ => rfl
abbrev s_heights : Stmt := top 6
abbrev N_heights : List Str := ["row", "move", "found", "height"]
theorem sc_heights : FnScope N_heights ["row"] (defScope s_heights) := ⟨rfl, rfl, rfl, by decide +kernel, rfl, by decide +kernel, by decide +kernel⟩
theorem bd_heights : Bd "heights" s_heights ["row"] := fun _ _ _ _ _ _ _ us hl => match us, hl with | [_], _ => rfl
abbrev s_with_stage : Stmt := top 7
abbrev N_with_stage : List Str := ["found", "word", "number"]
theorem sc_with_stage : FnScope N_with_stage ["found", "word", "number"] (defScope s_with_stage) := ⟨rfl, rfl, rfl, by decide +kernel, rfl, by decide +kernel, by decide +kernel⟩
theorem bd_with_stage : Bd "with_stage" s_with_stage ["found", "word", "number"] := fun _ _ _ _ _ _ _ us hl => match us, hl with | [_, _, _], _ => rfl
abbrev s_stages_beyond : Stmt := top 8
abbrev N_stages_beyond : List Str := ["row", "high", "depth", "found", "height"]
theorem sc_stages_beyond : FnScope N_stages_beyond ["row", "high", "depth"] (defScope s_stages_beyond) := ⟨rfl, rfl, rfl, by decide +kernel, rfl, by decide +kernel, by decide +kernel⟩
theorem bd_stages_beyond : Bd "stages_beyond" s_stages_beyond ["row", "high", "depth"] := fun _ _ _ _ _ _ _ us hl => match us, hl with | [_, _, _], _ => rfl
abbrev s_stages : Stmt := top 9
abbrev N_stages : List Str := ["row"]
theorem sc_stages : FnScope N_stages ["row"] (defScope s_stages) := ⟨rfl, rfl, rfl, by decide +kernel, rfl, by decide +kernel, by decide +kernel⟩
theorem bd_stages : Bd "stages" s_stages ["row"] := fun _ _ _ _ _ _ _ us hl => match us, hl with | [_], _ => rfl
abbrev s_most_of : Stmt := top 10
abbrev N_most_of : List Str := ["steps", "word", "own", "number"]
theorem sc_most_of : FnScope N_most_of ["steps", "word"] (defScope s_most_of) := ⟨rfl, rfl, rfl, by decide +kernel, rfl, by decide +kernel, by decide +kernel⟩
theorem bd_most_of : Bd "most_of" s_most_of ["steps", "word"] := fun _ _ _ _ _ _ _ us hl => match us, hl with | [_, _], _ => rfl
abbrev s_ahead_of : Stmt := top 12
abbrev N_ahead_of : List Str := ["steps", "word", "bound", "place", "own", "number"]
theorem sc_ahead_of : FnScope N_ahead_of ["steps", "word", "bound"] (defScope s_ahead_of) := ⟨rfl, rfl, rfl, by decide +kernel, rfl, by decide +kernel, by decide +kernel⟩
theorem bd_ahead_of : Bd "ahead_of" s_ahead_of ["steps", "word", "bound"] := fun _ _ _ _ _ _ _ us hl => match us, hl with | [_, _, _], _ => rfl
abbrev s_filled_ahead : Stmt := top 13
abbrev N_filled_ahead : List Str := ["steps", "k"]
theorem sc_filled_ahead : FnScope N_filled_ahead ["steps", "k"] (defScope s_filled_ahead) := ⟨rfl, rfl, rfl, by decide +kernel, rfl, by decide +kernel, by decide +kernel⟩
theorem bd_filled_ahead : Bd "filled_ahead" s_filled_ahead ["steps", "k"] := fun _ _ _ _ _ _ _ us hl => match us, hl with | [_, _], _ => rfl
abbrev s_dropped_ahead : Stmt := top 14
abbrev N_dropped_ahead : List Str := ["steps", "l"]
theorem sc_dropped_ahead : FnScope N_dropped_ahead ["steps", "l"] (defScope s_dropped_ahead) := ⟨rfl, rfl, rfl, by decide +kernel, rfl, by decide +kernel, by decide +kernel⟩
theorem bd_dropped_ahead : Bd "dropped_ahead" s_dropped_ahead ["steps", "l"] := fun _ _ _ _ _ _ _ us hl => match us, hl with | [_, _], _ => rfl
abbrev s__law_pot : Stmt := top 16
abbrev N__law_pot : List Str := ["script", "cells", "cell", "first", "last"]
theorem sc__law_pot : FnScope N__law_pot ["script"] (defScope s__law_pot) := ⟨rfl, rfl, rfl, by decide +kernel, rfl, by decide +kernel, by decide +kernel⟩
theorem bd__law_pot : Bd "_law_pot" s__law_pot ["script"] := fun _ _ _ _ _ _ _ us hl => match us, hl with | [_], _ => rfl
abbrev s__law_dip : Stmt := top 17
abbrev N__law_dip : List Str := ["pot", "size", "mixed", "cell"]
theorem sc__law_dip : FnScope N__law_dip ["pot", "size"] (defScope s__law_dip) := ⟨rfl, rfl, rfl, by decide +kernel, rfl, by decide +kernel, by decide +kernel⟩
theorem bd__law_dip : Bd "_law_dip" s__law_dip ["pot", "size"] := fun _ _ _ _ _ _ _ us hl => match us, hl with | [_, _], _ => rfl
abbrev s__law_pick : Stmt := top 18
abbrev N__law_pick : List Str := ["pot", "items"]
theorem sc__law_pick : FnScope N__law_pick ["pot", "items"] (defScope s__law_pick) := ⟨rfl, rfl, rfl, by decide +kernel, rfl, by decide +kernel, by decide +kernel⟩
theorem bd__law_pick : Bd "_law_pick" s__law_pick ["pot", "items"] := fun _ _ _ _ _ _ _ us hl => match us, hl with | [_, _], _ => rfl
abbrev s__law_part : Stmt := top 19
abbrev N__law_part : List Str := ["pot", "sizes", "way"]
theorem sc__law_part : FnScope N__law_part ["pot", "sizes"] (defScope s__law_part) := ⟨rfl, rfl, rfl, by decide +kernel, rfl, by decide +kernel, by decide +kernel⟩
theorem bd__law_part : Bd "_law_part" s__law_part ["pot", "sizes"] := fun _ _ _ _ _ _ _ us hl => match us, hl with | [_, _], _ => rfl
abbrev s__law_row : Stmt := top 20
abbrev N__law_row : List Str := ["pot", "many", "sizes", "row", "way", "turn", "part"]
theorem sc__law_row : FnScope N__law_row ["pot", "many", "sizes"] (defScope s__law_row) := ⟨rfl, rfl, rfl, by decide +kernel, rfl, by decide +kernel, by decide +kernel⟩
theorem bd__law_row : Bd "_law_row" s__law_row ["pot", "many", "sizes"] := fun _ _ _ _ _ _ _ us hl => match us, hl with | [_, _, _], _ => rfl
abbrev s__law_ahead : Stmt := top 21
abbrev N__law_ahead : List Str := ["steps", "word", "number", "found", "own", "size"]
theorem sc__law_ahead : FnScope N__law_ahead ["steps", "word", "number"] (defScope s__law_ahead) := ⟨rfl, rfl, rfl, by decide +kernel, rfl, by decide +kernel, by decide +kernel⟩
theorem bd__law_ahead : Bd "_law_ahead" s__law_ahead ["steps", "word", "number"] := fun _ _ _ _ _ _ _ us hl => match us, hl with | [_, _, _], _ => rfl
abbrev s__law_is_right : Stmt := top 22
abbrev N__law_is_right : List Str := ["steps", "number", "due", "told", "again"]
theorem sc__law_is_right : FnScope N__law_is_right ["steps", "number"] (defScope s__law_is_right) := ⟨rfl, rfl, rfl, by decide +kernel, rfl, by decide +kernel, by decide +kernel⟩
theorem bd__law_is_right : Bd "_law_is_right" s__law_is_right ["steps", "number"] := fun _ _ _ _ _ _ _ us hl => match us, hl with | [_, _], _ => rfl
abbrev s__law_contrary : Stmt := top 23
abbrev N__law_contrary : List Str := ["part"]
theorem sc__law_contrary : FnScope N__law_contrary ["part"] (defScope s__law_contrary) := ⟨rfl, rfl, rfl, by decide +kernel, rfl, by decide +kernel, by decide +kernel⟩
theorem bd__law_contrary : Bd "_law_contrary" s__law_contrary ["part"] := fun _ _ _ _ _ _ _ us hl => match us, hl with | [_], _ => rfl
abbrev s__law_numbers : Stmt := top 24
abbrev N__law_numbers : List Str := ["steps", "found", "word", "size"]
theorem sc__law_numbers : FnScope N__law_numbers ["steps"] (defScope s__law_numbers) := ⟨rfl, rfl, rfl, by decide +kernel, rfl, by decide +kernel, by decide +kernel⟩
theorem bd__law_numbers : Bd "_law_numbers" s__law_numbers ["steps"] := fun _ _ _ _ _ _ _ us hl => match us, hl with | [_], _ => rfl
abbrev s_law : Stmt := top 25
abbrev N_law : List Str := ["script", "pot", "turn", "far", "sizes", "row", "kept", "further", "number", "steps", "others", "last", "here", "part"]
theorem sc_law : FnScope N_law ["script"] (defScope s_law) := ⟨rfl, rfl, rfl, by decide +kernel, rfl, by decide +kernel, by decide +kernel⟩
theorem bd_law : Bd "law" s_law ["script"] := fun _ _ _ _ _ _ _ us hl => match us, hl with | [_], _ => rfl
theorem bk_dropped_ahead_0_l_steps : BdK "dropped_ahead" s_dropped_ahead ["steps", "l"] ["l", "steps"] 0 [1, 0] := fun _ _ _ _ _ _ _ us ws h1 h2 => match us, ws, h1, h2 with | [], [_, _], _, _ => rfl
theorem bk_filled_ahead_0_k_steps : BdK "filled_ahead" s_filled_ahead ["steps", "k"] ["k", "steps"] 0 [1, 0] := fun _ _ _ _ _ _ _ us ws h1 h2 => match us, ws, h1, h2 with | [], [_, _], _, _ => rfl
/-- what is known of the top -/
structure Top (mg : Str → Option Value) (K : PySem.W.Frag) : Prop where
  b_enumerate : mg "enumerate" = none
  b_int : mg "int" = none
  b_len : mg "len" = none
  b_max : mg "max" = none
  b_range : mg "range" = none
  b_repr : mg "repr" = none
  b_set : mg "set" = none
  b_sorted : mg "sorted" = none
  b_tuple : mg "tuple" = none
  k_DROP : ∃ t, mg "DROP" = some (.str "drop" t)
  k_FILL : ∃ t, mg "FILL" = some (.str "fill" t)
  k_TURN : ∃ t, mg "TURN" = some (.str "turn" t)
/-- .. and of the defs -/
structure Cx0 (P : Program) (w : World) (K : PySem.W.Frag) (mg : Str → Option Value) (base : Heap) extends Top mg K where
  f_ticks_up : FnM P w K mg base CX0 1 "ticks_up" s_ticks_up ["part", "is_turned"] m_ticks_up
  f_moves : FnM P w K mg base CX0 2 "moves" s_moves ["row"] m_moves
  f_heights : FnM P w K mg base CX0 3 "heights" s_heights ["row"] m_heights
  f_with_stage : FnM P w K mg base CX0 1 "with_stage" s_with_stage ["found", "word", "number"] m_with_stage
  f_stages_beyond : FnM P w K mg base CX0 4 "stages_beyond" s_stages_beyond ["row", "high", "depth"] m_stages_beyond
  f_stages : FnM P w K mg base CX0 5 "stages" s_stages ["row"] m_stages
  f_most_of : FnM P w K mg base CX0 1 "most_of" s_most_of ["steps", "word"] m_most_of
  f_ahead_of : FnM P w K mg base CX0 1 "ahead_of" s_ahead_of ["steps", "word", "bound"] m_ahead_of
  f_filled_ahead : FnM P w K mg base CX0 2 "filled_ahead" s_filled_ahead ["steps", "k"] m_filled_ahead
  f_dropped_ahead : FnM P w K mg base CX0 2 "dropped_ahead" s_dropped_ahead ["steps", "l"] m_dropped_ahead
  f__law_pot : FnM P w K mg base CX0 1 "_law_pot" s__law_pot ["script"] m__law_pot
  f__law_dip : FnM P w K mg base CX0 1 "_law_dip" s__law_dip ["pot", "size"] m__law_dip
  f__law_pick : FnM P w K mg base CX0 2 "_law_pick" s__law_pick ["pot", "items"] m__law_pick
  f__law_part : FnM P w K mg base CX0 3 "_law_part" s__law_part ["pot", "sizes"] m__law_part
  f__law_row : FnM P w K mg base CX0 4 "_law_row" s__law_row ["pot", "many", "sizes"] m__law_row
  f__law_ahead : FnM P w K mg base CX0 1 "_law_ahead" s__law_ahead ["steps", "word", "number"] m__law_ahead
  f__law_is_right : FnM P w K mg base CX0 3 "_law_is_right" s__law_is_right ["steps", "number"] m__law_is_right
  f__law_contrary : FnM P w K mg base CX0 1 "_law_contrary" s__law_contrary ["part"] m__law_contrary
  f__law_numbers : FnM P w K mg base CX0 1 "_law_numbers" s__law_numbers ["steps"] m__law_numbers
  f_law : FnM P w K mg base CX0 6 "law" s_law ["script"] m_law
theorem k_DROP {X : Cx} {E : XK} {pos : Pos} (T : Top X.mg X.K) (hg : Gl X "DROP" := by rfl) : PP X E (.Name "DROP" pos) (c K_DROP) := let ⟨_, h⟩ := T.k_DROP; pp_glob (w := .str "drop") h ⟨_, rfl⟩ (fun _ _ => rstr) hg
theorem k_FILL {X : Cx} {E : XK} {pos : Pos} (T : Top X.mg X.K) (hg : Gl X "FILL" := by rfl) : PP X E (.Name "FILL" pos) (c K_FILL) := let ⟨_, h⟩ := T.k_FILL; pp_glob (w := .str "fill") h ⟨_, rfl⟩ (fun _ _ => rstr) hg
theorem k_TURN {X : Cx} {E : XK} {pos : Pos} (T : Top X.mg X.K) (hg : Gl X "TURN" := by rfl) : PP X E (.Name "TURN" pos) (c K_TURN) := let ⟨_, h⟩ := T.k_TURN; pp_glob (w := .str "turn") h ⟨_, rfl⟩ (fun _ _ => rstr) hg
section
variable {P : Program} {w : World} {K : PySem.W.Frag} {mg : Str → Option Value} {base : Heap}
theorem ok_ticks_up {f : Addr} {fd : FuncData} {ql : Str} (T : Top mg K)  (Fu : L2.Fun K "ticks_up" ql s_ticks_up f fd) (hm : mg "ticks_up" = some (.ref f)) :
    FnM P w K mg base CX0 1 "ticks_up" s_ticks_up ["part", "is_turned"] m_ticks_up :=
  fn_pure Fu hm sc_ticks_up rfl fun cdv A outer s H E hr hg =>
  (ppb_cons (pps_if (ppt_cmp (cmpP_eq (hu64 hr)) (pp_ix (pp_v 0) pp_int) pp_str)
   (ppb_one (pps_ret (pp_ite (PP.t (pp_v 1)) (pp_un unP_neg (pp_ix (pp_v 0) pp_int)) (pp_ix (pp_v 0) pp_int))))
   ppb_nil)
  (ppb_cons (pps_if (ppt_cmp (cmpP_eq (hu64 hr)) (pp_ix (pp_v 0) pp_int) pp_str)
   (ppb_one (pps_ret (pp_ite (PP.t (pp_v 1)) (pp_ix (pp_v 0) pp_int) (pp_un unP_neg (pp_ix (pp_v 0) pp_int)))))
   ppb_nil)
  (ppb_one (pps_ret pp_int))))
theorem ok_moves {f : Addr} {fd : FuncData} {ql : Str} (T : Top mg K) (f_ticks_up : FnM P w K mg base CX0 1 "ticks_up" s_ticks_up ["part", "is_turned"] m_ticks_up) (Fu : L2.Fun K "moves" ql s_moves f fd) (hm : mg "moves" = some (.ref f)) :
    FnM P w K mg base CX0 2 "moves" s_moves ["row"] m_moves :=
  fn_pure Fu hm sc_moves rfl fun cdv A outer s H E hr hg =>
  (ppb_cons (pps_par 2 3 rfl sc_moves.nd (by decide) (pp_lst ppa_nil) pp_bl)
  (ppb_cons (pps_for PassesOwn.never rfl (ppi_val (pp_v 0)) (ppg_n 1 sc_moves.nd)
   (ppb_cons (pps_if (ppt_cmp (cmpP_eq (hu64 hr)) (pp_ix (pp_v 1) pp_int) (k_TURN T))
    (ppb_one (pps_set 3 sc_moves.nd (pp_not (pp_v 3))))
    ppb_nil)
   (ppb_one (pps_exp (pp_append (pp_v 2) (ppa_cons (pp_call f_ticks_up bd_ticks_up hr (by decide) hg pass0 (ppa_cons (pp_v 1) (ppa_cons (pp_v 3) ppa_nil))) ppa_nil))))))
  (ppb_one (pps_ret (pp_tup (ppa_cons (pp_v 2) (ppa_cons (pp_v 3) ppa_nil)))))))
theorem ok_heights {f : Addr} {fd : FuncData} {ql : Str} (T : Top mg K) (f_moves : FnM P w K mg base CX0 2 "moves" s_moves ["row"] m_moves) (Fu : L2.Fun K "heights" ql s_heights f fd) (hm : mg "heights" = some (.ref f)) :
    FnM P w K mg base CX0 3 "heights" s_heights ["row"] m_heights :=
  fn_pure Fu hm sc_heights rfl fun cdv A outer s H E hr hg =>
  (ppb_cons (pps_par 2 3 rfl sc_heights.nd (by decide) (pp_lst ppa_nil) pp_int)
  (ppb_cons (pps_for PassesOwn.never rfl (ppi_val (pp_ix (pp_call f_moves bd_moves hr (by decide) hg pass0 (ppa_cons (pp_v 0) ppa_nil)) pp_int)) (ppg_n 1 sc_heights.nd)
   (ppb_cons (pps_set 3 sc_heights.nd (pp_op opP_add (pp_v 3) (pp_v 1)))
   (ppb_one (pps_exp (pp_append (pp_v 2) (ppa_cons (pp_v 3) ppa_nil))))))
  (ppb_one (pps_ret (pp_callTy crP_tuple T.b_tuple boot_tuple (ppa_cons (pp_v 2) ppa_nil))))))
theorem ok_with_stage {f : Addr} {fd : FuncData} {ql : Str} (T : Top mg K)  (Fu : L2.Fun K "with_stage" ql s_with_stage f fd) (hm : mg "with_stage" = some (.ref f)) :
    FnM P w K mg base CX0 1 "with_stage" s_with_stage ["found", "word", "number"] m_with_stage :=
  fn_pure Fu hm sc_with_stage rfl fun cdv A outer s H E hr hg =>
  (ppb_cons (pps_if (PPW.t (ppw_and (ppt_cmp (cmpP_ne (hu64 hr)) (pp_v 0) (pp_lst ppa_nil)) (ppw_and1 (ppt_cmp (cmpP_eq (hu64 hr)) (pp_ix (pp_ix (pp_v 0) (pp_un unP_neg pp_int)) pp_int) (pp_v 1)))))
   (ppb_one (pps_ret (pp_op opP_add (pp_sl (pp_v 0) ppo_none (ppo_some (pp_un unP_neg pp_int))) (pp_lst (ppa_cons (pp_tup (ppa_cons (pp_v 1) (ppa_cons (pp_v 2) ppa_nil))) ppa_nil)))))
   ppb_nil)
  (ppb_one (pps_ret (pp_op opP_add (pp_v 0) (pp_lst (ppa_cons (pp_tup (ppa_cons (pp_v 1) (ppa_cons (pp_v 2) ppa_nil))) ppa_nil))))))
theorem ok_stages_beyond {f : Addr} {fd : FuncData} {ql : Str} (T : Top mg K) (f_heights : FnM P w K mg base CX0 3 "heights" s_heights ["row"] m_heights) (f_with_stage : FnM P w K mg base CX0 1 "with_stage" s_with_stage ["found", "word", "number"] m_with_stage) (Fu : L2.Fun K "stages_beyond" ql s_stages_beyond f fd) (hm : mg "stages_beyond" = some (.ref f)) :
    FnM P w K mg base CX0 4 "stages_beyond" s_stages_beyond ["row", "high", "depth"] m_stages_beyond :=
  fn_pure Fu hm sc_stages_beyond rfl fun cdv A outer s H E hr hg =>
  (ppb_cons (pps_set 3 sc_stages_beyond.nd (pp_lst ppa_nil))
  (ppb_cons (pps_for PassesOwn.never rfl (ppi_val (pp_call f_heights bd_heights hr (by decide) hg pass0 (ppa_cons (pp_v 0) ppa_nil))) (ppg_n 4 sc_stages_beyond.nd)
   (ppb_one (pps_if (ppt_cmp cmpP_gt (pp_v 4) (pp_v 1))
    (ppb_cons (pps_set 1 sc_stages_beyond.nd (pp_v 4))
    (ppb_one (pps_set 3 sc_stages_beyond.nd (pp_call f_with_stage bd_with_stage hr (by decide) hg pass0 (ppa_cons (pp_v 3) (ppa_cons (k_DROP T) (ppa_cons (pp_v 1) ppa_nil)))))))
    (ppb_one (pps_if (ppt_cmp cmpP_gt (pp_un unP_neg (pp_v 4)) (pp_v 2))
     (ppb_cons (pps_set 2 sc_stages_beyond.nd (pp_un unP_neg (pp_v 4)))
     (ppb_one (pps_set 3 sc_stages_beyond.nd (pp_call f_with_stage bd_with_stage hr (by decide) hg pass0 (ppa_cons (pp_v 3) (ppa_cons (k_FILL T) (ppa_cons (pp_v 2) ppa_nil)))))))
     ppb_nil)))))
  (ppb_one (pps_ret (pp_callTy crP_tuple T.b_tuple boot_tuple (ppa_cons (pp_v 3) ppa_nil))))))
theorem ok_stages {f : Addr} {fd : FuncData} {ql : Str} (T : Top mg K) (f_stages_beyond : FnM P w K mg base CX0 4 "stages_beyond" s_stages_beyond ["row", "high", "depth"] m_stages_beyond) (Fu : L2.Fun K "stages" ql s_stages f fd) (hm : mg "stages" = some (.ref f)) :
    FnM P w K mg base CX0 5 "stages" s_stages ["row"] m_stages :=
  fn_pure Fu hm sc_stages rfl fun cdv A outer s H E hr hg =>
  (ppb_one (pps_ret (pp_call f_stages_beyond bd_stages_beyond hr (by decide) hg pass0 (ppa_cons (pp_v 0) (ppa_cons pp_int (ppa_cons pp_int ppa_nil))))))
theorem ok_most_of {f : Addr} {fd : FuncData} {ql : Str} (T : Top mg K)  (Fu : L2.Fun K "most_of" ql s_most_of f fd) (hm : mg "most_of" = some (.ref f)) :
    FnM P w K mg base CX0 1 "most_of" s_most_of ["steps", "word"] m_most_of :=
  fn_pure Fu hm sc_most_of rfl fun cdv A outer s H E hr hg =>
  (ppb_one (pps_ret (pp_callB (crP_max rfl) T.b_max boot_max (ppa_cons (pp_lstS (ppas_cons pp_int (ppas_star (pp_lc (own := [("own", 2), ("number", 3)]) rfl sc_most_of.nd (ppi_val (pp_v 0)) (blkOk_by (N := N_most_of) (sc := defScope s_most_of) (by decide +kernel)) (fun _ _ _ _ _ => (ppg_tup (n := 2) rfl (ppgs_cons (ppg_n 2 sc_most_of.nd) (ppgs_cons (ppg_n 3 sc_most_of.nd) ppgs_nil)))) (fun _ _ _ _ _ => (ppts_one (ppt_cmp (cmpP_eq (hu64 hr)) (pp_v 2) (pp_v 1)))) (fun _ _ _ _ _ => (pp_v 3))) ppas_nil))) ppa_nil))))
theorem ok_ahead_of {f : Addr} {fd : FuncData} {ql : Str} (T : Top mg K)  (Fu : L2.Fun K "ahead_of" ql s_ahead_of f fd) (hm : mg "ahead_of" = some (.ref f)) :
    FnM P w K mg base CX0 1 "ahead_of" s_ahead_of ["steps", "word", "bound"] m_ahead_of :=
  fn_pure Fu hm sc_ahead_of rfl fun cdv A outer s H E hr hg =>
  (ppb_cons (pps_for PassesOwn.never rfl (ppi_enum T.b_enumerate (pp_v 0)) (ppg_tup (n := 2) rfl (ppgs_cons (ppg_n 3 sc_ahead_of.nd) (ppgs_cons (ppg_tup (n := 2) rfl (ppgs_cons (ppg_n 4 sc_ahead_of.nd) (ppgs_cons (ppg_n 5 sc_ahead_of.nd) ppgs_nil))) ppgs_nil)))
   (ppb_one (pps_if (PPW.t (ppw_and (ppt_cmp (cmpP_eq (hu64 hr)) (pp_v 4) (pp_v 1)) (ppw_and1 (ppt_cmp cmpP_gt (pp_v 5) (pp_v 2)))))
    (ppb_one (pps_ret (pp_sl (pp_v 0) ppo_none (ppo_some (pp_v 3)))))
    ppb_nil)))
  (ppb_one (pps_ret (pp_v 0))))
theorem ok_filled_ahead {f : Addr} {fd : FuncData} {ql : Str} (T : Top mg K) (f_most_of : FnM P w K mg base CX0 1 "most_of" s_most_of ["steps", "word"] m_most_of) (f_ahead_of : FnM P w K mg base CX0 1 "ahead_of" s_ahead_of ["steps", "word", "bound"] m_ahead_of) (Fu : L2.Fun K "filled_ahead" ql s_filled_ahead f fd) (hm : mg "filled_ahead" = some (.ref f)) :
    FnM P w K mg base CX0 2 "filled_ahead" s_filled_ahead ["steps", "k"] m_filled_ahead :=
  fn_pure Fu hm sc_filled_ahead rfl fun cdv A outer s H E hr hg =>
  (ppb_one (pps_ret (pp_call f_most_of bd_most_of hr (by decide) hg pass0 (ppa_cons (pp_call f_ahead_of bd_ahead_of hr (by decide) hg pass0 (ppa_cons (pp_v 0) (ppa_cons (k_DROP T) (ppa_cons (pp_v 1) ppa_nil)))) (ppa_cons (k_FILL T) ppa_nil)))))
theorem ok_dropped_ahead {f : Addr} {fd : FuncData} {ql : Str} (T : Top mg K) (f_most_of : FnM P w K mg base CX0 1 "most_of" s_most_of ["steps", "word"] m_most_of) (f_ahead_of : FnM P w K mg base CX0 1 "ahead_of" s_ahead_of ["steps", "word", "bound"] m_ahead_of) (Fu : L2.Fun K "dropped_ahead" ql s_dropped_ahead f fd) (hm : mg "dropped_ahead" = some (.ref f)) :
    FnM P w K mg base CX0 2 "dropped_ahead" s_dropped_ahead ["steps", "l"] m_dropped_ahead :=
  fn_pure Fu hm sc_dropped_ahead rfl fun cdv A outer s H E hr hg =>
  (ppb_one (pps_ret (pp_call f_most_of bd_most_of hr (by decide) hg pass0 (ppa_cons (pp_call f_ahead_of bd_ahead_of hr (by decide) hg pass0 (ppa_cons (pp_v 0) (ppa_cons (k_FILL T) (ppa_cons (pp_v 1) ppa_nil)))) (ppa_cons (k_DROP T) ppa_nil)))))
theorem ok__law_pot {f : Addr} {fd : FuncData} {ql : Str} (T : Top mg K)  (Fu : L2.Fun K "_law_pot" ql s__law_pot f fd) (hm : mg "_law_pot" = some (.ref f)) :
    FnM P w K mg base CX0 1 "_law_pot" s__law_pot ["script"] m__law_pot :=
  fn_pure Fu hm sc__law_pot rfl fun cdv A outer s H E hr hg =>
  (ppb_cons (pps_setLc 1 (own := [("cell", 2)]) rfl sc__law_pot.nd (ppi_val (pp_sl (pp_v 0) ppo_none (ppo_some pp_int))) (blkOk_by (N := N__law_pot) (sc := defScope s__law_pot) (by decide +kernel)) (fun _ _ _ _ _ => (ppg_n 2 sc__law_pot.nd)) (fun _ _ _ _ _ => ppts_nil) (fun _ _ _ _ _ => (pp_ite (ppt_cmp cmpP_ge (pp_v 2) pp_int) (pp_op opP_mul pp_int (pp_v 2)) (pp_op opP_sub (pp_un unP_neg pp_int) (pp_op opP_mul pp_int (pp_v 2))))) (sw_true rfl rfl rfl (by decide +kernel)))
  (ppb_cons (pps_par 3 4 rfl sc__law_pot.nd (by decide) pp_int (pp_op opP_add pp_int (pp_callB crP_len T.b_len boot_len (ppa_cons (pp_v 1) ppa_nil))))
  (ppb_cons (pps_for PassesOwn.never rfl (ppi_val (pp_v 1)) (ppg_n 2 sc__law_pot.nd)
   (ppb_one (pps_par 3 4 rfl sc__law_pot.nd (by decide) (pp_op opP_mod (pp_callTy crP_int T.b_int boot_int (ppa_cons (pp_op opP_add (pp_op opP_add (pp_op opP_mul (pp_v 3) pp_int) (pp_v 2)) pp_int) ppa_nil)) pp_int) (pp_op opP_mod (pp_callTy crP_int T.b_int boot_int (ppa_cons (pp_op opP_add (pp_op opP_add (pp_op opP_mul (pp_v 4) pp_int) (pp_op opP_mul pp_int (pp_v 2))) pp_int) ppa_nil)) pp_int))))
  (ppb_one (pps_ret (pp_lst (ppa_cons (pp_lc (own := [("cell", 2)]) rfl sc__law_pot.nd (ppi_val (pp_v 1)) (blkOk_by (N := N__law_pot) (sc := defScope s__law_pot) (by decide +kernel)) (fun _ _ _ _ _ => (ppg_n 2 sc__law_pot.nd)) (fun _ _ _ _ _ => (ppts_one (ppt_cmp cmpP_gt (pp_v 2) (pp_op opP_pow pp_int pp_int)))) (fun _ _ _ _ _ => (pp_v 2))) (ppa_cons (pp_v 3) (ppa_cons (pp_v 4) (ppa_cons pp_int ppa_nil))))))))))
theorem ok__law_dip {f : Addr} {fd : FuncData} {ql : Str} (T : Top mg K)  (Fu : L2.Fun K "_law_dip" ql s__law_dip f fd) (hm : mg "_law_dip" = some (.ref f)) :
    FnM P w K mg base CX0 1 "_law_dip" s__law_dip ["pot", "size"] m__law_dip :=
  fn_pure Fu hm sc__law_dip rfl fun cdv A outer s H E hr hg =>
  (ppb_cons (pps_if (ppt_cmp (cmpP_ne (hu64 hr)) (pp_ix (pp_v 0) pp_int) (pp_lst ppa_nil))
   (ppb_cons (pps_set 3 sc__law_dip.nd (pp_pop (pp_ix (pp_v 0) pp_int)))
   (ppb_cons (pps_if (ppt_cmp cmpP_ge (pp_v 3) (pp_v 1))
    (ppb_one (pps_exp (pp_append (pp_ix (pp_v 0) pp_int) (ppa_cons (pp_op opP_div (pp_v 3) (pp_v 1)) ppa_nil))))
    ppb_nil)
   (ppb_one (pps_ret (pp_op opP_mod (pp_callTy crP_int T.b_int boot_int (ppa_cons (pp_v 3) ppa_nil)) (pp_v 1))))))
   ppb_nil)
  (ppb_cons (pps_asg (pp_op opP_add (pp_ix (pp_v 0) pp_int) pp_int) (ppg_sub (pp_v 0) pp_int))
  (ppb_cons (pps_set 2 sc__law_dip.nd (pp_op opP_mod (pp_op opP_add (pp_ix (pp_v 0) pp_int) (pp_op opP_mul (pp_ix (pp_v 0) pp_int) pp_int)) pp_int))
  (ppb_cons (pps_set 2 sc__law_dip.nd (pp_op opP_mod (pp_op opP_add (pp_op opP_add (pp_op opP_mul (pp_v 2) (pp_v 2)) (pp_op opP_mul (pp_ix (pp_v 0) pp_int) (pp_ix (pp_v 0) pp_int))) pp_int) pp_int))
  (ppb_one (pps_ret (pp_op opP_mod (pp_op opP_div (pp_op opP_mod (pp_op opP_mul (pp_v 2) pp_int) pp_int) pp_int) (pp_v 1))))))))
theorem ok__law_pick {f : Addr} {fd : FuncData} {ql : Str} (T : Top mg K) (f__law_dip : FnM P w K mg base CX0 1 "_law_dip" s__law_dip ["pot", "size"] m__law_dip) (Fu : L2.Fun K "_law_pick" ql s__law_pick f fd) (hm : mg "_law_pick" = some (.ref f)) :
    FnM P w K mg base CX0 2 "_law_pick" s__law_pick ["pot", "items"] m__law_pick :=
  fn_pure Fu hm sc__law_pick rfl fun cdv A outer s H E hr hg =>
  (ppb_one (pps_ret (pp_ix (pp_v 1) (pp_call f__law_dip bd__law_dip hr (by decide) hg pass0 (ppa_cons (pp_v 0) (ppa_cons (pp_callB crP_len T.b_len boot_len (ppa_cons (pp_v 1) ppa_nil)) ppa_nil))))))
theorem ok__law_part {f : Addr} {fd : FuncData} {ql : Str} (T : Top mg K) (f__law_dip : FnM P w K mg base CX0 1 "_law_dip" s__law_dip ["pot", "size"] m__law_dip) (f__law_pick : FnM P w K mg base CX0 2 "_law_pick" s__law_pick ["pot", "items"] m__law_pick) (Fu : L2.Fun K "_law_part" ql s__law_part f fd) (hm : mg "_law_part" = some (.ref f)) :
    FnM P w K mg base CX0 3 "_law_part" s__law_part ["pot", "sizes"] m__law_part :=
  fn_pure Fu hm sc__law_part rfl fun cdv A outer s H E hr hg =>
  (ppb_cons (pps_set 2 sc__law_part.nd (pp_call f__law_dip bd__law_dip hr (by decide) hg pass0 (ppa_cons (pp_v 0) (ppa_cons pp_int ppa_nil))))
  (ppb_cons (pps_if (ppt_cmp (cmpP_eq (hu64 hr)) (pp_v 2) pp_int)
   (ppb_one (pps_ret (pp_tup (ppa_cons pp_str ppa_nil))))
   ppb_nil)
  (ppb_one (pps_ret (pp_tup (ppa_cons (pp_ite (ppt_cmp (cmpP_eq (hu64 hr)) (pp_v 2) pp_int) pp_str (pp_ite (ppt_cmp cmpP_lt (pp_v 2) pp_int) pp_str pp_str)) (ppa_cons (pp_call f__law_pick bd__law_pick hr (by decide) hg pass0 (ppa_cons (pp_v 0) (ppa_cons (pp_v 1) ppa_nil))) ppa_nil)))))))
theorem ok__law_row {f : Addr} {fd : FuncData} {ql : Str} (T : Top mg K) (f__law_part : FnM P w K mg base CX0 3 "_law_part" s__law_part ["pot", "sizes"] m__law_part) (f__law_dip : FnM P w K mg base CX0 1 "_law_dip" s__law_dip ["pot", "size"] m__law_dip) (Fu : L2.Fun K "_law_row" ql s__law_row f fd) (hm : mg "_law_row" = some (.ref f)) :
    FnM P w K mg base CX0 4 "_law_row" s__law_row ["pot", "many", "sizes"] m__law_row :=
  fn_pure Fu hm sc__law_row rfl fun cdv A outer s H E hr hg =>
  (ppb_cons (pps_set 3 sc__law_row.nd (pp_callTy crP_tuple T.b_tuple boot_tuple (ppa_cons (pp_lc (own := [("turn", 5)]) rfl sc__law_row.nd (ppi_rng1 T.b_range (pp_v 1)) (blkOk_by (N := N__law_row) (sc := defScope s__law_row) (by decide +kernel)) (fun _ _ _ _ _ => (ppg_n 5 sc__law_row.nd)) (fun _ _ _ _ _ => ppts_nil) (fun _ _ _ _ _ => (pp_call f__law_part bd__law_part hr (by decide) hg pass0 (ppa_cons (pp_v 0) (ppa_cons (pp_v 2) ppa_nil))))) ppa_nil)))
  (ppb_cons (pps_set 4 sc__law_row.nd (pp_call f__law_dip bd__law_dip hr (by decide) hg pass0 (ppa_cons (pp_v 0) (ppa_cons pp_int ppa_nil))))
  (ppb_cons (pps_if (ppt_cmp (cmpP_eq (hu64 hr)) (pp_v 4) pp_int)
   (ppb_one (pps_ret (pp_callTy crP_tuple T.b_tuple boot_tuple (ppa_cons (pp_lc (own := [("part", 6)]) rfl sc__law_row.nd (ppi_val (pp_v 3)) (blkOk_by (N := N__law_row) (sc := defScope s__law_row) (by decide +kernel)) (fun _ _ _ _ _ => (ppg_n 6 sc__law_row.nd)) (fun _ _ _ _ _ => (ppts_one (ppt_cmp (cmpP_ne (hu64 hr)) (pp_ix (pp_v 6) pp_int) pp_str))) (fun _ _ _ _ _ => (pp_v 6))) ppa_nil))))
   ppb_nil)
  (ppb_one (pps_ret (pp_ite (ppt_cmp (cmpP_eq (hu64 hr)) (pp_v 4) pp_int) (pp_callTy crP_tuple T.b_tuple boot_tuple (ppa_cons (pp_lc (own := [("part", 6)]) rfl sc__law_row.nd (ppi_val (pp_v 3)) (blkOk_by (N := N__law_row) (sc := defScope s__law_row) (by decide +kernel)) (fun _ _ _ _ _ => (ppg_n 6 sc__law_row.nd)) (fun _ _ _ _ _ => (ppts_one (ppt_cmp (cmpP_in (hu65 hr)) (pp_ix (pp_v 6) pp_int) (pp_tup (ppa_cons pp_str (ppa_cons pp_str ppa_nil)))))) (fun _ _ _ _ _ => (pp_v 6))) ppa_nil)) (pp_v 3)))))))
theorem ok__law_ahead {f : Addr} {fd : FuncData} {ql : Str} (T : Top mg K)  (Fu : L2.Fun K "_law_ahead" ql s__law_ahead f fd) (hm : mg "_law_ahead" = some (.ref f)) :
    FnM P w K mg base CX0 1 "_law_ahead" s__law_ahead ["steps", "word", "number"] m__law_ahead :=
  fn_pure Fu hm sc__law_ahead rfl fun cdv A outer s H E hr hg =>
  (ppb_cons (pps_set 3 sc__law_ahead.nd pp_int)
  (ppb_cons (pps_for PassesOwn.never rfl (ppi_val (pp_v 0)) (ppg_tup (n := 2) rfl (ppgs_cons (ppg_n 4 sc__law_ahead.nd) (ppgs_cons (ppg_n 5 sc__law_ahead.nd) ppgs_nil)))
   (ppb_cons (pps_if (PPW.t (ppw_and (ppt_cmp (cmpP_eq (hu64 hr)) (pp_v 4) (pp_v 1)) (ppw_and1 (ppt_cmp cmpP_gt (pp_v 5) (pp_v 2)))))
    (ppb_one (pps_ret (pp_v 3)))
    ppb_nil)
   (ppb_one (pps_if (ppt_cmp (cmpP_ne (hu64 hr)) (pp_v 4) (pp_v 1))
    (ppb_one (pps_set 3 sc__law_ahead.nd (pp_callB (crP_max rfl) T.b_max boot_max (ppa_cons (pp_v 3) (ppa_cons (pp_v 5) ppa_nil)))))
    ppb_nil))))
  (ppb_one (pps_ret (pp_v 3)))))
theorem ok__law_is_right {f : Addr} {fd : FuncData} {ql : Str} (T : Top mg K) (f__law_ahead : FnM P w K mg base CX0 1 "_law_ahead" s__law_ahead ["steps", "word", "number"] m__law_ahead) (f_dropped_ahead : FnM P w K mg base CX0 2 "dropped_ahead" s_dropped_ahead ["steps", "l"] m_dropped_ahead) (f_filled_ahead : FnM P w K mg base CX0 2 "filled_ahead" s_filled_ahead ["steps", "k"] m_filled_ahead) (Fu : L2.Fun K "_law_is_right" ql s__law_is_right f fd) (hm : mg "_law_is_right" = some (.ref f)) :
    FnM P w K mg base CX0 3 "_law_is_right" s__law_is_right ["steps", "number"] m__law_is_right :=
  fn_pure Fu hm sc__law_is_right rfl fun cdv A outer s H E hr hg =>
  (ppb_cons (pps_set 2 sc__law_is_right.nd (pp_lst (ppa_cons (pp_call f__law_ahead bd__law_ahead hr (by decide) hg pass0 (ppa_cons (pp_v 0) (ppa_cons pp_str (ppa_cons (pp_v 1) ppa_nil)))) (ppa_cons (pp_call f__law_ahead bd__law_ahead hr (by decide) hg pass0 (ppa_cons (pp_v 0) (ppa_cons pp_str (ppa_cons (pp_v 1) ppa_nil)))) ppa_nil))))
  (ppb_cons (pps_set 3 sc__law_is_right.nd (pp_lst (ppa_cons (pp_call f_filled_ahead bd_filled_ahead hr (by decide) hg pass0 (ppa_cons (pp_v 0) (ppa_cons (pp_v 1) ppa_nil))) (ppa_cons (pp_call f_dropped_ahead bd_dropped_ahead hr (by decide) hg pass0 (ppa_cons (pp_v 0) (ppa_cons (pp_v 1) ppa_nil))) ppa_nil))))
  (ppb_cons (pps_set 4 sc__law_is_right.nd (pp_lst (ppa_cons (pp_callK0 f_filled_ahead bk_filled_ahead_0_k_steps hr (by decide) hg pass0 (ppk_cons (pp_v 1) (ppk_cons (pp_v 0) ppk_nil)) (fun l hl => match l, hl with | [_, _], _ => rfl)) (ppa_cons (pp_callK0 f_dropped_ahead bk_dropped_ahead_0_l_steps hr (by decide) hg pass0 (ppk_cons (pp_v 1) (ppk_cons (pp_v 0) ppk_nil)) (fun l hl => match l, hl with | [_, _], _ => rfl)) ppa_nil))))
  (ppb_one (pps_ret (pp_cmp (cmpP_eq (hu64 hr)) (pp_callB (crP_repr hg (hu65 hr)) T.b_repr boot_repr (ppa_cons (pp_lst (ppa_cons (pp_v 3) (ppa_cons (pp_v 4) ppa_nil))) ppa_nil)) (pp_callB (crP_repr hg (hu65 hr)) T.b_repr boot_repr (ppa_cons (pp_lst (ppa_cons (pp_v 2) (ppa_cons (pp_v 2) ppa_nil))) ppa_nil))))))))
theorem ok__law_contrary {f : Addr} {fd : FuncData} {ql : Str} (T : Top mg K)  (Fu : L2.Fun K "_law_contrary" ql s__law_contrary f fd) (hm : mg "_law_contrary" = some (.ref f)) :
    FnM P w K mg base CX0 1 "_law_contrary" s__law_contrary ["part"] m__law_contrary :=
  fn_pure Fu hm sc__law_contrary rfl fun cdv A outer s H E hr hg =>
  (ppb_one (pps_ret (pp_ite (ppt_cmp (cmpP_in (hu65 hr)) (pp_ix (pp_v 0) pp_int) (pp_tup (ppa_cons pp_str (ppa_cons pp_str ppa_nil)))) (pp_op opP_add (pp_ite (ppt_cmp (cmpP_eq (hu64 hr)) (pp_ix (pp_v 0) pp_int) pp_str) (pp_tup (ppa_cons pp_str ppa_nil)) (pp_tup (ppa_cons pp_str ppa_nil))) (pp_sl (pp_v 0) (ppo_some pp_int) ppo_none)) (pp_v 0))))
theorem ok__law_numbers {f : Addr} {fd : FuncData} {ql : Str} (T : Top mg K)  (Fu : L2.Fun K "_law_numbers" ql s__law_numbers f fd) (hm : mg "_law_numbers" = some (.ref f)) :
    FnM P w K mg base CX0 1 "_law_numbers" s__law_numbers ["steps"] m__law_numbers :=
  fn_pure Fu hm sc__law_numbers rfl fun cdv A outer s H E hr hg =>
  (ppb_cons (pps_set 1 sc__law_numbers.nd (pp_lst (ppa_cons pp_int (ppa_cons pp_int (ppa_cons (pp_op opP_pow pp_int pp_int) ppa_nil)))))
  (ppb_cons (pps_for PassesOwn.never rfl (ppi_val (pp_v 0)) (ppg_tup (n := 2) rfl (ppgs_cons (ppg_n 2 sc__law_numbers.nd) (ppgs_cons (ppg_n 3 sc__law_numbers.nd) ppgs_nil)))
   (ppb_one (pps_set 1 sc__law_numbers.nd (pp_op opP_add (pp_v 1) (pp_lst (ppa_cons (pp_op opP_sub (pp_v 3) pp_int) (ppa_cons (pp_v 3) (ppa_cons (pp_op opP_add (pp_v 3) pp_int) ppa_nil))))))))
  (ppb_one (pps_ret (pp_sortset (pp_v 1) T.b_sorted T.b_set rfl)))))
theorem ok_law {f : Addr} {fd : FuncData} {ql : Str} (T : Top mg K) (f__law_pot : FnM P w K mg base CX0 1 "_law_pot" s__law_pot ["script"] m__law_pot) (f__law_pick : FnM P w K mg base CX0 2 "_law_pick" s__law_pick ["pot", "items"] m__law_pick) (f__law_row : FnM P w K mg base CX0 4 "_law_row" s__law_row ["pot", "many", "sizes"] m__law_row) (f__law_dip : FnM P w K mg base CX0 1 "_law_dip" s__law_dip ["pot", "size"] m__law_dip) (f_stages : FnM P w K mg base CX0 5 "stages" s_stages ["row"] m_stages) (f__law_contrary : FnM P w K mg base CX0 1 "_law_contrary" s__law_contrary ["part"] m__law_contrary) (f__law_numbers : FnM P w K mg base CX0 1 "_law_numbers" s__law_numbers ["steps"] m__law_numbers) (f__law_is_right : FnM P w K mg base CX0 3 "_law_is_right" s__law_is_right ["steps", "number"] m__law_is_right) (f_dropped_ahead : FnM P w K mg base CX0 2 "dropped_ahead" s_dropped_ahead ["steps", "l"] m_dropped_ahead) (f_filled_ahead : FnM P w K mg base CX0 2 "filled_ahead" s_filled_ahead ["steps", "k"] m_filled_ahead) (Fu : L2.Fun K "law" ql s_law f fd) (hm : mg "law" = some (.ref f)) :
    FnM P w K mg base CX0 6 "law" s_law ["script"] m_law :=
  fn_pure Fu hm sc_law rfl fun cdv A outer s H E hr hg =>
  (ppb_cons (pps_set 1 sc_law.nd (pp_call f__law_pot bd__law_pot hr (by decide) hg pass0 (ppa_cons (pp_v 0) ppa_nil)))
  (ppb_cons (pps_for PassesOwn.never rfl (ppi_rng1 T.b_range pp_int) (ppg_n 2 sc_law.nd)
   (ppb_cons (pps_set 3 sc_law.nd (pp_call f__law_pick bd__law_pick hr (by decide) hg pass0 (ppa_cons (pp_v 1) (ppa_cons (pp_lst (ppa_cons pp_int (ppa_cons (pp_op opP_pow pp_int pp_int) (ppa_cons (pp_op opP_pow pp_int pp_int) (ppa_cons (pp_op opP_pow pp_int pp_int) (ppa_cons (pp_op opP_pow pp_int pp_int) (ppa_cons (pp_op opP_pow pp_int pp_int) ppa_nil))))))) ppa_nil))))
   (ppb_cons (pps_set 4 sc_law.nd (pp_ite (ppt_cmp cmpP_lt (pp_v 2) pp_int) (pp_lst (ppa_cons pp_int (ppa_cons pp_int (ppa_cons pp_int (ppa_cons pp_int (ppa_cons pp_int ppa_nil)))))) (pp_lst (ppa_cons pp_int (ppa_cons (pp_v 3) (ppa_cons (pp_op opP_mul pp_int (pp_v 3)) (ppa_cons (pp_op opP_add (pp_op opP_mul pp_int (pp_v 3)) pp_int) (ppa_cons (pp_op opP_mul pp_int (pp_v 3)) ppa_nil))))))))
   (ppb_cons (pps_set 5 sc_law.nd (pp_call f__law_row bd__law_row hr (by decide) hg pass0 (ppa_cons (pp_v 1) (ppa_cons (pp_call f__law_dip bd__law_dip hr (by decide) hg pass0 (ppa_cons (pp_v 1) (ppa_cons pp_int ppa_nil))) (ppa_cons (pp_v 4) ppa_nil)))))
   (ppb_cons (pps_par3 9 10 11 rfl sc_law.nd (by decide) (by decide) (by decide) (pp_call f_stages bd_stages hr (by decide) hg pass0 (ppa_cons (pp_v 5) ppa_nil)) (pp_call f_stages bd_stages hr (by decide) hg pass0 (ppa_cons (pp_callTy crP_tuple T.b_tuple boot_tuple (ppa_cons (pp_lc (own := [("part", 13)]) rfl sc_law.nd (ppi_val (pp_v 5)) (blkOk_by (N := N_law) (sc := defScope s_law) (by decide +kernel)) (fun _ _ _ _ _ => (ppg_n 13 sc_law.nd)) (fun _ _ _ _ _ => ppts_nil) (fun _ _ _ _ _ => (pp_call f__law_contrary bd__law_contrary hr (by decide) hg pass0 (ppa_cons (pp_v 13) ppa_nil)))) ppa_nil)) ppa_nil)) (pp_lst (ppa_cons pp_int (ppa_cons pp_int ppa_nil))))
   (ppb_cons (pps_set 6 sc_law.nd (pp_callB (crP_repr hg (hu65 hr)) T.b_repr boot_repr (ppa_cons (pp_v 9) ppa_nil)))
   (ppb_cons (pps_set 7 sc_law.nd (pp_call f_stages bd_stages hr (by decide) hg pass0 (ppa_cons (pp_op opP_add (pp_op opP_add (pp_v 5) (pp_tup (ppa_cons (pp_tup (ppa_cons pp_str ppa_nil)) ppa_nil))) (pp_sl (pp_v 5) ppo_none (ppo_some (pp_call f__law_dip bd__law_dip hr (by decide) hg pass0 (ppa_cons (pp_v 1) (ppa_cons (pp_op opP_add (pp_callB crP_len T.b_len boot_len (ppa_cons (pp_v 5) ppa_nil)) pp_int) ppa_nil)))))) ppa_nil)))
   (ppb_cons (pps_for PassesOwn.never rfl (ppi_val (pp_call f__law_numbers bd__law_numbers hr (by decide) hg pass0 (ppa_cons (pp_v 9) ppa_nil))) (ppg_n 8 sc_law.nd)
    (ppb_cons (pps_if (PPW.t (ppw_or (ppt_not (PP.t (pp_call f__law_is_right bd__law_is_right hr (by decide) hg pass0 (ppa_cons (pp_v 9) (ppa_cons (pp_v 8) ppa_nil))))) (ppw_or1 (ppt_not (PP.t (pp_call f__law_is_right bd__law_is_right hr (by decide) hg pass0 (ppa_cons (pp_v 7) (ppa_cons (pp_v 8) ppa_nil))))))))
     (ppb_one (pps_ret pp_bl))
     ppb_nil)
    (ppb_cons (pps_set 12 sc_law.nd (pp_lst (ppa_cons (pp_call f_filled_ahead bd_filled_ahead hr (by decide) hg pass0 (ppa_cons (pp_v 9) (ppa_cons (pp_v 8) ppa_nil))) (ppa_cons (pp_call f_dropped_ahead bd_dropped_ahead hr (by decide) hg pass0 (ppa_cons (pp_v 9) (ppa_cons (pp_v 8) ppa_nil))) ppa_nil))))
    (ppb_cons (pps_if (PPW.t (ppw_or (ppt_cmp cmpP_lt (pp_ix (pp_v 12) pp_int) (pp_ix (pp_v 11) pp_int)) (ppw_or1 (ppt_cmp cmpP_lt (pp_ix (pp_v 12) pp_int) (pp_ix (pp_v 11) pp_int)))))
     (ppb_one (pps_ret pp_bl))
     ppb_nil)
    (ppb_cons (pps_if (ppt_cmp (cmpP_ne (hu64 hr)) (pp_lst (ppa_cons (pp_call f_filled_ahead bd_filled_ahead hr (by decide) hg pass0 (ppa_cons (pp_v 10) (ppa_cons (pp_v 8) ppa_nil))) (ppa_cons (pp_call f_dropped_ahead bd_dropped_ahead hr (by decide) hg pass0 (ppa_cons (pp_v 10) (ppa_cons (pp_v 8) ppa_nil))) ppa_nil))) (pp_revL (pp_v 12)))
     (ppb_one (pps_ret pp_bl))
     ppb_nil)
    (ppb_one (pps_set 11 sc_law.nd (pp_v 12))))))))
   (ppb_cons (pps_if (ppt_cmp (cmpP_ne (hu64 hr)) (pp_callB (crP_repr hg (hu65 hr)) T.b_repr boot_repr (ppa_cons (pp_v 9) ppa_nil)) (pp_v 6))
    (ppb_one (pps_ret pp_bl))
    ppb_nil)
   (ppb_one (pps_if (PPW.t (ppw_and (ppt_cmp (cmpP_ne (hu64 hr)) (pp_v 9) (pp_tup ppa_nil)) (ppw_and1 (ppt_cmp (cmpP_ne (hu64 hr)) (pp_callIf (ppt_cmp (cmpP_eq (hu64 hr)) (pp_ix (pp_ix (pp_v 9) pp_int) pp_int) pp_str) f_filled_ahead bd_filled_ahead f_dropped_ahead bd_dropped_ahead hr (by decide) (by decide) hg pass0 (ppa_cons (pp_v 9) (ppa_cons pp_int ppa_nil))) pp_int))))
    (ppb_one (pps_ret pp_bl))
    ppb_nil)))))))))))
  (ppb_one (pps_ret (pp_and (pp_cmp (cmpP_eq (hu64 hr)) (pp_call f_filled_ahead bd_filled_ahead hr (by decide) hg pass0 (ppa_cons (pp_tup ppa_nil) (ppa_cons pp_int ppa_nil))) pp_int) (pp_one (pp_cmp (cmpP_eq (hu64 hr)) (pp_call f_dropped_ahead bd_dropped_ahead hr (by decide) hg pass0 (ppa_cons (pp_tup ppa_nil) (ppa_cons pp_int ppa_nil))) pp_int)))))))
end
theorem all_mk {P : Program} {w : World} {K : PySem.W.Frag} {mg : Str → Option Value} {h base : Heap} (X : K.In h) (G : h.Ns mainGlobals mg)
    (z_enumerate : PySem.W.nsIn K mainGlobals "enumerate" = some none)
    (z_int : PySem.W.nsIn K mainGlobals "int" = some none)
    (z_len : PySem.W.nsIn K mainGlobals "len" = some none)
    (z_max : PySem.W.nsIn K mainGlobals "max" = some none)
    (z_range : PySem.W.nsIn K mainGlobals "range" = some none)
    (z_repr : PySem.W.nsIn K mainGlobals "repr" = some none)
    (z_set : PySem.W.nsIn K mainGlobals "set" = some none)
    (z_sorted : PySem.W.nsIn K mainGlobals "sorted" = some none)
    (z_tuple : PySem.W.nsIn K mainGlobals "tuple" = some none)
    {t_DROP : Tok} (y_DROP : PySem.W.nsIn K mainGlobals "DROP" = some (some (.str "drop" t_DROP)))
    {t_FILL : Tok} (y_FILL : PySem.W.nsIn K mainGlobals "FILL" = some (some (.str "fill" t_FILL)))
    {t_TURN : Tok} (y_TURN : PySem.W.nsIn K mainGlobals "TURN" = some (some (.str "turn" t_TURN)))
    {f_ticks_up : Addr} {oc_ticks_up kV_ticks_up dc_ticks_up pm_ticks_up cd_ticks_up ct_ticks_up : Value} {od_ticks_up an_ticks_up : Option Addr} {sl_ticks_up : Array (Option Value)}
    (a_ticks_up : PySem.W.nsIn K mainGlobals "ticks_up" = some (some (.ref f_ticks_up)))
    (l_ticks_up : K.lookup f_ticks_up = some ⟨oc_ticks_up, od_ticks_up, .func (PySem.W.fnOf "ticks_up" "ticks_up" (defArgs s_ticks_up) (defBody s_ticks_up) (defScope s_ticks_up) .none kV_ticks_up dc_ticks_up pm_ticks_up an_ticks_up cd_ticks_up ct_ticks_up), sl_ticks_up⟩)
    (c_ticks_up : PySem.W.codeIn K cd_ticks_up "ticks_up" = true) (k_ticks_up : PySem.W.keepIn K (.ref f_ticks_up) = true)
    {f_moves : Addr} {oc_moves kV_moves dc_moves pm_moves cd_moves ct_moves : Value} {od_moves an_moves : Option Addr} {sl_moves : Array (Option Value)}
    (a_moves : PySem.W.nsIn K mainGlobals "moves" = some (some (.ref f_moves)))
    (l_moves : K.lookup f_moves = some ⟨oc_moves, od_moves, .func (PySem.W.fnOf "moves" "moves" (defArgs s_moves) (defBody s_moves) (defScope s_moves) .none kV_moves dc_moves pm_moves an_moves cd_moves ct_moves), sl_moves⟩)
    (c_moves : PySem.W.codeIn K cd_moves "moves" = true) (k_moves : PySem.W.keepIn K (.ref f_moves) = true)
    {f_heights : Addr} {oc_heights kV_heights dc_heights pm_heights cd_heights ct_heights : Value} {od_heights an_heights : Option Addr} {sl_heights : Array (Option Value)}
    (a_heights : PySem.W.nsIn K mainGlobals "heights" = some (some (.ref f_heights)))
    (l_heights : K.lookup f_heights = some ⟨oc_heights, od_heights, .func (PySem.W.fnOf "heights" "heights" (defArgs s_heights) (defBody s_heights) (defScope s_heights) .none kV_heights dc_heights pm_heights an_heights cd_heights ct_heights), sl_heights⟩)
    (c_heights : PySem.W.codeIn K cd_heights "heights" = true) (k_heights : PySem.W.keepIn K (.ref f_heights) = true)
    {f_with_stage : Addr} {oc_with_stage kV_with_stage dc_with_stage pm_with_stage cd_with_stage ct_with_stage : Value} {od_with_stage an_with_stage : Option Addr} {sl_with_stage : Array (Option Value)}
    (a_with_stage : PySem.W.nsIn K mainGlobals "with_stage" = some (some (.ref f_with_stage)))
    (l_with_stage : K.lookup f_with_stage = some ⟨oc_with_stage, od_with_stage, .func (PySem.W.fnOf "with_stage" "with_stage" (defArgs s_with_stage) (defBody s_with_stage) (defScope s_with_stage) .none kV_with_stage dc_with_stage pm_with_stage an_with_stage cd_with_stage ct_with_stage), sl_with_stage⟩)
    (c_with_stage : PySem.W.codeIn K cd_with_stage "with_stage" = true) (k_with_stage : PySem.W.keepIn K (.ref f_with_stage) = true)
    {f_stages_beyond : Addr} {oc_stages_beyond kV_stages_beyond dc_stages_beyond pm_stages_beyond cd_stages_beyond ct_stages_beyond : Value} {od_stages_beyond an_stages_beyond : Option Addr} {sl_stages_beyond : Array (Option Value)}
    (a_stages_beyond : PySem.W.nsIn K mainGlobals "stages_beyond" = some (some (.ref f_stages_beyond)))
    (l_stages_beyond : K.lookup f_stages_beyond = some ⟨oc_stages_beyond, od_stages_beyond, .func (PySem.W.fnOf "stages_beyond" "stages_beyond" (defArgs s_stages_beyond) (defBody s_stages_beyond) (defScope s_stages_beyond) .none kV_stages_beyond dc_stages_beyond pm_stages_beyond an_stages_beyond cd_stages_beyond ct_stages_beyond), sl_stages_beyond⟩)
    (c_stages_beyond : PySem.W.codeIn K cd_stages_beyond "stages_beyond" = true) (k_stages_beyond : PySem.W.keepIn K (.ref f_stages_beyond) = true)
    {f_stages : Addr} {oc_stages kV_stages dc_stages pm_stages cd_stages ct_stages : Value} {od_stages an_stages : Option Addr} {sl_stages : Array (Option Value)}
    (a_stages : PySem.W.nsIn K mainGlobals "stages" = some (some (.ref f_stages)))
    (l_stages : K.lookup f_stages = some ⟨oc_stages, od_stages, .func (PySem.W.fnOf "stages" "stages" (defArgs s_stages) (defBody s_stages) (defScope s_stages) .none kV_stages dc_stages pm_stages an_stages cd_stages ct_stages), sl_stages⟩)
    (c_stages : PySem.W.codeIn K cd_stages "stages" = true) (k_stages : PySem.W.keepIn K (.ref f_stages) = true)
    {f_most_of : Addr} {oc_most_of kV_most_of dc_most_of pm_most_of cd_most_of ct_most_of : Value} {od_most_of an_most_of : Option Addr} {sl_most_of : Array (Option Value)}
    (a_most_of : PySem.W.nsIn K mainGlobals "most_of" = some (some (.ref f_most_of)))
    (l_most_of : K.lookup f_most_of = some ⟨oc_most_of, od_most_of, .func (PySem.W.fnOf "most_of" "most_of" (defArgs s_most_of) (defBody s_most_of) (defScope s_most_of) .none kV_most_of dc_most_of pm_most_of an_most_of cd_most_of ct_most_of), sl_most_of⟩)
    (c_most_of : PySem.W.codeIn K cd_most_of "most_of" = true) (k_most_of : PySem.W.keepIn K (.ref f_most_of) = true)
    {f_ahead_of : Addr} {oc_ahead_of kV_ahead_of dc_ahead_of pm_ahead_of cd_ahead_of ct_ahead_of : Value} {od_ahead_of an_ahead_of : Option Addr} {sl_ahead_of : Array (Option Value)}
    (a_ahead_of : PySem.W.nsIn K mainGlobals "ahead_of" = some (some (.ref f_ahead_of)))
    (l_ahead_of : K.lookup f_ahead_of = some ⟨oc_ahead_of, od_ahead_of, .func (PySem.W.fnOf "ahead_of" "ahead_of" (defArgs s_ahead_of) (defBody s_ahead_of) (defScope s_ahead_of) .none kV_ahead_of dc_ahead_of pm_ahead_of an_ahead_of cd_ahead_of ct_ahead_of), sl_ahead_of⟩)
    (c_ahead_of : PySem.W.codeIn K cd_ahead_of "ahead_of" = true) (k_ahead_of : PySem.W.keepIn K (.ref f_ahead_of) = true)
    {f_filled_ahead : Addr} {oc_filled_ahead kV_filled_ahead dc_filled_ahead pm_filled_ahead cd_filled_ahead ct_filled_ahead : Value} {od_filled_ahead an_filled_ahead : Option Addr} {sl_filled_ahead : Array (Option Value)}
    (a_filled_ahead : PySem.W.nsIn K mainGlobals "filled_ahead" = some (some (.ref f_filled_ahead)))
    (l_filled_ahead : K.lookup f_filled_ahead = some ⟨oc_filled_ahead, od_filled_ahead, .func (PySem.W.fnOf "filled_ahead" "filled_ahead" (defArgs s_filled_ahead) (defBody s_filled_ahead) (defScope s_filled_ahead) .none kV_filled_ahead dc_filled_ahead pm_filled_ahead an_filled_ahead cd_filled_ahead ct_filled_ahead), sl_filled_ahead⟩)
    (c_filled_ahead : PySem.W.codeIn K cd_filled_ahead "filled_ahead" = true) (k_filled_ahead : PySem.W.keepIn K (.ref f_filled_ahead) = true)
    {f_dropped_ahead : Addr} {oc_dropped_ahead kV_dropped_ahead dc_dropped_ahead pm_dropped_ahead cd_dropped_ahead ct_dropped_ahead : Value} {od_dropped_ahead an_dropped_ahead : Option Addr} {sl_dropped_ahead : Array (Option Value)}
    (a_dropped_ahead : PySem.W.nsIn K mainGlobals "dropped_ahead" = some (some (.ref f_dropped_ahead)))
    (l_dropped_ahead : K.lookup f_dropped_ahead = some ⟨oc_dropped_ahead, od_dropped_ahead, .func (PySem.W.fnOf "dropped_ahead" "dropped_ahead" (defArgs s_dropped_ahead) (defBody s_dropped_ahead) (defScope s_dropped_ahead) .none kV_dropped_ahead dc_dropped_ahead pm_dropped_ahead an_dropped_ahead cd_dropped_ahead ct_dropped_ahead), sl_dropped_ahead⟩)
    (c_dropped_ahead : PySem.W.codeIn K cd_dropped_ahead "dropped_ahead" = true) (k_dropped_ahead : PySem.W.keepIn K (.ref f_dropped_ahead) = true)
    {f__law_pot : Addr} {oc__law_pot kV__law_pot dc__law_pot pm__law_pot cd__law_pot ct__law_pot : Value} {od__law_pot an__law_pot : Option Addr} {sl__law_pot : Array (Option Value)}
    (a__law_pot : PySem.W.nsIn K mainGlobals "_law_pot" = some (some (.ref f__law_pot)))
    (l__law_pot : K.lookup f__law_pot = some ⟨oc__law_pot, od__law_pot, .func (PySem.W.fnOf "_law_pot" "_law_pot" (defArgs s__law_pot) (defBody s__law_pot) (defScope s__law_pot) .none kV__law_pot dc__law_pot pm__law_pot an__law_pot cd__law_pot ct__law_pot), sl__law_pot⟩)
    (c__law_pot : PySem.W.codeIn K cd__law_pot "_law_pot" = true) (k__law_pot : PySem.W.keepIn K (.ref f__law_pot) = true)
    {f__law_dip : Addr} {oc__law_dip kV__law_dip dc__law_dip pm__law_dip cd__law_dip ct__law_dip : Value} {od__law_dip an__law_dip : Option Addr} {sl__law_dip : Array (Option Value)}
    (a__law_dip : PySem.W.nsIn K mainGlobals "_law_dip" = some (some (.ref f__law_dip)))
    (l__law_dip : K.lookup f__law_dip = some ⟨oc__law_dip, od__law_dip, .func (PySem.W.fnOf "_law_dip" "_law_dip" (defArgs s__law_dip) (defBody s__law_dip) (defScope s__law_dip) .none kV__law_dip dc__law_dip pm__law_dip an__law_dip cd__law_dip ct__law_dip), sl__law_dip⟩)
    (c__law_dip : PySem.W.codeIn K cd__law_dip "_law_dip" = true) (k__law_dip : PySem.W.keepIn K (.ref f__law_dip) = true)
    {f__law_pick : Addr} {oc__law_pick kV__law_pick dc__law_pick pm__law_pick cd__law_pick ct__law_pick : Value} {od__law_pick an__law_pick : Option Addr} {sl__law_pick : Array (Option Value)}
    (a__law_pick : PySem.W.nsIn K mainGlobals "_law_pick" = some (some (.ref f__law_pick)))
    (l__law_pick : K.lookup f__law_pick = some ⟨oc__law_pick, od__law_pick, .func (PySem.W.fnOf "_law_pick" "_law_pick" (defArgs s__law_pick) (defBody s__law_pick) (defScope s__law_pick) .none kV__law_pick dc__law_pick pm__law_pick an__law_pick cd__law_pick ct__law_pick), sl__law_pick⟩)
    (c__law_pick : PySem.W.codeIn K cd__law_pick "_law_pick" = true) (k__law_pick : PySem.W.keepIn K (.ref f__law_pick) = true)
    {f__law_part : Addr} {oc__law_part kV__law_part dc__law_part pm__law_part cd__law_part ct__law_part : Value} {od__law_part an__law_part : Option Addr} {sl__law_part : Array (Option Value)}
    (a__law_part : PySem.W.nsIn K mainGlobals "_law_part" = some (some (.ref f__law_part)))
    (l__law_part : K.lookup f__law_part = some ⟨oc__law_part, od__law_part, .func (PySem.W.fnOf "_law_part" "_law_part" (defArgs s__law_part) (defBody s__law_part) (defScope s__law_part) .none kV__law_part dc__law_part pm__law_part an__law_part cd__law_part ct__law_part), sl__law_part⟩)
    (c__law_part : PySem.W.codeIn K cd__law_part "_law_part" = true) (k__law_part : PySem.W.keepIn K (.ref f__law_part) = true)
    {f__law_row : Addr} {oc__law_row kV__law_row dc__law_row pm__law_row cd__law_row ct__law_row : Value} {od__law_row an__law_row : Option Addr} {sl__law_row : Array (Option Value)}
    (a__law_row : PySem.W.nsIn K mainGlobals "_law_row" = some (some (.ref f__law_row)))
    (l__law_row : K.lookup f__law_row = some ⟨oc__law_row, od__law_row, .func (PySem.W.fnOf "_law_row" "_law_row" (defArgs s__law_row) (defBody s__law_row) (defScope s__law_row) .none kV__law_row dc__law_row pm__law_row an__law_row cd__law_row ct__law_row), sl__law_row⟩)
    (c__law_row : PySem.W.codeIn K cd__law_row "_law_row" = true) (k__law_row : PySem.W.keepIn K (.ref f__law_row) = true)
    {f__law_ahead : Addr} {oc__law_ahead kV__law_ahead dc__law_ahead pm__law_ahead cd__law_ahead ct__law_ahead : Value} {od__law_ahead an__law_ahead : Option Addr} {sl__law_ahead : Array (Option Value)}
    (a__law_ahead : PySem.W.nsIn K mainGlobals "_law_ahead" = some (some (.ref f__law_ahead)))
    (l__law_ahead : K.lookup f__law_ahead = some ⟨oc__law_ahead, od__law_ahead, .func (PySem.W.fnOf "_law_ahead" "_law_ahead" (defArgs s__law_ahead) (defBody s__law_ahead) (defScope s__law_ahead) .none kV__law_ahead dc__law_ahead pm__law_ahead an__law_ahead cd__law_ahead ct__law_ahead), sl__law_ahead⟩)
    (c__law_ahead : PySem.W.codeIn K cd__law_ahead "_law_ahead" = true) (k__law_ahead : PySem.W.keepIn K (.ref f__law_ahead) = true)
    {f__law_is_right : Addr} {oc__law_is_right kV__law_is_right dc__law_is_right pm__law_is_right cd__law_is_right ct__law_is_right : Value} {od__law_is_right an__law_is_right : Option Addr} {sl__law_is_right : Array (Option Value)}
    (a__law_is_right : PySem.W.nsIn K mainGlobals "_law_is_right" = some (some (.ref f__law_is_right)))
    (l__law_is_right : K.lookup f__law_is_right = some ⟨oc__law_is_right, od__law_is_right, .func (PySem.W.fnOf "_law_is_right" "_law_is_right" (defArgs s__law_is_right) (defBody s__law_is_right) (defScope s__law_is_right) .none kV__law_is_right dc__law_is_right pm__law_is_right an__law_is_right cd__law_is_right ct__law_is_right), sl__law_is_right⟩)
    (c__law_is_right : PySem.W.codeIn K cd__law_is_right "_law_is_right" = true) (k__law_is_right : PySem.W.keepIn K (.ref f__law_is_right) = true)
    {f__law_contrary : Addr} {oc__law_contrary kV__law_contrary dc__law_contrary pm__law_contrary cd__law_contrary ct__law_contrary : Value} {od__law_contrary an__law_contrary : Option Addr} {sl__law_contrary : Array (Option Value)}
    (a__law_contrary : PySem.W.nsIn K mainGlobals "_law_contrary" = some (some (.ref f__law_contrary)))
    (l__law_contrary : K.lookup f__law_contrary = some ⟨oc__law_contrary, od__law_contrary, .func (PySem.W.fnOf "_law_contrary" "_law_contrary" (defArgs s__law_contrary) (defBody s__law_contrary) (defScope s__law_contrary) .none kV__law_contrary dc__law_contrary pm__law_contrary an__law_contrary cd__law_contrary ct__law_contrary), sl__law_contrary⟩)
    (c__law_contrary : PySem.W.codeIn K cd__law_contrary "_law_contrary" = true) (k__law_contrary : PySem.W.keepIn K (.ref f__law_contrary) = true)
    {f__law_numbers : Addr} {oc__law_numbers kV__law_numbers dc__law_numbers pm__law_numbers cd__law_numbers ct__law_numbers : Value} {od__law_numbers an__law_numbers : Option Addr} {sl__law_numbers : Array (Option Value)}
    (a__law_numbers : PySem.W.nsIn K mainGlobals "_law_numbers" = some (some (.ref f__law_numbers)))
    (l__law_numbers : K.lookup f__law_numbers = some ⟨oc__law_numbers, od__law_numbers, .func (PySem.W.fnOf "_law_numbers" "_law_numbers" (defArgs s__law_numbers) (defBody s__law_numbers) (defScope s__law_numbers) .none kV__law_numbers dc__law_numbers pm__law_numbers an__law_numbers cd__law_numbers ct__law_numbers), sl__law_numbers⟩)
    (c__law_numbers : PySem.W.codeIn K cd__law_numbers "_law_numbers" = true) (k__law_numbers : PySem.W.keepIn K (.ref f__law_numbers) = true)
    {f_law : Addr} {oc_law kV_law dc_law pm_law cd_law ct_law : Value} {od_law an_law : Option Addr} {sl_law : Array (Option Value)}
    (a_law : PySem.W.nsIn K mainGlobals "law" = some (some (.ref f_law)))
    (l_law : K.lookup f_law = some ⟨oc_law, od_law, .func (PySem.W.fnOf "law" "law" (defArgs s_law) (defBody s_law) (defScope s_law) .none kV_law dc_law pm_law an_law cd_law ct_law), sl_law⟩)
    (c_law : PySem.W.codeIn K cd_law "law" = true) (k_law : PySem.W.keepIn K (.ref f_law) = true) :
    FnM P w K mg base CX0 6 "law" s_law ["script"] m_law := by
  have T : Top mg K := ⟨PySem.W.mg_none_of X G z_enumerate, PySem.W.mg_none_of X G z_int, PySem.W.mg_none_of X G z_len, PySem.W.mg_none_of X G z_max, PySem.W.mg_none_of X G z_range, PySem.W.mg_none_of X G z_repr, PySem.W.mg_none_of X G z_set, PySem.W.mg_none_of X G z_sorted, PySem.W.mg_none_of X G z_tuple, ⟨_, PySem.W.mg_of X G y_DROP⟩, ⟨_, PySem.W.mg_of X G y_FILL⟩, ⟨_, PySem.W.mg_of X G y_TURN⟩⟩
  have F_ticks_up : FnM P w K mg base CX0 1 "ticks_up" s_ticks_up ["part", "is_turned"] m_ticks_up := ok_ticks_up T  (fun_mk (st := s_ticks_up) l_ticks_up c_ticks_up k_ticks_up) (PySem.W.mg_of X G a_ticks_up)
  have F_moves : FnM P w K mg base CX0 2 "moves" s_moves ["row"] m_moves := ok_moves T F_ticks_up (fun_mk (st := s_moves) l_moves c_moves k_moves) (PySem.W.mg_of X G a_moves)
  have F_heights : FnM P w K mg base CX0 3 "heights" s_heights ["row"] m_heights := ok_heights T F_moves (fun_mk (st := s_heights) l_heights c_heights k_heights) (PySem.W.mg_of X G a_heights)
  have F_with_stage : FnM P w K mg base CX0 1 "with_stage" s_with_stage ["found", "word", "number"] m_with_stage := ok_with_stage T  (fun_mk (st := s_with_stage) l_with_stage c_with_stage k_with_stage) (PySem.W.mg_of X G a_with_stage)
  have F_stages_beyond : FnM P w K mg base CX0 4 "stages_beyond" s_stages_beyond ["row", "high", "depth"] m_stages_beyond := ok_stages_beyond T F_heights F_with_stage (fun_mk (st := s_stages_beyond) l_stages_beyond c_stages_beyond k_stages_beyond) (PySem.W.mg_of X G a_stages_beyond)
  have F_stages : FnM P w K mg base CX0 5 "stages" s_stages ["row"] m_stages := ok_stages T F_stages_beyond (fun_mk (st := s_stages) l_stages c_stages k_stages) (PySem.W.mg_of X G a_stages)
  have F_most_of : FnM P w K mg base CX0 1 "most_of" s_most_of ["steps", "word"] m_most_of := ok_most_of T  (fun_mk (st := s_most_of) l_most_of c_most_of k_most_of) (PySem.W.mg_of X G a_most_of)
  have F_ahead_of : FnM P w K mg base CX0 1 "ahead_of" s_ahead_of ["steps", "word", "bound"] m_ahead_of := ok_ahead_of T  (fun_mk (st := s_ahead_of) l_ahead_of c_ahead_of k_ahead_of) (PySem.W.mg_of X G a_ahead_of)
  have F_filled_ahead : FnM P w K mg base CX0 2 "filled_ahead" s_filled_ahead ["steps", "k"] m_filled_ahead := ok_filled_ahead T F_most_of F_ahead_of (fun_mk (st := s_filled_ahead) l_filled_ahead c_filled_ahead k_filled_ahead) (PySem.W.mg_of X G a_filled_ahead)
  have F_dropped_ahead : FnM P w K mg base CX0 2 "dropped_ahead" s_dropped_ahead ["steps", "l"] m_dropped_ahead := ok_dropped_ahead T F_most_of F_ahead_of (fun_mk (st := s_dropped_ahead) l_dropped_ahead c_dropped_ahead k_dropped_ahead) (PySem.W.mg_of X G a_dropped_ahead)
  have F__law_pot : FnM P w K mg base CX0 1 "_law_pot" s__law_pot ["script"] m__law_pot := ok__law_pot T  (fun_mk (st := s__law_pot) l__law_pot c__law_pot k__law_pot) (PySem.W.mg_of X G a__law_pot)
  have F__law_dip : FnM P w K mg base CX0 1 "_law_dip" s__law_dip ["pot", "size"] m__law_dip := ok__law_dip T  (fun_mk (st := s__law_dip) l__law_dip c__law_dip k__law_dip) (PySem.W.mg_of X G a__law_dip)
  have F__law_pick : FnM P w K mg base CX0 2 "_law_pick" s__law_pick ["pot", "items"] m__law_pick := ok__law_pick T F__law_dip (fun_mk (st := s__law_pick) l__law_pick c__law_pick k__law_pick) (PySem.W.mg_of X G a__law_pick)
  have F__law_part : FnM P w K mg base CX0 3 "_law_part" s__law_part ["pot", "sizes"] m__law_part := ok__law_part T F__law_dip F__law_pick (fun_mk (st := s__law_part) l__law_part c__law_part k__law_part) (PySem.W.mg_of X G a__law_part)
  have F__law_row : FnM P w K mg base CX0 4 "_law_row" s__law_row ["pot", "many", "sizes"] m__law_row := ok__law_row T F__law_part F__law_dip (fun_mk (st := s__law_row) l__law_row c__law_row k__law_row) (PySem.W.mg_of X G a__law_row)
  have F__law_ahead : FnM P w K mg base CX0 1 "_law_ahead" s__law_ahead ["steps", "word", "number"] m__law_ahead := ok__law_ahead T  (fun_mk (st := s__law_ahead) l__law_ahead c__law_ahead k__law_ahead) (PySem.W.mg_of X G a__law_ahead)
  have F__law_is_right : FnM P w K mg base CX0 3 "_law_is_right" s__law_is_right ["steps", "number"] m__law_is_right := ok__law_is_right T F__law_ahead F_dropped_ahead F_filled_ahead (fun_mk (st := s__law_is_right) l__law_is_right c__law_is_right k__law_is_right) (PySem.W.mg_of X G a__law_is_right)
  have F__law_contrary : FnM P w K mg base CX0 1 "_law_contrary" s__law_contrary ["part"] m__law_contrary := ok__law_contrary T  (fun_mk (st := s__law_contrary) l__law_contrary c__law_contrary k__law_contrary) (PySem.W.mg_of X G a__law_contrary)
  have F__law_numbers : FnM P w K mg base CX0 1 "_law_numbers" s__law_numbers ["steps"] m__law_numbers := ok__law_numbers T  (fun_mk (st := s__law_numbers) l__law_numbers c__law_numbers k__law_numbers) (PySem.W.mg_of X G a__law_numbers)
  have F_law : FnM P w K mg base CX0 6 "law" s_law ["script"] m_law := ok_law T F__law_pot F__law_pick F__law_row F__law_dip F_stages F__law_contrary F__law_numbers F__law_is_right F_dropped_ahead F_filled_ahead (fun_mk (st := s_law) l_law c_law k_law) (PySem.W.mg_of X G a_law)
  exact F_law
end Law
end
section
set_option autoImplicit false
namespace Law
open PySem PL
inductive Part | turn | on (k : Int) | off (k : Int) | delay (k : Int)
def Part.pv : Part → PV
  | .turn => .tup [.str "turn"]
  | .on k => .tup [.str "on", .int k]
  | .off k => .tup [.str "off", .int k]
  | .delay k => .tup [.str "delay", .int k]
def Part.up (t : Bool) : Part → Int
  | .on k => if t then -k else k
  | .off k => if t then k else -k
  | _ => 0
def Part.flip (t : Bool) : Part → Bool
  | .turn => !t
  | _ => t
abbrev pvs (row : List Part) : PV := .tup (row.map Part.pv)
/-- moves: the ticks of each part, whether it is turned -/
def mvStep (s : List Int × Bool) (p : Part) : List Int × Bool := (s.1 ++ [p.up (p.flip s.2)], p.flip s.2)
def mvs (row : List Part) : List Int × Bool := row.foldl mvStep ([], false)
theorem mvs_len (row : List Part) : ∀ s, (row.foldl mvStep s).1.length = s.1.length + row.length := by
  induction row with
  | nil => intro s; simp
  | cons p ps ih => intro s; simp [ih, mvStep]; omega
/-- heights -/
def htStep (s : List Int × Int) (m : Int) : List Int × Int := (s.1 ++ [s.2 + m], s.2 + m)
def hts (ms : List Int) : List Int := (ms.foldl htStep ([], 0)).1
theorem hts_len (ms : List Int) : ∀ s, (ms.foldl htStep s).1.length = s.1.length + ms.length := by
  induction ms with
  | nil => intro s; simp
  | cons p ps ih => intro s; simp [ih, htStep]; omega
/-- stages: drop true, fill false -/
abbrev Sg := Bool × Int
def Sg.pv (s : Sg) : PV := .tup [.str (if s.1 then "drop" else "fill" : String), .int s.2]
def ws (f : List Sg) (b : Bool) (n : Int) : List Sg := (if f.getLast?.map (·.1) = some b then f.dropLast else f) ++ [(b, n)]
theorem Sg_sm (s : Sg) (h : sml s.2) : (Sg.pv s).pd.sm = true := by
  have := log_sml h
  rcases s with ⟨b, n⟩
  cases b <;> simp [Sg.pv] <;> exact ⟨⟨by decide +kernel, by decide +kernel⟩, this⟩
theorem Sg_data (s : Sg) : (Sg.pv s).data = true := by simp [Sg.pv]
theorem Sg_dp (s : Sg) : (Sg.pv s).pd.depth = 1 := by simp [Sg.pv]
theorem Sg_wt (s : Sg) : (Sg.pv s).pd.wt = 3 := by simp [Sg.pv]
/-- stages beyond so high, so deep -/
structure SS where
  hi : Int
  de : Int
  st : List Sg
def stg (s : SS) (h : Int) : SS := if h > s.hi then ⟨h, s.de, ws s.st true h⟩ else if -h > s.de then ⟨s.hi, -h, ws s.st false (-h)⟩ else s
theorem ws_len (f : List Sg) (b : Bool) (n : Int) : (ws f b n).length ≤ f.length + 1 := by
  unfold ws; split <;> simp
theorem ws_mem {f : List Sg} {b : Bool} {n : Int} {s : Sg} (h : s ∈ ws f b n) : s ∈ f ∨ s = (b, n) := by
  unfold ws at h
  rw [List.mem_append] at h
  rcases h with h | h
  · left
    split at h
    · exact List.dropLast_subset _ h
    · exact h
  · right; simpa using h
theorem stg_fold (hs : List Int) : ∀ s : SS, (∀ h ∈ hs, sml h) → (∀ x ∈ s.st, sml x.2) → (hs.foldl stg s).st.length ≤ s.st.length + hs.length ∧ ∀ x ∈ (hs.foldl stg s).st, sml x.2 := by
  induction hs with
  | nil => intro s _ h; exact ⟨by simp, h⟩
  | cons h hs ih =>
    intro s h1 h2
    have h0 := h1 h List.mem_cons_self
    have step : (stg s h).st.length ≤ s.st.length + 1 ∧ ∀ x ∈ (stg s h).st, sml x.2 := by
      unfold stg
      split
      · refine ⟨ws_len _ _ _, fun x hx => ?_⟩
        rcases ws_mem hx with hx | rfl
        · exact h2 x hx
        · exact h0
      · split
        · refine ⟨ws_len _ _ _, fun x hx => ?_⟩
          rcases ws_mem hx with hx | rfl
          · exact h2 x hx
          · show (-h).natAbs < _; rw [Int.natAbs_neg]; exact h0
        · exact ⟨by omega, h2⟩
    obtain ⟨a, b⟩ := ih (stg s h) (fun x hx => h1 x (List.mem_cons_of_mem _ hx)) step.2
    exact ⟨by simp only [List.foldl_cons, List.length_cons]; omega, b⟩
abbrev stgs (row : List Part) (hi de : Int) : SS := (hts (mvs row).1).foldl stg ⟨hi, de, []⟩
theorem hts_len0 (ms : List Int) : (hts ms).length = ms.length := by unfold hts; rw [hts_len]; simp
theorem mvs_len0 (row : List Part) : (mvs row).1.length = row.length := by unfold mvs; rw [mvs_len]; simp
def Part.dl : Part → Option Int
  | .delay k => some k
  | _ => none
/-- late on, late off -/
def lateOn (row : List Part) : Int := (row.filterMap Part.dl).sum + ((mvs row).1.filter (· > 0)).sum
def lateOff (row : List Part) : Int := (row.filterMap Part.dl).sum - ((mvs row).1.filter (· < 0)).sum
def formP (row : List Part) (hi de : Int) : PV := .tup [.bl (mvs row).2, .int (lateOn row), .int (lateOff row), .tup ((stgs row hi de).st.map Sg.pv)]
def Part.num : Part → Int
  | .turn => 0
  | .on k => k
  | .off k => k
  | .delay k => k
def Part.ok (B : Int) (p : Part) : Prop := 0 ≤ p.num ∧ p.num ≤ B
structure W where
  at_ : Int
  hi : Int
  lo : Int
  l0 : Int
  l1 : Int
  t : Bool
  st : List Sg
def W.mv (s : W) : Part → W
  | .turn => { s with t := !s.t }
  | .delay k => { s with l0 := s.l0 + k, l1 := s.l1 + k }
  | .on k => if s.t then { s with at_ := s.at_ - k, l1 := s.l1 + k } else { s with at_ := s.at_ + k, l0 := s.l0 + k }
  | .off k => if s.t then { s with at_ := s.at_ + k, l0 := s.l0 + k } else { s with at_ := s.at_ - k, l1 := s.l1 + k }
def W.upH (s : W) : W := if s.at_ > s.hi then { s with hi := s.at_, st := ws s.st true s.at_ } else s
def W.upL (s : W) : W := if s.at_ < s.lo then { s with lo := s.at_, st := ws s.st false (-s.at_) } else s
def wk (s : W) (p : Part) : W := (s.mv p).upH.upL
structure W.ok (b : Nat) (n : Nat) (s : W) : Prop where
  at_ : s.at_.natAbs ≤ b
  st : ∀ x ∈ s.st, x.2.natAbs ≤ b
  len : s.st.length ≤ n
theorem mv_ok {b n : Nat} {B : Nat} {s : W} {p : Part} (h : s.ok b n) (hp : p.ok B) : (s.mv p).ok (b + B) n := by
  have ha := h.at_
  have hs : ∀ x ∈ s.st, x.2.natAbs ≤ b + B := fun x hx => by have := h.st x hx; omega
  have h1 := hp.1
  have h2 := hp.2
  cases p with
  | turn => exact ⟨by simp [W.mv]; omega, hs, h.len⟩
  | delay k => exact ⟨by simp [W.mv]; omega, hs, h.len⟩
  | on k =>
    simp only [Part.num] at h1 h2
    simp only [W.mv]
    split <;> exact ⟨by simp; omega, hs, h.len⟩
  | off k =>
    simp only [Part.num] at h1 h2
    simp only [W.mv]
    split <;> exact ⟨by simp; omega, hs, h.len⟩
theorem upH_ok {b n : Nat} {s : W} (h : s.ok b n) : s.upH.ok b (n + 1) := by
  unfold W.upH
  split
  · exact ⟨h.at_, fun x hx => by
      rcases ws_mem hx with hx | rfl
      · exact h.st x hx
      · exact h.at_, by have := ws_len s.st true s.at_; have := h.len; simp; omega⟩
  · exact ⟨h.at_, h.st, by have := h.len; omega⟩
theorem upL_ok {b n : Nat} {s : W} (h : s.ok b n) : s.upL.ok b (n + 1) := by
  unfold W.upL
  split
  · exact ⟨h.at_, fun x hx => by
      rcases ws_mem hx with hx | rfl
      · exact h.st x hx
      · show (-s.at_).natAbs ≤ b; rw [Int.natAbs_neg]; exact h.at_, by have := ws_len s.st false (-s.at_); have := h.len; simp; omega⟩
  · exact ⟨h.at_, h.st, by have := h.len; omega⟩
theorem wk_ok {b n : Nat} {B : Nat} {s : W} {p : Part} (h : s.ok b n) (hp : p.ok B) : (wk s p).ok (b + B) (n + 2) := upL_ok (upH_ok (mv_ok h hp))
def W0 : W := ⟨0, 0, 0, 0, 0, false, []⟩
abbrev wks (row : List Part) : W := row.foldl wk W0
theorem wks_ok {B : Nat} (row : List Part) (h : ∀ p ∈ row, p.ok B) : ∀ (s : W) (b n : Nat), s.ok b n → (row.foldl wk s).ok (b + B * row.length) (n + 2 * row.length) := by
  induction row with
  | nil => intro s b n h; simpa using h
  | cons p ps ih =>
    intro s b n hs
    have := ih (fun q hq => h q (List.mem_cons_of_mem _ hq)) _ _ _ (wk_ok hs (h p List.mem_cons_self))
    simp only [List.foldl_cons, List.length_cons, Nat.mul_add, Nat.mul_one]
    have e1 : b + B + B * ps.length = b + (B * ps.length + B) := by omega
    have e2 : n + 2 + 2 * ps.length = n + (2 * ps.length + 2) := by omega
    rw [e1, e2] at this
    exact this
def Wfd (row : List Part) (i : Nat) : List Int := (List.range i).map fun j => (wks (row.take (j + 1))).at_
def foundL (row : List Part) : List Int := Wfd row row.length
def shapeP (s : W) : PV := .tup [.bl s.t, .int s.l0, .int s.l1, .tup (s.st.map Sg.pv)]
theorem wks_snoc (l : List Part) (x : Part) : wks (l ++ [x]) = wk (wks l) x := by unfold wks; rw [List.foldl_append]; rfl
theorem Wfd_snoc (row : List Part) (i : Nat) (x : Part) (hx : row[i]? = some x) : Wfd row (i + 1) = Wfd row i ++ [(wk (wks (row.take i)) x).at_] := by
  unfold Wfd
  rw [List.range_succ, List.map_append]
  simp only [List.map_cons, List.map_nil]
  rw [take_succ' hx, wks_snoc]
/-! the walk in single ticks -/
structure W.inv (s : W) : Prop where
  h : s.at_ ≤ s.hi
  l : s.lo ≤ s.at_
theorem W0_inv : W0.inv := ⟨by simp [W0], by simp [W0]⟩
theorem upHL_inv (s : W) : s.upH.upL.inv := by
  have h1 : s.upH.at_ ≤ s.upH.hi := by
    unfold W.upH
    by_cases c : s.at_ > s.hi
    · rw [if_pos c]; exact Int.le_refl _
    · rw [if_neg c]; omega
  generalize s.upH = z at *
  unfold W.upL
  by_cases c : z.at_ < z.lo
  · rw [if_pos c]; exact ⟨h1, Int.le_refl _⟩
  · rw [if_neg c]; exact ⟨h1, by omega⟩
theorem wk_inv (s : W) (p : Part) : (wk s p).inv := upHL_inv _
theorem up_noop {s : W} (h : s.inv) : s.upH.upL = s := by
  have := h.h
  have := h.l
  have e1 : s.upH = s := by unfold W.upH; rw [if_neg (by omega)]
  rw [e1]; unfold W.upL; rw [if_neg (by omega)]
theorem ws_ws (f : List Sg) (b : Bool) (x y : Int) : ws (ws f b x) b y = ws f b y := by
  unfold ws
  simp
def W.U (s : W) (k : Int) : W := if s.at_ + k > s.hi then { s with at_ := s.at_ + k, l0 := s.l0 + k, hi := s.at_ + k, st := ws s.st true (s.at_ + k) } else { s with at_ := s.at_ + k, l0 := s.l0 + k }
def W.D (s : W) (k : Int) : W := if s.at_ - k < s.lo then { s with at_ := s.at_ - k, l1 := s.l1 + k, lo := s.at_ - k, st := ws s.st false (-(s.at_ - k)) } else { s with at_ := s.at_ - k, l1 := s.l1 + k }
theorem U_eq {s : W} (h : s.inv) {k : Int} (hk : 0 ≤ k) : ({ s with at_ := s.at_ + k, l0 := s.l0 + k } : W).upH.upL = s.U k := by
  have h1 := h.h
  have h2 := h.l
  unfold W.upH W.upL W.U
  by_cases c : s.at_ + k > s.hi <;> simp [c] <;> omega
theorem D_eq {s : W} (h : s.inv) {k : Int} (hk : 0 ≤ k) : ({ s with at_ := s.at_ - k, l1 := s.l1 + k } : W).upH.upL = s.D k := by
  have h1 := h.h
  have h2 := h.l
  have c1 : ¬ (s.at_ - k > s.hi) := by omega
  unfold W.upH W.upL W.D
  by_cases c : s.at_ - k < s.lo <;> simp [c, c1]
theorem U_inv {s : W} (h : s.inv) {k : Int} (hk : 0 ≤ k) : (s.U k).inv := by rw [← U_eq h hk]; exact upHL_inv _
theorem D_inv {s : W} (h : s.inv) {k : Int} (hk : 0 ≤ k) : (s.D k).inv := by rw [← D_eq h hk]; exact upHL_inv _
theorem U_add (s : W) {a b : Int} (ha : 0 ≤ a) (hb : 0 ≤ b) : (s.U a).U b = s.U (a + b) := by
  unfold W.U
  by_cases c1 : s.at_ + a > s.hi
  · have c3 : s.at_ + (a + b) > s.hi := by omega
    by_cases c2 : b > 0
    · have c4 : s.at_ + (a + b) > s.at_ + a := by omega
      simp only [if_pos c1, if_pos c3, if_pos c4, ws_ws, Int.add_assoc]
    · have e : b = 0 := by omega
      subst e
      simp [c1]
  · by_cases c2 : s.at_ + (a + b) > s.hi
    · simp only [if_neg c1, if_pos c2, Int.add_assoc]
    · simp only [if_neg c1, if_neg c2, Int.add_assoc]
theorem D_add (s : W) {a b : Int} (ha : 0 ≤ a) (hb : 0 ≤ b) : (s.D a).D b = s.D (a + b) := by
  have e0 : s.at_ - a - b = s.at_ - (a + b) := by omega
  unfold W.D
  by_cases c1 : s.at_ - a < s.lo
  · have c3 : s.at_ - (a + b) < s.lo := by omega
    by_cases c2 : b > 0
    · have c4 : s.at_ - (a + b) < s.at_ - a := by omega
      simp only [if_pos c1, if_pos c3, if_pos c4, ws_ws, Int.add_assoc, e0]
    · have e : b = 0 := by omega
      subst e
      simp [c1]
  · by_cases c2 : s.at_ - (a + b) < s.lo
    · simp only [if_neg c1, if_pos c2, Int.add_assoc, e0]
    · simp only [if_neg c1, if_neg c2, Int.add_assoc, e0]
theorem U_zero {s : W} (h : s.inv) : s.U 0 = s := by
  have := h.h
  unfold W.U
  rw [if_neg (by omega)]; simp
theorem D_zero {s : W} (h : s.inv) : s.D 0 = s := by
  have := h.l
  unfold W.D
  rw [if_neg (by omega)]; simp
theorem U_t (s : W) (k : Int) : (s.U k).t = s.t := by unfold W.U; split <;> rfl
theorem D_t (s : W) (k : Int) : (s.D k).t = s.t := by unfold W.D; split <;> rfl
theorem wk_on {s : W} (h : s.inv) {k : Int} (hk : 0 ≤ k) : wk s (.on k) = if s.t then s.D k else s.U k := by
  simp only [wk, W.mv]
  by_cases ht : s.t = true
  · rw [if_pos ht, if_pos ht]; exact D_eq h hk
  · rw [if_neg ht, if_neg ht]; exact U_eq h hk
theorem wk_off {s : W} (h : s.inv) {k : Int} (hk : 0 ≤ k) : wk s (.off k) = if s.t then s.U k else s.D k := by
  simp only [wk, W.mv]
  by_cases ht : s.t = true
  · rw [if_pos ht, if_pos ht]; exact U_eq h hk
  · rw [if_neg ht, if_neg ht]; exact D_eq h hk
theorem wk_turn {s : W} (h : s.inv) : wk s .turn = { s with t := !s.t } := up_noop (s := { s with t := !s.t }) ⟨h.h, h.l⟩
theorem wk_delay {s : W} (h : s.inv) (k : Int) : wk s (.delay k) = { s with l0 := s.l0 + k, l1 := s.l1 + k } := up_noop (s := { s with l0 := s.l0 + k, l1 := s.l1 + k }) ⟨h.h, h.l⟩
/-- a part in ticks -/
def ticks : Part → List Part
  | .turn => [.turn]
  | .on k => List.replicate k.toNat (.on 1) ++ [.on 0]
  | .off k => List.replicate k.toNat (.off 1) ++ [.off 0]
  | .delay k => List.replicate k.toNat (.delay 1) ++ [.delay 0]
theorem reps (mk : Int → Part) (hadd : ∀ (s : W) (a b : Int), s.inv → 0 ≤ a → 0 ≤ b → wk (wk s (mk a)) (mk b) = wk s (mk (a + b))) (h0 : ∀ s : W, s.inv → wk s (mk 0) = s) (n : Nat) :
    ∀ s : W, s.inv → (List.replicate n (mk 1)).foldl wk s = wk s (mk n) := by
  induction n with
  | zero => intro s hs; simp [h0 s hs]
  | succ n ih =>
    intro s hs
    rw [List.replicate_succ, List.foldl_cons, ih _ (wk_inv _ _), hadd s 1 n hs (by omega) (by omega)]
    congr 2
    omega
theorem on_add (s : W) (a b : Int) (hs : s.inv) (ha : 0 ≤ a) (hb : 0 ≤ b) : wk (wk s (.on a)) (.on b) = wk s (.on (a + b)) := by
  rw [wk_on (wk_inv _ _) hb, wk_on hs ha, wk_on hs (by omega)]
  cases ht : s.t <;> simp [U_t, D_t, ht, U_add s ha hb, D_add s ha hb]
theorem off_add (s : W) (a b : Int) (hs : s.inv) (ha : 0 ≤ a) (hb : 0 ≤ b) : wk (wk s (.off a)) (.off b) = wk s (.off (a + b)) := by
  rw [wk_off (wk_inv _ _) hb, wk_off hs ha, wk_off hs (by omega)]
  cases ht : s.t <;> simp [U_t, D_t, ht, U_add s ha hb, D_add s ha hb]
theorem delay_add (s : W) (a b : Int) (hs : s.inv) : wk (wk s (.delay a)) (.delay b) = wk s (.delay (a + b)) := by
  rw [wk_delay (wk_inv _ _) b, wk_delay hs a, wk_delay hs]
  simp [Int.add_assoc]
theorem ticks_eq {s : W} (hs : s.inv) {p : Part} (hp : 0 ≤ p.num) : (ticks p).foldl wk s = wk s p := by
  cases p with
  | turn => rfl
  | on k =>
    simp only [Part.num] at hp
    have e : ((k.toNat : Nat) : Int) = k := by omega
    rw [ticks, List.foldl_append, reps .on on_add (fun s h => by rw [wk_on h (by omega)]; cases ht : s.t <;> simp [U_zero h, D_zero h]) _ s hs, e]
    simp only [List.foldl_cons, List.foldl_nil]
    rw [on_add s k 0 hs hp (by omega)]; simp
  | off k =>
    simp only [Part.num] at hp
    have e : ((k.toNat : Nat) : Int) = k := by omega
    rw [ticks, List.foldl_append, reps .off off_add (fun s h => by rw [wk_off h (by omega)]; cases ht : s.t <;> simp [U_zero h, D_zero h]) _ s hs, e]
    simp only [List.foldl_cons, List.foldl_nil]
    rw [off_add s k 0 hs hp (by omega)]; simp
  | delay k =>
    simp only [Part.num] at hp
    have e : ((k.toNat : Nat) : Int) = k := by omega
    rw [ticks, List.foldl_append, reps .delay (fun s a b h _ _ => delay_add s a b h) (fun s h => by rw [wk_delay h]; simp) _ s hs, e]
    simp only [List.foldl_cons, List.foldl_nil]
    rw [delay_add s k 0 hs]; simp
def ticksL (row : List Part) : List Part := row.flatMap ticks
theorem fold_inv (row : List Part) : ∀ s : W, s.inv → (row.foldl wk s).inv := by
  induction row with
  | nil => intro s h; exact h
  | cons p ps ih => intro s h; exact ih _ (wk_inv _ _)
theorem ticksL_eq (row : List Part) (h : ∀ p ∈ row, 0 ≤ p.num) : ∀ s : W, s.inv → (ticksL row).foldl wk s = row.foldl wk s := by
  induction row with
  | nil => intro s _; rfl
  | cons p ps ih =>
    intro s hs
    unfold ticksL at *
    rw [List.flatMap_cons, List.foldl_append, ticks_eq hs (h p List.mem_cons_self)]
    exact ih (fun q hq => h q (List.mem_cons_of_mem _ hq)) _ (wk_inv _ _)
/-! straight rows -/
def stStep (s : List Part × Bool) (p : Part) : List Part × Bool := match p with
  | .turn => (s.1, !s.2)
  | .delay k => (s.1 ++ [.delay k], s.2)
  | .on k => (s.1 ++ [if s.2 then .off k else .on k], s.2)
  | .off k => (s.1 ++ [if s.2 then .on k else .off k], s.2)
def strt (row : List Part) : List Part × Bool := row.foldl stStep ([], false)
def W.core (s : W) : W := { s with t := false }
theorem core_inv {s : W} (h : s.inv) : s.core.inv := ⟨h.h, h.l⟩
theorem core_U (s : W) (k : Int) : (s.U k).core = s.core.U k := by
  unfold W.U W.core; by_cases c : s.at_ + k > s.hi <;> simp [c]
theorem core_D (s : W) (k : Int) : (s.D k).core = s.core.D k := by
  unfold W.D W.core; by_cases c : s.at_ - k < s.lo <;> simp [c]
theorem strs_eq (row : List Part) (h : ∀ p ∈ row, 0 ≤ p.num) : ∀ (s : W) (z : List Part × Bool), s.inv → wks z.1 = s.core → z.2 = s.t → wks (row.foldl stStep z).1 = (row.foldl wk s).core ∧ (row.foldl stStep z).2 = (row.foldl wk s).t := by
  induction row with
  | nil => intro s z _ h1 h2; exact ⟨h1, h2⟩
  | cons p ps ih =>
    intro s z hs h1 h2
    rw [List.foldl_cons, List.foldl_cons]
    refine ih (fun q hq => h q (List.mem_cons_of_mem _ hq)) _ _ (wk_inv _ _) ?_ ?_
    · have hp := h p List.mem_cons_self
      cases p with
      | turn => rw [wk_turn hs]; exact h1
      | delay k => simp only [stStep]; rw [wks_snoc, h1, wk_delay hs, wk_delay (core_inv hs)]; rfl
      | on k =>
        simp only [stStep]
        simp only [Part.num] at hp
        rw [wks_snoc, h1, h2, wk_on hs hp]
        cases ht : s.t
        · simp only [Bool.false_eq_true, if_false]; rw [wk_on (core_inv hs) hp, core_U]; rfl
        · simp only [if_true]; rw [wk_off (core_inv hs) hp, core_D]; rfl
      | off k =>
        simp only [stStep]
        simp only [Part.num] at hp
        rw [wks_snoc, h1, h2, wk_off hs hp]
        cases ht : s.t
        · simp only [Bool.false_eq_true, if_false]; rw [wk_off (core_inv hs) hp, core_D]; rfl
        · simp only [if_true]; rw [wk_on (core_inv hs) hp, core_U]; rfl
    · have hp := h p List.mem_cons_self
      cases p with
      | turn => rw [wk_turn hs]; simp [stStep, h2]
      | delay k => rw [wk_delay hs]; simp [stStep, h2]
      | on k => simp only [Part.num] at hp; rw [wk_on hs hp]; cases ht : s.t <;> simp [stStep, h2, U_t, D_t, ht]
      | off k => simp only [Part.num] at hp; rw [wk_off hs hp]; cases ht : s.t <;> simp [stStep, h2, U_t, D_t, ht]
/-! the program's form is the walk's -/
theorem mvs_snoc (l : List Part) (p : Part) : mvs (l ++ [p]) = ((mvs l).1 ++ [p.up (p.flip (mvs l).2)], p.flip (mvs l).2) := by
  unfold mvs; rw [List.foldl_append]; rfl
theorem hts_snoc (l : List Int) (x : Int) : hts (l ++ [x]) = hts l ++ [(l.foldl htStep ([], 0)).2 + x] := by
  unfold hts; rw [List.foldl_append]; rfl
theorem hts_last (l : List Int) (x : Int) : ((l ++ [x]).foldl htStep ([], 0)).2 = (l.foldl htStep ([], 0)).2 + x := by
  rw [List.foldl_append]; rfl
structure Same (row : List Part) (s : W) : Prop where
  t : (mvs row).2 = s.t
  a : ((mvs row).1.foldl htStep ([], 0)).2 = s.at_
  st : (hts (mvs row).1).foldl stg ⟨0, 0, []⟩ = ⟨s.hi, -s.lo, s.st⟩
  on : lateOn row = s.l0
  off : lateOff row = s.l1
theorem dls_snoc (l : List Part) (p : Part) : ((l ++ [p]).filterMap Part.dl).sum = (l.filterMap Part.dl).sum + (p.dl.getD 0) := by
  rw [List.filterMap_append]
  cases p <;> simp [Part.dl, List.filterMap_cons]
theorem pos_snoc (l : List Int) (x : Int) : ((l ++ [x]).filter (· > 0)).sum = (l.filter (· > 0)).sum + (if x > 0 then x else 0) := by
  rw [List.filter_append]
  by_cases h : x > 0 <;> simp [h]
theorem neg_snoc (l : List Int) (x : Int) : ((l ++ [x]).filter (· < 0)).sum = (l.filter (· < 0)).sum + (if x < 0 then x else 0) := by
  rw [List.filter_append]
  by_cases h : x < 0 <;> simp [h]
theorem stg_eq {s : W} (h : s.inv) (m : Int) (a b : Int) (t : Bool) : stg ⟨s.hi, -s.lo, s.st⟩ (s.at_ + m) = ⟨({ s with at_ := s.at_ + m, l0 := a, l1 := b, t := t } : W).upH.upL.hi, -({ s with at_ := s.at_ + m, l0 := a, l1 := b, t := t } : W).upH.upL.lo, ({ s with at_ := s.at_ + m, l0 := a, l1 := b, t := t } : W).upH.upL.st⟩ := by
  have h1 := h.h
  have h2 := h.l
  unfold stg
  by_cases c1 : s.at_ + m > s.hi
  · have e1 : ({ s with at_ := s.at_ + m, l0 := a, l1 := b, t := t } : W).upH = { s with at_ := s.at_ + m, l0 := a, l1 := b, t := t, hi := s.at_ + m, st := ws s.st true (s.at_ + m) } := by unfold W.upH; rw [if_pos c1]
    have c2 : ¬ (s.at_ + m < s.lo) := by omega
    rw [if_pos c1, e1]
    unfold W.upL
    rw [if_neg c2]
  · have e1 : ({ s with at_ := s.at_ + m, l0 := a, l1 := b, t := t } : W).upH = { s with at_ := s.at_ + m, l0 := a, l1 := b, t := t } := by unfold W.upH; rw [if_neg c1]
    rw [if_neg c1, e1]
    unfold W.upL
    by_cases c2 : s.at_ + m < s.lo
    · have c3 : -(s.at_ + m) > -s.lo := by omega
      rw [if_pos c2, if_pos c3]
    · have c3 : ¬ (-(s.at_ + m) > -s.lo) := by omega
      rw [if_neg c2, if_neg c3]
theorem same_snoc {row : List Part} {s : W} (h : Same row s) (hs : s.inv) {p : Part} (hp : 0 ≤ p.num) : Same (row ++ [p]) (wk s p) := by
  have key : ∀ (m a b : Int) (t : Bool), wk s p = ({ s with at_ := s.at_ + m, l0 := a, l1 := b, t := t } : W).upH.upL → p.flip s.t = t → p.up t = m → lateOn (row ++ [p]) = a → lateOff (row ++ [p]) = b → Same (row ++ [p]) (wk s p) := by
    intro m a b t e e1 e2 e3 e4
    have g := stg_eq hs m a b t
    have f1 : ∀ z : W, z.upH.upL.at_ = z.at_ := by
      intro z; unfold W.upH W.upL; by_cases c1 : z.at_ > z.hi
      · simp only [if_pos c1]; split <;> rfl
      · simp only [if_neg c1]; split <;> rfl
    have f2 : ∀ z : W, z.upH.upL.t = z.t := by
      intro z; unfold W.upH W.upL; by_cases c1 : z.at_ > z.hi
      · simp only [if_pos c1]; split <;> rfl
      · simp only [if_neg c1]; split <;> rfl
    have f3 : ∀ z : W, z.upH.upL.l0 = z.l0 := by
      intro z; unfold W.upH W.upL; by_cases c1 : z.at_ > z.hi
      · simp only [if_pos c1]; split <;> rfl
      · simp only [if_neg c1]; split <;> rfl
    have f4 : ∀ z : W, z.upH.upL.l1 = z.l1 := by
      intro z; unfold W.upH W.upL; by_cases c1 : z.at_ > z.hi
      · simp only [if_pos c1]; split <;> rfl
      · simp only [if_neg c1]; split <;> rfl
    rw [e]
    constructor
    · rw [mvs_snoc, f2, h.t, e1]
    · rw [mvs_snoc, f1, h.t, e1, e2]; simp only; rw [hts_last, h.a]
    · rw [mvs_snoc, h.t, e1, e2]; simp only; rw [hts_snoc, List.foldl_append, h.st, h.a]; exact g
    · rw [f3]; exact e3
    · rw [f4]; exact e4
  have l1 : lateOn (row ++ [p]) = s.l0 + p.dl.getD 0 + (if p.up (p.flip s.t) > 0 then p.up (p.flip s.t) else 0) := by
    rw [← h.on, ← h.t]; unfold lateOn
    rw [dls_snoc, mvs_snoc]; simp only; rw [pos_snoc]; omega
  have l2 : lateOff (row ++ [p]) = s.l1 + p.dl.getD 0 - (if p.up (p.flip s.t) < 0 then p.up (p.flip s.t) else 0) := by
    rw [← h.off, ← h.t]; unfold lateOff
    rw [dls_snoc, mvs_snoc]; simp only; rw [neg_snoc]; omega
  cases p with
  | turn => exact key 0 s.l0 s.l1 (!s.t) (by simp [wk, W.mv]) rfl rfl (by rw [l1]; simp [Part.up, Part.dl]) (by rw [l2]; simp [Part.up, Part.dl])
  | delay k => exact key 0 (s.l0 + k) (s.l1 + k) s.t (by simp [wk, W.mv]) rfl rfl (by rw [l1]; simp [Part.up, Part.dl]) (by rw [l2]; simp [Part.up, Part.dl])
  | on k =>
    simp only [Part.num] at hp
    cases ht : s.t
    · refine key k (s.l0 + k) s.l1 false (by simp [wk, W.mv, ht]) ht rfl ?_ ?_
      · rw [l1, ht]; simp only [Part.up, Part.dl, Part.flip]; simp; omega
      · rw [l2, ht]; simp only [Part.up, Part.dl, Part.flip]; simp; omega
    · refine key (-k) s.l0 (s.l1 + k) true (by simp [wk, W.mv, ht, Int.sub_eq_add_neg]) ht rfl ?_ ?_
      · rw [l1, ht]; simp only [Part.up, Part.dl, Part.flip]; simp; omega
      · rw [l2, ht]; simp only [Part.up, Part.dl, Part.flip]; simp; omega
  | off k =>
    simp only [Part.num] at hp
    cases ht : s.t
    · refine key (-k) s.l0 (s.l1 + k) false (by simp [wk, W.mv, ht, Int.sub_eq_add_neg]) ht rfl ?_ ?_
      · rw [l1, ht]; simp only [Part.up, Part.dl, Part.flip]; simp; omega
      · rw [l2, ht]; simp only [Part.up, Part.dl, Part.flip]; simp; omega
    · refine key k (s.l0 + k) s.l1 true (by simp [wk, W.mv, ht]) ht rfl ?_ ?_
      · rw [l1, ht]; simp only [Part.up, Part.dl, Part.flip]; simp; omega
      · rw [l2, ht]; simp only [Part.up, Part.dl, Part.flip]; simp; omega
theorem rev_ind {α : Type} {P : List α → Prop} (h0 : P []) (hs : ∀ l x, P l → P (l ++ [x])) : ∀ l, P l := by
  intro l
  have : ∀ n (l : List α), l.length = n → P l := by
    intro n
    induction n with
    | zero => intro l h; rw [List.length_eq_zero_iff.mp h]; exact h0
    | succ n ih =>
      intro l h
      rcases List.eq_nil_or_concat l with rfl | ⟨l', x, rfl⟩
      · exact h0
      · rw [List.concat_eq_append] at h ⊢
        exact hs _ _ (ih l' (by simp at h; exact h))
  exact this _ l rfl
theorem same_all (row : List Part) : (∀ p ∈ row, 0 ≤ p.num) → Same row (wks row) := by
  induction row using rev_ind with
  | h0 => intro _; exact ⟨rfl, rfl, rfl, rfl, rfl⟩
  | hs l x ih =>
    intro h
    rw [wks_snoc]
    exact same_snoc (ih fun p hp => h p (List.mem_append_left _ hp)) (fold_inv _ _ W0_inv) (h x (List.mem_append_right _ (by simp)))
theorem form_shape {row : List Part} (h : ∀ p ∈ row, 0 ≤ p.num) : formP row 0 0 = shapeP (wks row) := by
  have s := same_all row h
  unfold formP shapeP
  rw [s.t, s.on, s.off]
  unfold stgs
  rw [s.st]
theorem stgs_shape {row : List Part} (h : ∀ p ∈ row, 0 ≤ p.num) : (stgs row 0 0).st = (wks row).st := by
  unfold stgs
  rw [(same_all row h).st]
theorem take_ok {row : List Part} (h : ∀ p ∈ row, 0 ≤ p.num) (i : Nat) : ∀ p ∈ row.take i, 0 ≤ p.num := fun p hp => h p (List.mem_of_mem_take hp)
theorem hts_found (row : List Part) (h : ∀ p ∈ row, 0 ≤ p.num) : hts (mvs row).1 = foundL row := by
  have : ∀ i, i ≤ row.length → hts (mvs (row.take i)).1 = Wfd row i := by
    intro i
    induction i with
    | zero => intro _; rfl
    | succ i ih =>
      intro hi
      have hx : row[i]? = some row[i] := List.getElem?_eq_getElem (by omega)
      rw [Wfd_snoc row i _ hx, ← ih (by omega), take_succ' hx, mvs_snoc]
      simp only
      rw [hts_snoc]
      have a1 := (same_all _ (take_ok h i)).a
      have a2 := (same_all _ (take_ok h (i + 1))).a
      rw [take_succ' hx, mvs_snoc, wks_snoc] at a2
      simp only at a2
      rw [hts_last] at a2
      rw [a2]
  have := this row.length (Nat.le_refl _)
  rwa [List.take_length] at this
theorem straight_shape {row : List Part} (h : ∀ p ∈ row, 0 ≤ p.num) : wks (strt row).1 = (wks row).core := (strs_eq row h W0 ([], false) W0_inv rfl rfl).1
theorem strs_ok {row : List Part} {B : Int} (h : ∀ p ∈ row, p.ok B) : ∀ p ∈ (strt row).1, p.ok B := by
  have : ∀ (row : List Part) (z : List Part × Bool), (∀ p ∈ row, p.ok B) → (∀ p ∈ z.1, p.ok B) → ∀ p ∈ (row.foldl stStep z).1, p.ok B := by
    intro row
    induction row with
    | nil => intro z _ h; exact h
    | cons p ps ih =>
      intro z h1 h2
      refine ih _ (fun q hq => h1 q (List.mem_cons_of_mem _ hq)) ?_
      have hp := h1 p List.mem_cons_self
      cases p with
      | turn => exact h2
      | delay k => intro q hq; rcases List.mem_append.mp hq with hq | hq; exact h2 q hq; simp at hq; subst hq; exact hp
      | on k => intro q hq; rcases List.mem_append.mp hq with hq | hq; exact h2 q hq; simp at hq; subst hq; cases z.2 <;> exact hp
      | off k => intro q hq; rcases List.mem_append.mp hq with hq | hq; exact h2 q hq; simp at hq; subst hq; cases z.2 <;> exact hp
  exact this row _ h (by simp)
theorem strs_len (row : List Part) : (strt row).1.length ≤ row.length := by
  have : ∀ (row : List Part) (z : List Part × Bool), (row.foldl stStep z).1.length ≤ z.1.length + row.length := by
    intro row
    induction row with
    | nil => intro z; simp
    | cons p ps ih =>
      intro z
      have := ih (stStep z p)
      have h2 : (stStep z p).1.length ≤ z.1.length + 1 := by cases p <;> simp [stStep]
      simp only [List.foldl_cons, List.length_cons]
      omega
  have := this row ([], false)
  simp at this
  exact this
theorem pv_turn : Part.pv .turn = .tup [.str "turn"] := rfl
theorem pv_on (k : Int) : Part.pv (.on k) = .tup [.str "on", .int k] := rfl
theorem pv_off (k : Int) : Part.pv (.off k) = .tup [.str "off", .int k] := rfl
theorem pv_delay (k : Int) : Part.pv (.delay k) = .tup [.str "delay", .int k] := rfl
theorem num_turn : Part.num .turn = 0 := rfl
theorem num_on (k : Int) : Part.num (.on k) = k := rfl
theorem num_off (k : Int) : Part.num (.off k) = k := rfl
theorem num_delay (k : Int) : Part.num (.delay k) = k := rfl
end Law
end
section
set_option autoImplicit false
/-! The order of forms: plain. -/
namespace Law
open PySem PL
theorem twAll {α : Type} {p : α → Bool} : ∀ {l : List α}, (∀ x ∈ l, p x = true) → l.takeWhile p = l
  | [], _ => rfl
  | x :: l, h => by rw [List.takeWhile_cons, if_pos (h x (by simp)), twAll fun z hz => h z (by simp [hz])]
/-- what stands ahead of the first step of word b beyond k -/
def ahd (S : List Sg) (b : Bool) (k : Int) : List Sg := S.takeWhile fun s => !(s.1 == b && decide (s.2 > k))
def mst (S : List Sg) (b : Bool) : Int := S.foldl (fun a s => if s.1 == b then max a s.2 else a) 0
/-- the most of the other word ahead of the first step of word b beyond k -/
def ph (S : List Sg) (b : Bool) (k : Int) : Int := mst (ahd S b k) (!b)
theorem mst_snoc (S : List Sg) (s : Sg) (b : Bool) : mst (S ++ [s]) b = if s.1 == b then max (mst S b) s.2 else mst S b := by unfold mst; rw [List.foldl_append]; rfl
theorem mst_nn (b : Bool) (S : List Sg) : 0 ≤ mst S b := by
  refine rev_ind (P := fun S => 0 ≤ mst S b) (Int.le_refl 0) ?_ S
  intro l x ih
  rw [mst_snoc]; split <;> omega
/-- beyond k stands none -/
def under (S : List Sg) (b : Bool) (k : Int) : Prop := ∀ s ∈ S, s.1 = b → s.2 ≤ k
theorem ahd_all {S : List Sg} {b : Bool} {k : Int} (h : under S b k) : ahd S b k = S := by
  refine twAll fun s hs => ?_
  by_cases c : s.1 = b
  · have := h s hs c; simp; omega
  · simp [c]
theorem ahd_app {S T : List Sg} {b : Bool} {k : Int} (h : under S b k) : ahd (S ++ T) b k = S ++ ahd T b k := by
  unfold ahd
  rw [List.takeWhile_append_of_pos]
  intro s hs
  by_cases c : s.1 = b
  · have := h s hs c; simp; omega
  · simp [c]
theorem ahd_stop {S T : List Sg} {b : Bool} {k : Int} (h : ¬ under S b k) : ahd (S ++ T) b k = ahd S b k := by
  induction S with
  | nil => exact absurd (fun s hs => (nomatch hs)) h
  | cons s S ih =>
    unfold ahd at *
    rw [List.cons_append, List.takeWhile_cons, List.takeWhile_cons]
    by_cases c : s.1 = b ∧ s.2 > k
    · rw [if_neg (by simp [c.1, c.2]), if_neg (by simp [c.1, c.2])]
    · have hp : (!(s.1 == b && decide (s.2 > k))) = true := by
        simp only [Bool.not_eq_true', Bool.and_eq_false_iff, beq_eq_false_iff_ne, decide_eq_false_iff_not]
        by_cases d : s.1 = b
        · exact .inr fun e => c ⟨d, e⟩
        · exact .inl d
      rw [if_pos hp, if_pos hp, ih]
      intro hu
      refine h fun z hz hb => ?_
      rcases List.mem_cons.mp hz with rfl | hz
      · exact Int.not_lt.mp fun e => c ⟨hb, e⟩
      · exact hu z hz hb
/-! heights -/
def topH (hs : List Int) : Int := hs.foldl max 0
def depH (hs : List Int) : Int := hs.foldl (fun a h => max a (-h)) 0
theorem topH_snoc (hs : List Int) (h : Int) : topH (hs ++ [h]) = max (topH hs) h := by unfold topH; rw [List.foldl_append]; rfl
theorem depH_snoc (hs : List Int) (h : Int) : depH (hs ++ [h]) = max (depH hs) (-h) := by unfold depH; rw [List.foldl_append]; rfl
theorem topH_le {hs : List Int} {k : Int} (hk : 0 ≤ k) : topH hs ≤ k ↔ ∀ h ∈ hs, h ≤ k := by
  refine rev_ind (P := fun hs => topH hs ≤ k ↔ ∀ h ∈ hs, h ≤ k) ?_ ?_ hs
  · simp [topH, hk]
  · intro l x ih
    rw [topH_snoc]
    constructor
    · intro h z hz
      rcases List.mem_append.mp hz with hz | hz
      · exact ih.mp (by omega) z hz
      · simp at hz; subst hz; omega
    · intro h
      have h1 := ih.mpr fun z hz => h z (List.mem_append_left _ hz)
      have h2 := h x (by simp)
      omega
theorem depH_le {hs : List Int} {k : Int} (hk : 0 ≤ k) : depH hs ≤ k ↔ ∀ h ∈ hs, -h ≤ k := by
  refine rev_ind (P := fun hs => depH hs ≤ k ↔ ∀ h ∈ hs, -h ≤ k) ?_ ?_ hs
  · simp [depH, hk]
  · intro l x ih
    rw [depH_snoc]
    constructor
    · intro h z hz
      rcases List.mem_append.mp hz with hz | hz
      · exact ih.mp (by omega) z hz
      · simp at hz; subst hz; omega
    · intro h
      have h1 := ih.mpr fun z hz => h z (List.mem_append_left _ hz)
      have h2 := h x (by simp)
      omega
theorem topH_nn (hs : List Int) : 0 ≤ topH hs := by
  refine rev_ind (P := fun hs => 0 ≤ topH hs) (Int.le_refl 0) ?_ hs
  intro l x ih; rw [topH_snoc]; omega
theorem depH_nn (hs : List Int) : 0 ≤ depH hs := by
  refine rev_ind (P := fun hs => 0 ≤ depH hs) (Int.le_refl 0) ?_ hs
  intro l x ih; rw [depH_snoc]; omega
/-- the ladder of heights -/
structure Lad (hs : List Int) (s : SS) : Prop where
  hi : s.hi = topH hs
  de : s.de = depH hs
  md : mst s.st true = s.hi
  mf : mst s.st false = s.de
  ud : under s.st true s.hi
  uf : under s.st false s.de
  ld : ∀ n, s.st.getLast? = some (true, n) → n = s.hi
  lf : ∀ n, s.st.getLast? = some (false, n) → n = s.de
  pt : ∀ k, 0 ≤ k → ph s.st true k = depH (hs.takeWhile fun h => decide (h ≤ k))
  pf : ∀ k, 0 ≤ k → ph s.st false k = topH (hs.takeWhile fun h => decide (-h ≤ k))
theorem tw_all {hs : List Int} {p : Int → Bool} (h : ∀ x ∈ hs, p x = true) : hs.takeWhile p = hs := twAll h
theorem tw_app {hs : List Int} {p : Int → Bool} (h : ∀ x ∈ hs, p x = true) (x : Int) : (hs ++ [x]).takeWhile p = if p x then hs ++ [x] else hs := by
  rw [List.takeWhile_append_of_pos h]
  cases hp : p x <;> simp [hp]
theorem tw_stop {hs : List Int} {p : Int → Bool} (h : ¬ ∀ x ∈ hs, p x = true) (T : List Int) : (hs ++ T).takeWhile p = hs.takeWhile p := by
  induction hs with
  | nil => exact absurd (fun x hx => (nomatch hx)) h
  | cons x hs ih =>
    rw [List.cons_append, List.takeWhile_cons, List.takeWhile_cons]
    by_cases c : p x = true
    · rw [if_pos c, if_pos c, ih]
      intro hu
      refine h fun z hz => ?_
      rcases List.mem_cons.mp hz with rfl | hz
      · exact c
      · exact hu z hz
    · rw [if_neg c, if_neg c]
theorem mst_le {S : List Sg} {b : Bool} {k : Int} (hk : 0 ≤ k) : mst S b ≤ k ↔ under S b k := by
  refine rev_ind (P := fun S => mst S b ≤ k ↔ under S b k) ?_ ?_ S
  · exact ⟨fun _ s hs => (nomatch hs), fun _ => hk⟩
  · intro l x ih
    rw [mst_snoc]
    constructor
    · intro h s hs hb
      rcases List.mem_append.mp hs with hs | hs
      · refine ih.mp ?_ s hs hb
        split at h <;> omega
      · simp at hs; subst hs
        rw [if_pos (by simpa using hb)] at h; omega
    · intro h
      have h1 := ih.mpr fun s hs hb => h s (List.mem_append_left _ hs) hb
      split
      · rename_i hb
        have := h x (by simp) (by simpa using hb); omega
      · exact h1
theorem top_dec {hs : List Int} {k : Int} (hk : 0 ≤ k) : (∀ x ∈ hs, (decide (x ≤ k)) = true) ↔ topH hs ≤ k := by
  rw [topH_le hk]; constructor <;> intro h x hx <;> have := h x hx <;> simpa using this
theorem dep_dec {hs : List Int} {k : Int} (hk : 0 ≤ k) : (∀ x ∈ hs, (decide (-x ≤ k)) = true) ↔ depH hs ≤ k := by
  rw [depH_le hk]; constructor <;> intro h x hx <;> have := h x hx <;> simpa using this
/-- a height above all -/
theorem lad_up {hs : List Int} {s : SS} (L : Lad hs s) {h : Int} (hh : h > s.hi) : Lad (hs ++ [h]) ⟨h, s.de, ws s.st true h⟩ := by
  have hi0 : 0 ≤ s.hi := by rw [L.hi]; exact topH_nn _
  have de0 : 0 ≤ s.de := by rw [L.de]; exact depH_nn _
  obtain ⟨base, hw, hub, huf, hmf, hmt, hph, hcase⟩ : ∃ base : List Sg, ws s.st true h = base ++ [(true, h)] ∧ under base true s.hi ∧ under base false s.de ∧ mst base false = s.de ∧ mst base true ≤ s.hi ∧ (∀ b k, ¬ under base b k → ahd s.st b k = ahd base b k) ∧ ((base = s.st) ∨ s.st = base ++ [(true, s.hi)]) := by
    by_cases c : s.st.getLast?.map (·.1) = some true
    · rcases List.eq_nil_or_concat s.st with hn | ⟨g, ⟨w, n⟩, hg⟩
      · rw [hn] at c; nomatch c
      · rw [List.concat_eq_append] at hg
        have hw : w = true := by rw [hg] at c; simpa using c
        subst hw
        have hn := L.ld n (by rw [hg]; simp)
        subst hn
        have md := L.md
        have mf := L.mf
        rw [hg, mst_snoc] at md mf
        simp at md mf
        refine ⟨g, ?_, fun z hz hb => L.ud z (by rw [hg]; exact List.mem_append_left _ hz) hb, fun z hz hb => L.uf z (by rw [hg]; exact List.mem_append_left _ hz) hb, mf, by omega, fun b k hu => by rw [hg]; exact ahd_stop hu, .inr hg⟩
        unfold ws
        rw [if_pos c, hg]; simp
    · exact ⟨s.st, by unfold ws; rw [if_neg c], L.ud, L.uf, L.mf, by rw [L.md]; omega, fun _ _ _ => rfl, .inl rfl⟩
  have kk : ∀ k, 0 ≤ k → (topH hs ≤ k ↔ s.hi ≤ k) := fun k _ => by rw [L.hi]
  have kd : ∀ k, 0 ≤ k → (depH hs ≤ k ↔ s.de ≤ k) := fun k _ => by rw [L.de]
  refine ⟨by rw [topH_snoc, ← L.hi]; simp only; omega, by rw [depH_snoc, ← L.de]; simp only; omega, ?_, ?_, ?_, ?_, ?_, ?_, ?_, ?_⟩
  · simp only; rw [hw, mst_snoc]; simp; omega
  · simp only; rw [hw, mst_snoc]; simp; exact hmf
  · intro z hz hb
    simp only at hz ⊢
    rw [hw] at hz
    rcases List.mem_append.mp hz with hz | hz
    · have := hub z hz hb; omega
    · simp at hz; subst hz; exact Int.le_refl _
  · intro z hz hb
    simp only at hz ⊢
    rw [hw] at hz
    rcases List.mem_append.mp hz with hz | hz
    · exact huf z hz hb
    · simp at hz; subst hz; nomatch hb
  · intro n hn; simp only at hn ⊢; rw [hw] at hn; simp at hn; exact hn.symm
  · intro n hn; simp only at hn; rw [hw] at hn; simp at hn
  · intro k hk
    simp only
    rw [hw]
    by_cases hu : under base true k
    · have e1 : ph (base ++ [(true, h)]) true k = s.de := by
        unfold ph
        rw [ahd_app hu]
        unfold ahd
        by_cases c : h > k
        · rw [List.takeWhile_cons, if_neg (by simp [c]), List.append_nil]; exact hmf
        · rw [List.takeWhile_cons, if_pos (by simp; omega)]
          rw [List.takeWhile_nil, mst_snoc]; simp; exact hmf
      rw [e1]
      by_cases c : s.hi ≤ k
      · rw [tw_app ((top_dec hk).mpr ((kk k hk).mpr c))]
        split
        · rw [depH_snoc, ← L.de]; omega
        · exact L.de
      · rw [tw_stop (fun a => c ((kk k hk).mp ((top_dec hk).mp a)))]
        rw [← L.pt k hk]
        rcases hcase with hb | hb
        · exfalso
          rw [hb] at hu
          have := (mst_le hk).mpr hu
          rw [L.md] at this; omega
        · unfold ph
          rw [hb, ahd_app hu]
          unfold ahd
          rw [List.takeWhile_cons, if_neg (by simp; omega), List.append_nil]
          exact hmf.symm
    · have c : ¬ s.hi ≤ k := fun c => hu fun z hz hb => Int.le_trans (hub z hz hb) c
      rw [tw_stop (fun a => c ((kk k hk).mp ((top_dec hk).mp a))), ← L.pt k hk]
      unfold ph
      rw [ahd_stop hu, hph _ _ hu]
  · intro k hk
    simp only
    rw [hw]
    by_cases hu : under base false k
    · have hdk : s.de ≤ k := by rw [← hmf]; exact (mst_le hk).mpr hu
      have e1 : ph (base ++ [(true, h)]) false k = h := by
        unfold ph
        rw [ahd_app hu]
        unfold ahd
        rw [List.takeWhile_cons, if_pos (by simp), List.takeWhile_nil, mst_snoc]
        simp; omega
      rw [e1, tw_app ((dep_dec hk).mpr ((kd k hk).mpr hdk)), if_pos (by simp; omega), topH_snoc, ← L.hi]
      omega
    · have c : ¬ s.de ≤ k := fun c => hu fun z hz hb => Int.le_trans (huf z hz hb) c
      rw [tw_stop (fun a => c ((kd k hk).mp ((dep_dec hk).mp a))), ← L.pf k hk]
      unfold ph
      rw [ahd_stop hu, hph _ _ hu]
/-! the other way about -/
def sws (S : List Sg) : List Sg := S.map fun s => (!s.1, s.2)
theorem ff_id : ((fun s : Sg => ((!s.1, s.2) : Sg)) ∘ fun s => (!s.1, s.2)) = id := by funext s; simp
theorem sws_sws (S : List Sg) : sws (sws S) = S := by unfold sws; rw [List.map_map, ff_id, List.map_id]
theorem ahd_sws (S : List Sg) (b : Bool) (k : Int) : ahd (sws S) b k = sws (ahd S (!b) k) := by
  unfold ahd sws
  rw [List.takeWhile_map]
  congr 2
  funext s
  simp only [Function.comp]
  cases s.1 <;> cases b <;> rfl
theorem mst_sws (b : Bool) (S : List Sg) : mst (sws S) b = mst S (!b) := by
  refine rev_ind (P := fun S => mst (sws S) b = mst S (!b)) rfl ?_ S
  intro l x ih
  have e : sws (l ++ [x]) = sws l ++ [(!x.1, x.2)] := by simp [sws]
  rw [e, mst_snoc, mst_snoc, ih]
  cases x.1 <;> cases b <;> rfl
theorem ph_sws (S : List Sg) (b : Bool) (k : Int) : ph (sws S) b k = ph S (!b) k := by unfold ph; rw [ahd_sws, mst_sws]
theorem under_sws {S : List Sg} {b : Bool} {k : Int} (h : under S (!b) k) : under (sws S) b k := by
  intro z hz hb
  obtain ⟨y, hy, rfl⟩ := List.mem_map.mp hz
  refine h y hy ?_
  simp only at hb
  rw [← hb]; simp
def ngs (hs : List Int) : List Int := hs.map fun h => -h
theorem ngs_snoc (hs : List Int) (h : Int) : ngs (hs ++ [h]) = ngs hs ++ [-h] := by simp [ngs]
theorem ngs_ngs (hs : List Int) : ngs (ngs hs) = hs := by
  unfold ngs
  rw [List.map_map]
  have : ((fun h : Int => -h) ∘ fun h => -h) = id := by funext h; simp
  rw [this, List.map_id]
theorem topH_ngs (hs : List Int) : topH (ngs hs) = depH hs := by
  refine rev_ind (P := fun hs => topH (ngs hs) = depH hs) rfl ?_ hs
  intro l x ih; rw [ngs_snoc, topH_snoc, depH_snoc, ih]
theorem depH_ngs (hs : List Int) : depH (ngs hs) = topH hs := by rw [← topH_ngs, ngs_ngs]
theorem tw_ngs (hs : List Int) (p : Int → Bool) : (ngs hs).takeWhile p = ngs (hs.takeWhile fun h => p (-h)) := by unfold ngs; rw [List.takeWhile_map]; rfl
def swS (s : SS) : SS := ⟨s.de, s.hi, sws s.st⟩
theorem lad_sw {hs : List Int} {s : SS} (L : Lad hs s) : Lad (ngs hs) (swS s) := by
  refine ⟨by rw [topH_ngs]; exact L.de, by rw [depH_ngs]; exact L.hi, by show mst (sws s.st) true = s.de; rw [mst_sws]; exact L.mf, by show mst (sws s.st) false = s.hi; rw [mst_sws]; exact L.md, under_sws L.uf, under_sws L.ud, ?_, ?_, ?_, ?_⟩
  · intro n hn
    have hn' : (sws s.st).getLast? = some (true, n) := hn
    unfold sws at hn'
    rw [List.getLast?_map] at hn'
    cases hg : s.st.getLast? with
    | none => rw [hg] at hn'; nomatch hn'
    | some z =>
      rw [hg] at hn'
      simp at hn'
      refine L.lf n ?_
      rw [hg]
      exact congrArg some (Prod.ext (by simpa using hn'.1) hn'.2)
  · intro n hn
    have hn' : (sws s.st).getLast? = some (false, n) := hn
    unfold sws at hn'
    rw [List.getLast?_map] at hn'
    cases hg : s.st.getLast? with
    | none => rw [hg] at hn'; nomatch hn'
    | some z =>
      rw [hg] at hn'
      simp at hn'
      refine L.ld n ?_
      rw [hg]
      exact congrArg some (Prod.ext (by simpa using hn'.1) hn'.2)
  · intro k hk
    show ph (sws s.st) true k = _
    rw [ph_sws, tw_ngs, depH_ngs]
    exact L.pf k hk
  · intro k hk
    show ph (sws s.st) false k = _
    rw [ph_sws, tw_ngs, topH_ngs]
    simp only [Int.neg_neg]
    exact L.pt k hk
theorem ws_sws (f : List Sg) (b : Bool) (n : Int) : sws (ws (sws f) b n) = ws f (!b) n := by
  unfold ws
  have e : (sws f).getLast?.map (·.1) = some b ↔ f.getLast?.map (·.1) = some (!b) := by
    unfold sws
    rw [List.getLast?_map]
    cases f.getLast? with
    | none => simp
    | some z => cases h : z.1 <;> cases b <;> simp [h]
  by_cases c : f.getLast?.map (·.1) = some (!b)
  · rw [if_pos c, if_pos (e.mpr c)]
    have := sws_sws f.dropLast
    unfold sws at this ⊢
    rw [← List.map_dropLast, List.map_append, this]; rfl
  · rw [if_neg c, if_neg (fun h => c (e.mp h))]
    have := sws_sws f
    unfold sws at this ⊢
    rw [List.map_append, this]; rfl
theorem swS_swS (s : SS) : swS (swS s) = s := by unfold swS; simp only [sws_sws]
theorem lad_snoc {hs : List Int} {s : SS} (L : Lad hs s) (h : Int) : Lad (hs ++ [h]) (stg s h) := by
  have hi0 : 0 ≤ s.hi := by rw [L.hi]; exact topH_nn _
  have de0 : 0 ≤ s.de := by rw [L.de]; exact depH_nn _
  unfold stg
  by_cases c : h > s.hi
  · rw [if_pos c]; exact lad_up L c
  · rw [if_neg c]
    by_cases d : -h > s.de
    · rw [if_pos d]
      have h1 := lad_sw (lad_up (lad_sw L) (h := -h) d)
      rw [← ngs_snoc, ngs_ngs] at h1
      have e : swS ⟨-h, (swS s).de, ws (swS s).st true (-h)⟩ = ⟨s.hi, -h, ws s.st false (-h)⟩ := by
        show (⟨s.hi, -h, sws (ws (sws s.st) true (-h))⟩ : SS) = _
        rw [ws_sws]; rfl
      rw [e] at h1
      exact h1
    · rw [if_neg d]
      refine ⟨by rw [topH_snoc, ← L.hi]; omega, by rw [depH_snoc, ← L.de]; omega, L.md, L.mf, L.ud, L.uf, L.ld, L.lf, ?_, ?_⟩
      · intro k hk
        rw [L.pt k hk]
        by_cases a : ∀ x ∈ hs, decide (x ≤ k) = true
        · have hk2 := (top_dec hk).mp a
          rw [tw_app a, if_pos (by simp; have := L.hi; omega), tw_all a, depH_snoc, ← L.de]
          omega
        · rw [tw_stop a]
      · intro k hk
        rw [L.pf k hk]
        by_cases a : ∀ x ∈ hs, decide (-x ≤ k) = true
        · have hk2 := (dep_dec hk).mp a
          rw [tw_app a, if_pos (by simp; have := L.de; omega), tw_all a, topH_snoc, ← L.hi]
          omega
        · rw [tw_stop a]
theorem lad_all (hs : List Int) : Lad hs (hs.foldl stg ⟨0, 0, []⟩) := by
  refine rev_ind (P := fun hs => Lad hs (hs.foldl stg ⟨0, 0, []⟩)) ?_ ?_ hs
  · exact ⟨rfl, rfl, rfl, rfl, fun z hz => (nomatch hz), fun z hz => (nomatch hz), fun n hn => (nomatch hn), fun n hn => (nomatch hn), fun _ _ => rfl, fun _ _ => rfl⟩
  · intro l x ih
    rw [List.foldl_append]
    exact lad_snoc ih x
end Law
end
section
set_option autoImplicit false
/-! Low beside low: plain. -/
namespace Law
open PySem PL
def Low (S T : List Sg) : Prop := ∀ k, 0 ≤ k → ph S true k ≤ ph T true k ∧ ph T false k ≤ ph S false k
def bnds (S T : List Sg) : List Int := 0 :: (S ++ T).map (·.2)
def LowB (S T : List Sg) : Prop := ∀ k ∈ bnds S T, ph S true k ≤ ph T true k ∧ ph T false k ≤ ph S false k
/-- the greatest of the numbers that is not beyond k -/
def flr (L : List Int) (k : Int) : Int := L.foldl (fun a x => if x ≤ k then max a x else a) 0
theorem flr_spec (L : List Int) {k : Int} (hk : 0 ≤ k) : (flr L k = 0 ∨ flr L k ∈ L) ∧ 0 ≤ flr L k ∧ flr L k ≤ k ∧ ∀ x ∈ L, x ≤ k → x ≤ flr L k := by
  refine rev_ind (P := fun L => (flr L k = 0 ∨ flr L k ∈ L) ∧ 0 ≤ flr L k ∧ flr L k ≤ k ∧ ∀ x ∈ L, x ≤ k → x ≤ flr L k) ?_ ?_ L
  · exact ⟨.inl rfl, Int.le_refl _, hk, fun x hx => (nomatch hx)⟩
  · intro l x ⟨h1, h2, h3, h4⟩
    have e : flr (l ++ [x]) k = if x ≤ k then max (flr l k) x else flr l k := by unfold flr; rw [List.foldl_append]; rfl
    rw [e]
    by_cases c : x ≤ k
    · rw [if_pos c]
      refine ⟨?_, by omega, by omega, fun z hz hzk => ?_⟩
      · by_cases d : x ≤ flr l k
        · rw [Int.max_eq_left d]
          rcases h1 with h1 | h1
          · exact .inl h1
          · exact .inr (List.mem_append_left _ h1)
        · rw [Int.max_eq_right (by omega)]; exact .inr (by simp)
      · rcases List.mem_append.mp hz with hz | hz
        · have := h4 z hz hzk; omega
        · simp at hz; subst hz; omega
    · rw [if_neg c]
      refine ⟨?_, h2, h3, fun z hz hzk => ?_⟩
      · rcases h1 with h1 | h1
        · exact .inl h1
        · exact .inr (List.mem_append_left _ h1)
      · rcases List.mem_append.mp hz with hz | hz
        · exact h4 z hz hzk
        · simp at hz; subst hz; omega
theorem ph_flr (S : List Sg) (b : Bool) {k j : Int} (h : ∀ s ∈ S, s.2 ≤ k ↔ s.2 ≤ j) : ph S b k = ph S b j := by
  unfold ph ahd
  have e : S.takeWhile (fun s => !(s.1 == b && decide (s.2 > k))) = S.takeWhile (fun s => !(s.1 == b && decide (s.2 > j))) := by
    induction S with
    | nil => rfl
    | cons s S ih =>
      have hs := h s (by simp)
      have hd : decide (s.2 > k) = decide (s.2 > j) := by congr 1; simp only [eq_iff_iff]; omega
      rw [List.takeWhile_cons, List.takeWhile_cons, hd, ih fun z hz => h z (by simp [hz])]
  rw [e]
theorem low_iff (S T : List Sg) (hn : ∀ s ∈ S ++ T, 0 ≤ s.2) : LowB S T ↔ Low S T := by
  constructor
  · intro h k hk
    obtain ⟨a, b, c, d⟩ := flr_spec ((S ++ T).map (·.2)) hk
    have hm : flr ((S ++ T).map (·.2)) k ∈ bnds S T := by
      unfold bnds
      rcases a with a | a
      · rw [a]; simp
      · exact List.mem_cons_of_mem _ a
    have e : ∀ s ∈ S ++ T, s.2 ≤ k ↔ s.2 ≤ flr ((S ++ T).map (·.2)) k := fun s hs => ⟨fun h => d s.2 (List.mem_map.mpr ⟨s, hs, rfl⟩) h, fun h => by omega⟩
    have := h _ hm
    rw [← ph_flr S true fun s hs => e s (List.mem_append_left _ hs), ← ph_flr T true fun s hs => e s (List.mem_append_right _ hs), ← ph_flr S false fun s hs => e s (List.mem_append_left _ hs), ← ph_flr T false fun s hs => e s (List.mem_append_right _ hs)] at this
    exact this
  · intro h k hk
    unfold bnds at hk
    refine h k ?_
    rcases List.mem_cons.mp hk with rfl | hk
    · exact Int.le_refl _
    · obtain ⟨s, hs, rfl⟩ := List.mem_map.mp hk; exact hn s hs
/-- the same of heights -/
def LowH (A B : List Int) : Prop := ∀ k, 0 ≤ k → depH (A.takeWhile fun h => decide (h ≤ k)) ≤ depH (B.takeWhile fun h => decide (h ≤ k)) ∧ topH (B.takeWhile fun h => decide (-h ≤ k)) ≤ topH (A.takeWhile fun h => decide (-h ≤ k))
theorem lowH_iff {A B : List Int} {s t : SS} (hs : Lad A s) (ht : Lad B t) : Low s.st t.st ↔ LowH A B := by
  constructor
  · intro h k hk
    have := h k hk
    rw [hs.pt k hk, ht.pt k hk, hs.pf k hk, ht.pf k hk] at this
    exact this
  · intro h k hk
    rw [hs.pt k hk, ht.pt k hk, hs.pf k hk, ht.pf k hk]
    exact h k hk
theorem lowH_refl (A : List Int) : LowH A A := fun _ _ => ⟨Int.le_refl _, Int.le_refl _⟩
theorem lowH_trans {A B C : List Int} (h1 : LowH A B) (h2 : LowH B C) : LowH A C := fun k hk => ⟨Int.le_trans (h1 k hk).1 (h2 k hk).1, Int.le_trans (h2 k hk).2 (h1 k hk).2⟩
theorem lowH_ngs {A B : List Int} (h : LowH A B) : LowH (ngs B) (ngs A) := by
  intro k hk
  rw [tw_ngs, tw_ngs, tw_ngs, tw_ngs, depH_ngs, depH_ngs, topH_ngs, topH_ngs]
  simp only [Int.neg_neg]
  exact ⟨(h k hk).2, (h k hk).1⟩
theorem low_refl (S : List Sg) : Low S S := fun _ _ => ⟨Int.le_refl _, Int.le_refl _⟩
theorem low_trans {A B C : List Sg} (h1 : Low A B) (h2 : Low B C) : Low A C := fun k hk => ⟨Int.le_trans (h1 k hk).1 (h2 k hk).1, Int.le_trans (h2 k hk).2 (h1 k hk).2⟩
/-! put together -/
def shH (h : Int) (A : List Int) : List Int := A.map (· + h)
theorem depH_app (A B : List Int) : depH (A ++ B) = max (depH A) (depH B) := by
  refine rev_ind (P := fun B => depH (A ++ B) = max (depH A) (depH B)) ?_ ?_ B
  · have := depH_nn A; simp [depH]; rw [show depH A = List.foldl (fun a h => max a (-h)) 0 A from rfl] at this; omega
  · intro l x ih; rw [← List.append_assoc, depH_snoc, depH_snoc, ih]; omega
theorem topH_app (A B : List Int) : topH (A ++ B) = max (topH A) (topH B) := by
  have := depH_app (ngs A) (ngs B)
  have e : ngs A ++ ngs B = ngs (A ++ B) := by simp [ngs]
  rw [e, depH_ngs, depH_ngs, depH_ngs] at this
  exact this
theorem depH_sh (h : Int) (A : List Int) {d : Int} (hd : 0 ≤ d) (hh : -h ≤ d) : max d (depH (shH h A)) = max d (depH A - h) := by
  refine rev_ind (P := fun A => max d (depH (shH h A)) = max d (depH A - h)) ?_ ?_ A
  · simp [shH, depH]; omega
  · intro l x ih
    have e : shH h (l ++ [x]) = shH h l ++ [x + h] := by simp [shH]
    rw [e, depH_snoc, depH_snoc]; omega
theorem tw_sh (h k : Int) (A : List Int) : (shH h A).takeWhile (fun x => decide (x ≤ k)) = shH h (A.takeWhile fun x => decide (x ≤ k - h)) := by
  unfold shH
  rw [List.takeWhile_map]
  congr 2
  funext x
  simp only [Function.comp]
  congr 1; simp only [eq_iff_iff]; omega
theorem ngs_sh (h : Int) (A : List Int) : ngs (shH h A) = shH (-h) (ngs A) := by
  unfold ngs shH
  rw [List.map_map, List.map_map]
  congr 1
  funext x; simp only [Function.comp]; omega
theorem ngs_app (A B : List Int) : ngs (A ++ B) = ngs A ++ ngs B := by simp [ngs]
/-- the dips of what is put together, ahead of the first height beyond k -/
theorem dep_cat (C A : List Int) (h k : Int) (hk : 0 ≤ k) (hh : -h ≤ depH C) : depH ((C ++ shH h A).takeWhile fun x => decide (x ≤ k)) = if topH C ≤ k then max (depH C) (depH (A.takeWhile fun x => decide (x ≤ k - h)) - h) else depH (C.takeWhile fun x => decide (x ≤ k)) := by
  by_cases c : topH C ≤ k
  · rw [if_pos c, List.takeWhile_append_of_pos ((top_dec hk).mpr c), tw_sh, depH_app, depH_sh h _ (depH_nn C) hh]
  · rw [if_neg c, tw_stop (fun a => c ((top_dec hk).mp a))]
theorem tw_sub {p q : Int → Bool} (hpq : ∀ x, p x = true → q x = true) : ∀ A : List Int, ∃ T, A.takeWhile q = A.takeWhile p ++ T
  | [] => ⟨[], rfl⟩
  | x :: A => by
    obtain ⟨T, hT⟩ := tw_sub hpq A
    rw [List.takeWhile_cons, List.takeWhile_cons]
    by_cases c : p x = true
    · rw [if_pos c, if_pos (hpq x c), hT]; exact ⟨T, rfl⟩
    · rw [if_neg c]; exact ⟨_, rfl⟩
theorem dep_more {A : List Int} {j k : Int} (h : j ≤ k) : depH (A.takeWhile fun x => decide (x ≤ j)) ≤ depH (A.takeWhile fun x => decide (x ≤ k)) := by
  obtain ⟨T, hT⟩ := tw_sub (p := fun x => decide (x ≤ j)) (q := fun x => decide (x ≤ k)) (fun x hx => by simp at hx ⊢; omega) A
  rw [hT, depH_app]; omega
theorem dep_le_all (A : List Int) (p : Int → Bool) : depH (A.takeWhile p) ≤ depH A := by
  obtain ⟨T, hT⟩ := tw_sub (p := p) (q := fun _ => true) (fun _ _ => rfl) A
  have e : A.takeWhile (fun _ => true) = A := twAll fun _ _ => rfl
  rw [e] at hT
  conv => rhs; rw [hT]
  rw [depH_app]; omega
/-- half of LowH -/
def LowD (A B : List Int) : Prop := ∀ k, 0 ≤ k → depH (A.takeWhile fun h => decide (h ≤ k)) ≤ depH (B.takeWhile fun h => decide (h ≤ k))
theorem lowH_D (A B : List Int) : LowH A B ↔ LowD A B ∧ LowD (ngs B) (ngs A) := by
  constructor
  · intro h; exact ⟨fun k hk => (h k hk).1, fun k hk => (lowH_ngs h k hk).1⟩
  · rintro ⟨h1, h2⟩ k hk
    refine ⟨h1 k hk, ?_⟩
    have := h2 k hk
    rw [tw_ngs, tw_ngs, depH_ngs, depH_ngs] at this
    exact this
/-- where it stands at the end -/
def Ends (A : List Int) (h : Int) : Prop := -h ≤ depH A ∧ h ≤ topH A
theorem ends_ngs {A : List Int} {h : Int} (e : Ends A h) : Ends (ngs A) (-h) := ⟨by rw [depH_ngs]; have := e.2; omega, by rw [topH_ngs]; exact e.1⟩
theorem lowD_behind {C A B : List Int} {h : Int} (e : Ends C h) (H : LowD A B) : LowD (C ++ shH h A) (C ++ shH h B) := by
  intro k hk
  rw [dep_cat C A h k hk e.1, dep_cat C B h k hk e.1]
  by_cases c : topH C ≤ k
  · rw [if_pos c, if_pos c]
    have := H (k - h) (by have := e.2; omega)
    omega
  · rw [if_neg c, if_neg c]; exact Int.le_refl _
theorem lowH_behind {C A B : List Int} {h : Int} (e : Ends C h) (H : LowH A B) : LowH (C ++ shH h A) (C ++ shH h B) := by
  obtain ⟨h1, h2⟩ := (lowH_D A B).mp H
  refine (lowH_D _ _).mpr ⟨lowD_behind e h1, ?_⟩
  rw [ngs_app, ngs_app, ngs_sh, ngs_sh]
  exact lowD_behind (ends_ngs e) h2
theorem lowD_ahead {A B C : List Int} {g h : Int} (ea : Ends A g) (eb : Ends B h) (hgh : h ≤ g) (htop : topH B ≤ topH A) (H : LowD A B) : LowD (A ++ shH g C) (B ++ shH h C) := by
  intro k hk
  rw [dep_cat A C g k hk ea.1, dep_cat B C h k hk eb.1]
  by_cases c : topH A ≤ k
  · rw [if_pos c, if_pos (by omega)]
    have h1 := H k hk
    rw [twAll ((top_dec hk).mpr c), twAll ((top_dec hk).mpr (by omega : topH B ≤ k))] at h1
    have := dep_more (A := C) (j := k - g) (k := k - h) (by omega)
    omega
  · rw [if_neg c]
    have h1 := H k hk
    by_cases d : topH B ≤ k
    · rw [if_pos d]
      have := dep_le_all B (fun x => decide (x ≤ k))
      omega
    · rw [if_neg d]; exact h1
theorem lowH_ends {A B : List Int} (H : LowH A B) : topH B ≤ topH A ∧ depH A ≤ depH B := by
  have k0 := depH_nn A; have k1 := depH_nn B; have k2 := topH_nn A; have k3 := topH_nn B
  constructor
  · have h := (H (max (depH A) (depH B)) (by omega)).2
    rw [twAll ((dep_dec (by omega)).mpr (by omega)), twAll ((dep_dec (by omega)).mpr (by omega))] at h
    exact h
  · have h := (H (max (topH A) (topH B)) (by omega)).1
    rw [twAll ((top_dec (by omega)).mpr (by omega)), twAll ((top_dec (by omega)).mpr (by omega))] at h
    exact h
theorem lowH_ahead {A B C : List Int} {g h : Int} (ea : Ends A g) (eb : Ends B h) (hgh : h ≤ g) (H : LowH A B) : LowH (A ++ shH g C) (B ++ shH h C) := by
  obtain ⟨h1, h2⟩ := (lowH_D A B).mp H
  obtain ⟨t1, t2⟩ := lowH_ends H
  refine (lowH_D _ _).mpr ⟨lowD_ahead ea eb hgh t1 h1, ?_⟩
  rw [ngs_app, ngs_app, ngs_sh, ngs_sh]
  exact lowD_ahead (ends_ngs eb) (ends_ngs ea) (by omega) (by rw [topH_ngs, topH_ngs]; exact t2) h2
end Law
end
section
set_option autoImplicit false
namespace Law
open PySem PL
theorem part_good {p : Part} {B : Nat} (hB : B ≤ 10 ^ 100) (h : p.ok B) : Good 3 p.pv := by
  have h1 := h.1
  have h2 := h.2
  have hs : sml p.num := by
    have : (10 ^ 100 : Nat) < 10 ^ 200 := by decide +kernel
    show p.num.natAbs < 10 ^ 200
    omega
  cases p <;> simp only [Part.num] at hs
  · exact (Good.tup (Goods.cons (Good.str (by decide +kernel)) Goods.nil) (by simp)).mono (by decide)
  all_goals exact (Good.tup (Goods.cons (Good.str (by decide +kernel)) (Goods.cons (Good.int hs) Goods.nil)) (by simp)).mono (by decide)
theorem part_dp (p : Part) : p.pv.pd.depth = 1 := by cases p <;> simp [Part.pv]
theorem pvs_good {row : List Part} {B : Nat} (hB : B ≤ 10 ^ 100) (h : ∀ p ∈ row, p.ok B) : Good (3 * row.length + 1) (pvs row) :=
  Good.tup (Goods.map Part.pv row fun p hp => part_good hB (h p hp)) (dps_map _ _ _ fun p _ => by rw [part_dp p]; decide)
theorem sg_good {s : Sg} (h : sml s.2) : Good 3 (Sg.pv s) := ⟨Sg_data s, Sg_sm s h, by rw [Sg_wt s]; decide, by rw [Sg_dp s]; decide⟩
theorem ints_good {l : List Int} (h : ∀ x ∈ l, sml x) : Good (l.length + 1) (.tup (l.map .int)) := by
  have := Good.tup (Goods.map PV.int l fun x hx => Good.int (h x hx)) (dps_map _ _ _ fun x _ => by simp)
  simpa using this
structure Fit (row : List Part) : Prop where
  pos : ∀ p ∈ row, 0 ≤ p.num
  ex : ∃ B : Nat, B ≤ 10 ^ 100 ∧ ∀ p ∈ row, p.ok B
  len : row.length ≤ 100
theorem fit_sml {row : List Part} (h : Fit row) (i : Nat) : sml (wks (row.take i)).at_ ∧ (∀ x ∈ (wks (row.take i)).st, sml x.2) ∧ (wks (row.take i)).st.length ≤ 200 := by
  obtain ⟨B, hB, hok⟩ := h.ex
  have o := wks_ok (row.take i) (fun p hp => hok p (List.mem_of_mem_take hp)) W0 0 0 ⟨by simp [W0], by simp [W0], by simp [W0]⟩
  have hl : (row.take i).length ≤ 100 := by have := h.len; simp; omega
  have hb : 0 + B * (row.take i).length < 10 ^ 200 := by
    have h2 := Nat.mul_le_mul hB hl
    have h3 : (10 ^ 100 * 100 : Nat) < 10 ^ 200 := by decide +kernel
    omega
  exact ⟨Nat.lt_of_le_of_lt o.at_ hb, fun x hx => Nat.lt_of_le_of_lt (o.st x hx) hb, by have := o.len; change _ ≤ 0 + 2 * _ at this; exact Nat.le_trans this (by omega)⟩
theorem found_sml {row : List Part} (h : Fit row) : ∀ x ∈ foundL row, sml x := by
  intro x hx
  unfold foundL Wfd at hx
  obtain ⟨i, _, rfl⟩ := List.mem_map.mp hx
  exact (fit_sml h _).1
theorem found_len (row : List Part) : (foundL row).length = row.length := by simp [foundL, Wfd]
theorem late_sml {row : List Part} (h : Fit row) : sml (wks row).l0 ∧ sml (wks row).l1 := by
  obtain ⟨B, hB, hok⟩ := h.ex
  have : ∀ (row : List Part) (s : W) (b : Nat), (∀ p ∈ row, p.ok B) → s.l0.natAbs ≤ b → s.l1.natAbs ≤ b → (row.foldl wk s).l0.natAbs ≤ b + B * row.length ∧ (row.foldl wk s).l1.natAbs ≤ b + B * row.length := by
    intro row
    induction row with
    | nil => intro s b _ h1 h2; simpa using ⟨h1, h2⟩
    | cons p ps ih =>
      intro s b h0 h1 h2
      have hp := h0 p List.mem_cons_self
      have a1 := hp.1
      have a2 := hp.2
      have f3 : ∀ z : W, z.upH.upL.l0 = z.l0 := by
        intro z; unfold W.upH W.upL; by_cases c1 : z.at_ > z.hi
        · simp only [if_pos c1]; split <;> rfl
        · simp only [if_neg c1]; split <;> rfl
      have f4 : ∀ z : W, z.upH.upL.l1 = z.l1 := by
        intro z; unfold W.upH W.upL; by_cases c1 : z.at_ > z.hi
        · simp only [if_pos c1]; split <;> rfl
        · simp only [if_neg c1]; split <;> rfl
      have st : (wk s p).l0.natAbs ≤ b + B ∧ (wk s p).l1.natAbs ≤ b + B := by
        unfold wk
        rw [f3, f4]
        cases p <;> simp only [Part.num] at a1 a2 <;> simp only [W.mv]
        · omega
        · split <;> simp <;> omega
        · split <;> simp <;> omega
        · omega
      have := ih _ (b + B) (fun q hq => h0 q (List.mem_cons_of_mem _ hq)) st.1 st.2
      simp only [List.foldl_cons, List.length_cons, Nat.mul_add, Nat.mul_one]
      omega
  have o := this row W0 0 hok (by simp [W0]) (by simp [W0])
  have hb : 0 + B * row.length < 10 ^ 200 := by
    have h2 := Nat.mul_le_mul hB h.len
    have h3 : (10 ^ 100 * 100 : Nat) < 10 ^ 200 := by decide +kernel
    omega
  exact ⟨Nat.lt_of_le_of_lt o.1 hb, Nat.lt_of_le_of_lt o.2 hb⟩
def tl (s : W) : List PV := [.int s.l0, .int s.l1, .tup (s.st.map Sg.pv)]
theorem st_good {row : List Part} (h : Fit row) : Good 601 (.tup ((wks row).st.map Sg.pv)) := by
  have f := fit_sml h row.length
  rw [List.take_length] at f
  exact (Good.tup (Goods.map Sg.pv _ fun x hx => sg_good (f.2.1 x hx)) (dps_map _ _ _ fun p _ => by rw [Sg_dp p]; decide)).mono (by have := f.2.2; omega)
theorem tl_good {row : List Part} (h : Fit row) : Goods 603 (tl (wks row)) := (Goods.cons (Good.int (late_sml h).1) (Goods.cons (Good.int (late_sml h).2) (Goods.cons (st_good h) Goods.nil))).mono (by decide)
theorem st_dp (s : W) : PyData.depthAll (PV.pds (s.st.map Sg.pv)) ≤ 1 := dps_map _ _ _ fun p _ => by rw [Sg_dp p]; decide
theorem shape_good' {row : List Part} (h : Fit row) (b : Bool) : Good 605 (.tup (.bl b :: tl (wks row))) :=
  (Good.tup (Goods.cons (Good.bl b) (tl_good h)) (by have := st_dp (wks row); simp [tl]; omega)).mono (by decide)
theorem found_good {row : List Part} (h : Fit row) : Good 101 (.tup ((foundL row).map .int)) := (ints_good (found_sml h)).mono (by rw [found_len]; have := h.len; omega)
theorem fit_straight {row : List Part} (h : Fit row) : Fit (strt row).1 := by
  obtain ⟨B, hB, hok⟩ := h.ex
  exact ⟨fun p hp => (strs_ok hok p hp).1, ⟨B, hB, strs_ok hok⟩, Nat.le_trans (strs_len row) h.len⟩
theorem fit_turn {row : List Part} (h : Fit row) (hl : row.length < 100) : Fit (row ++ [.turn]) := by
  obtain ⟨B, hB, hok⟩ := h.ex
  refine ⟨fun p hp => ?_, ⟨B, hB, fun p hp => ?_⟩, by simp; omega⟩
  · rcases List.mem_append.mp hp with hp | hp
    · exact h.pos p hp
    · simp at hp; subst hp; simp [Part.num]
  · rcases List.mem_append.mp hp with hp | hp
    · exact hok p hp
    · simp at hp; subst hp; simp [Part.ok, Part.num]
theorem hts_sml {row : List Part} (h : Fit row) : ∀ x ∈ hts (mvs row).1, sml x := by rw [hts_found row h.pos]; exact found_sml h
end Law
end
section
set_option autoImplicit false
/-! Rows put together: latenesses, heights, and the order. Plain. -/
namespace Law
open PySem PL
/-- how a part moves: at, on late, off late -/
def dA (t : Bool) : Part → Int
  | .on k => if t then -k else k
  | .off k => if t then k else -k
  | _ => 0
def d0 (t : Bool) : Part → Int
  | .turn => 0
  | .delay k => k
  | .on k => if t then 0 else k
  | .off k => if t then k else 0
def d1 (t : Bool) : Part → Int
  | .turn => 0
  | .delay k => k
  | .on k => if t then k else 0
  | .off k => if t then 0 else k
theorem upH_f (s : W) : s.upH.t = s.t ∧ s.upH.at_ = s.at_ ∧ s.upH.l0 = s.l0 ∧ s.upH.l1 = s.l1 := by unfold W.upH; split <;> exact ⟨rfl, rfl, rfl, rfl⟩
theorem upL_f (s : W) : s.upL.t = s.t ∧ s.upL.at_ = s.at_ ∧ s.upL.l0 = s.l0 ∧ s.upL.l1 = s.l1 := by unfold W.upL; split <;> exact ⟨rfl, rfl, rfl, rfl⟩
theorem wk_f (s : W) (p : Part) : (wk s p).t = p.flip s.t ∧ (wk s p).at_ = s.at_ + dA s.t p ∧ (wk s p).l0 = s.l0 + d0 s.t p ∧ (wk s p).l1 = s.l1 + d1 s.t p := by
  have a := upL_f (s.mv p).upH
  have b := upH_f (s.mv p)
  unfold wk
  rw [a.1, a.2.1, a.2.2.1, a.2.2.2, b.1, b.2.1, b.2.2.1, b.2.2.2]
  cases p <;> cases h : s.t <;> simp [W.mv, dA, d0, d1, Part.flip, h] <;> omega
structure Cat (a b : List Part) : Prop where
  t : (wks (a ++ b)).t = ((wks a).t != (wks b).t)
  at_ : (wks (a ++ b)).at_ = (wks a).at_ + (if (wks a).t then -(wks b).at_ else (wks b).at_)
  l0 : (wks (a ++ b)).l0 = (wks a).l0 + (if (wks a).t then (wks b).l1 else (wks b).l0)
  l1 : (wks (a ++ b)).l1 = (wks a).l1 + (if (wks a).t then (wks b).l0 else (wks b).l1)
theorem flip_x (p : Part) (x t : Bool) : p.flip (x != t) = (x != p.flip t) := by cases p <;> cases x <;> cases t <;> rfl
theorem cat_all (a b : List Part) : Cat a b := by
  refine rev_ind (P := fun b => Cat a b) ?_ ?_ b
  · constructor <;> simp [W0]
  · intro l p ih
    have e : a ++ (l ++ [p]) = (a ++ l) ++ [p] := by simp
    have f := wk_f (wks (a ++ l)) p
    have g := wk_f (wks l) p
    have i1 := ih.t; have i2 := ih.at_; have i3 := ih.l0; have i4 := ih.l1
    constructor
    · rw [e, wks_snoc, wks_snoc, f.1, g.1, i1, flip_x]
    · rw [e, wks_snoc, wks_snoc, f.2.1, g.2.1, i2, i1]
      cases p <;> cases (wks a).t <;> cases (wks l).t <;> simp [dA] <;> omega
    · rw [e, wks_snoc, wks_snoc, f.2.2.1, g.2.2.1, g.2.2.2, i3, i1]
      cases p <;> cases (wks a).t <;> cases (wks l).t <;> simp [d0, d1] <;> omega
    · rw [e, wks_snoc, wks_snoc, f.2.2.2, g.2.2.1, g.2.2.2, i4, i1]
      cases p <;> cases (wks a).t <;> cases (wks l).t <;> simp [d0, d1] <;> omega
theorem found_snoc (l : List Part) (p : Part) : foundL (l ++ [p]) = foundL l ++ [(wks (l ++ [p])).at_] := by
  have h := Wfd_snoc (l ++ [p]) l.length p (by simp)
  have e : Wfd (l ++ [p]) l.length = Wfd l l.length := by
    unfold Wfd
    refine List.map_congr_left fun j hj => ?_
    have hj := List.mem_range.mp hj
    rw [List.take_append_of_le_length (by omega)]
  unfold foundL
  rw [List.length_append, List.length_singleton, h, e, List.take_left' rfl, wks_snoc]
theorem found_cat (a b : List Part) : foundL (a ++ b) = foundL a ++ shH (wks a).at_ (if (wks a).t then ngs (foundL b) else foundL b) := by
  refine rev_ind (P := fun b => foundL (a ++ b) = foundL a ++ shH (wks a).at_ (if (wks a).t then ngs (foundL b) else foundL b)) ?_ ?_ b
  · simp [foundL, Wfd, shH, ngs]
  · intro l p ih
    have e : a ++ (l ++ [p]) = (a ++ l) ++ [p] := by simp
    rw [e, found_snoc, ih, ← e, (cat_all a (l ++ [p])).at_, found_snoc]
    cases (wks a).t <;> simp [shH, ngs] <;> omega
theorem at_l (row : List Part) : (wks row).at_ = (wks row).l0 - (wks row).l1 := by
  refine rev_ind (P := fun row => (wks row).at_ = (wks row).l0 - (wks row).l1) (by simp [W0]) ?_ row
  intro l p ih
  have f := wk_f (wks l) p
  rw [wks_snoc, f.2.1, f.2.2.1, f.2.2.2, ih]
  cases p <;> cases (wks l).t <;> simp [dA, d0, d1] <;> omega
theorem lad_row {row : List Part} (h : ∀ p ∈ row, 0 ≤ p.num) : Lad (foundL row) ⟨(wks row).hi, -(wks row).lo, (wks row).st⟩ := by
  have s := same_all row h
  have e := s.st
  rw [hts_found row h] at e
  rw [← e]; exact lad_all _
theorem ends_row {row : List Part} (h : ∀ p ∈ row, 0 ≤ p.num) : Ends (foundL row) (wks row).at_ := by
  have L := lad_row h
  have i : (wks row).inv := fold_inv row W0 W0_inv
  exact ⟨by rw [← L.de]; have := i.l; show -(wks row).at_ ≤ -(wks row).lo; omega, by rw [← L.hi]; exact i.h⟩
/-- a row not turned beside another one -/
def Core (a b : List Part) : Prop := (wks b).l0 ≤ (wks a).l0 ∧ (wks a).l1 ≤ (wks b).l1 ∧ LowH (foundL a) (foundL b)
def Within (a b : List Part) : Prop := (wks a).t = (wks b).t ∧ if (wks a).t then Core b a else Core a b
theorem core_refl (a : List Part) : Core a a := ⟨Int.le_refl _, Int.le_refl _, lowH_refl _⟩
theorem core_trans {a b c : List Part} (h : Core a b) (k : Core b c) : Core a c := ⟨Int.le_trans k.1 h.1, Int.le_trans h.2.1 k.2.1, lowH_trans h.2.2 k.2.2⟩
theorem within_refl (a : List Part) : Within a a := ⟨rfl, by split <;> exact core_refl a⟩
theorem within_trans {a b c : List Part} (h : Within a b) (k : Within b c) : Within a c := by
  obtain ⟨h1, h2⟩ := h
  obtain ⟨k1, k2⟩ := k
  refine ⟨h1.trans k1, ?_⟩
  cases ht : (wks a).t
  · rw [ht] at h1 h2; rw [← h1] at k2
    simp at h2 k2 ⊢
    exact core_trans h2 k2
  · rw [ht] at h1 h2; rw [← h1] at k2
    simp at h2 k2 ⊢
    exact core_trans k2 h2
theorem core_behind {c a b : List Part} (hc : ∀ p ∈ c, 0 ≤ p.num) (h : Core a b) : if (wks c).t then Core (c ++ b) (c ++ a) else Core (c ++ a) (c ++ b) := by
  have ea := cat_all c a
  have eb := cat_all c b
  have en := ends_row hc
  obtain ⟨h1, h2, h3⟩ := h
  cases ht : (wks c).t
  · refine (if_neg (by simp)).mpr ⟨?_, ?_, ?_⟩
    · rw [ea.l0, eb.l0, ht]; simp; omega
    · rw [ea.l1, eb.l1, ht]; simp; omega
    · rw [found_cat, found_cat, ht]; exact lowH_behind en h3
  · refine (if_pos rfl).mpr ⟨?_, ?_, ?_⟩
    · rw [ea.l0, eb.l0, ht]; simp; omega
    · rw [ea.l1, eb.l1, ht]; simp; omega
    · rw [found_cat, found_cat, ht]; exact lowH_behind en (lowH_ngs h3)
theorem within_behind {c a b : List Part} (hc : ∀ p ∈ c, 0 ≤ p.num) (h : Within a b) : Within (c ++ a) (c ++ b) := by
  obtain ⟨h1, h2⟩ := h
  have ea := cat_all c a
  have eb := cat_all c b
  refine ⟨by rw [ea.t, eb.t, h1], ?_⟩
  rw [ea.t]
  cases ht : (wks a).t <;> rw [ht] at h2 <;> simp at h2 <;> have k := core_behind hc h2 <;> cases hu : (wks c).t <;> rw [hu] at k <;> simpa using k
theorem core_ahead {a b c : List Part} (ha : ∀ p ∈ a, 0 ≤ p.num) (hb : ∀ p ∈ b, 0 ≤ p.num) (ht : (wks a).t = (wks b).t) (h : Core a b) : Core (a ++ c) (b ++ c) := by
  have ea := cat_all a c
  have eb := cat_all b c
  obtain ⟨h1, h2, h3⟩ := h
  refine ⟨?_, ?_, ?_⟩
  · rw [ea.l0, eb.l0, ht]; omega
  · rw [ea.l1, eb.l1, ht]; omega
  · rw [found_cat, found_cat, ht]
    refine lowH_ahead (ends_row ha) (ends_row hb) ?_ h3
    rw [at_l, at_l]; omega
theorem within_ahead {a b c : List Part} (ha : ∀ p ∈ a, 0 ≤ p.num) (hb : ∀ p ∈ b, 0 ≤ p.num) (h : Within a b) : if (wks c).t then Within (b ++ c) (a ++ c) else Within (a ++ c) (b ++ c) := by
  obtain ⟨h1, h2⟩ := h
  have ea := cat_all a c
  have eb := cat_all b c
  cases hc : (wks c).t
  · refine (if_neg (by simp)).mpr ⟨by rw [ea.t, eb.t, h1], ?_⟩
    rw [ea.t, hc]
    cases ht : (wks a).t <;> rw [ht] at h2 <;> simp at h2
    · simpa using core_ahead ha hb h1 h2
    · simpa using core_ahead hb ha h1.symm h2
  · refine (if_pos rfl).mpr ⟨by rw [ea.t, eb.t, h1], ?_⟩
    rw [eb.t, hc, ← h1]
    cases ht : (wks a).t <;> rw [ht] at h2 <;> simp at h2
    · simpa using core_ahead ha hb h1 h2
    · simpa using core_ahead hb ha h1.symm h2
/-- what the program finds is the order -/
theorem nn_row {row : List Part} (h : ∀ p ∈ row, 0 ≤ p.num) : ∀ s ∈ (wks row).st, 0 ≤ s.2 := by
  have L := lad_row h
  have hi0 : 0 ≤ (wks row).hi := by have := L.hi; simp only at this; rw [this]; exact topH_nn _
  intro s hs
  have h1 : ∀ hs : List Int, ∀ s ∈ (hs.foldl stg ⟨0, 0, []⟩).st, 0 ≤ s.2 := by
    intro hs
    refine rev_ind (P := fun hs => ∀ s ∈ (hs.foldl stg ⟨0, 0, []⟩).st, 0 ≤ s.2) (fun s hs => (nomatch hs)) ?_ hs
    intro l x ih s hs
    rw [List.foldl_append] at hs
    have L := lad_all l
    have a := topH_nn l
    have b := depH_nn l
    rw [← L.hi] at a
    rw [← L.de] at b
    generalize l.foldl stg ⟨0, 0, []⟩ = z at *
    simp only [List.foldl_cons, List.foldl_nil] at hs
    unfold stg at hs
    split at hs
    · rcases ws_mem hs with hs | rfl
      · exact ih s hs
      · show 0 ≤ x; omega
    · split at hs
      · rcases ws_mem hs with hs | rfl
        · exact ih s hs
        · show 0 ≤ -x; omega
      · exact ih s hs
  have e := (same_all row h).st
  refine h1 (hts (mvs row).1) s ?_
  rw [e]; exact hs
theorem low_rows {a b : List Part} (ha : ∀ p ∈ a, 0 ≤ p.num) (hb : ∀ p ∈ b, 0 ≤ p.num) : Low (wks a).st (wks b).st ↔ LowH (foundL a) (foundL b) := lowH_iff (lad_row ha) (lad_row hb)
end Law
end
section
set_option autoImplicit false
/-! Rows with all words contrary: plain. -/
namespace Law
open PySem PL
def Part.ctr : Part → Part
  | .on k => .off k
  | .off k => .on k
  | p => p
theorem ctr_num (p : Part) : p.ctr.num = p.num := by cases p <;> rfl
theorem ctr_ctr (p : Part) : p.ctr.ctr = p := by cases p <;> rfl
def W.mir (s : W) : W := ⟨-s.at_, -s.lo, -s.hi, s.l1, s.l0, s.t, sws s.st⟩
theorem sws_ws (f : List Sg) (b : Bool) (n : Int) : sws (ws f b n) = ws (sws f) (!b) n := by
  have := ws_sws (sws f) b n
  rw [sws_sws] at this
  exact this
theorem upHL_mir (s : W) (h : s.lo ≤ s.hi) : s.mir.upH.upL = s.upH.upL.mir := by
  unfold W.upH W.mir
  simp only
  by_cases c1 : s.at_ > s.hi
  · have c2 : ¬ -s.at_ > -s.lo := by omega
    rw [if_pos c1, if_neg c2]
    unfold W.upL
    simp only
    rw [if_pos (by omega), if_neg (by omega)]
    simp [sws_ws]
  · rw [if_neg c1]
    by_cases c2 : s.at_ < s.lo
    · rw [if_pos (by omega)]
      unfold W.upL
      simp only
      rw [if_neg (by omega), if_pos c2]
      simp [sws_ws]
    · rw [if_neg (by omega)]
      unfold W.upL
      simp only
      rw [if_neg (by omega), if_neg c2]
theorem mv_ctr (s : W) (p : Part) : s.mir.mv p.ctr = (s.mv p).mir := by
  cases p with
  | turn => rfl
  | delay k => rfl
  | on k => cases h : s.t <;> simp [W.mv, Part.ctr, W.mir, h] <;> omega
  | off k => cases h : s.t <;> simp [W.mv, Part.ctr, W.mir, h] <;> omega
theorem wks_ctr (row : List Part) : wks (row.map Part.ctr) = (wks row).mir := by
  induction row using rev_ind with
  | h0 => simp [wks, W0, W.mir, sws]
  | hs l x ih =>
    rw [List.map_append, List.map_cons, List.map_nil, wks_snoc, wks_snoc, ih]
    unfold wk
    rw [mv_ctr, upHL_mir]
    have i : (wks l).lo ≤ (wks l).hi := Int.le_trans (fold_inv l _ W0_inv).l (fold_inv l _ W0_inv).h
    have m : ((wks l).mv x).hi = (wks l).hi ∧ ((wks l).mv x).lo = (wks l).lo := by
      cases x with
      | turn => exact ⟨rfl, rfl⟩
      | delay k => exact ⟨rfl, rfl⟩
      | on k => unfold W.mv; simp only; split <;> exact ⟨rfl, rfl⟩
      | off k => unfold W.mv; simp only; split <;> exact ⟨rfl, rfl⟩
    rw [m.1, m.2]; exact i
end Law
end
section
set_option autoImplicit false
/-! The walk behind a height and a depth: plain. -/
namespace Law
open PySem PL
def Wb (hi de : Int) : W := ⟨0, hi, -de, 0, 0, false, []⟩
abbrev wksB (hi de : Int) (row : List Part) : W := row.foldl wk (Wb hi de)
theorem wksB_snoc (hi de : Int) (l : List Part) (x : Part) : wksB hi de (l ++ [x]) = wk (wksB hi de l) x := by unfold wksB; rw [List.foldl_append]; rfl
theorem wksB_zero (row : List Part) : wksB 0 0 row = wks row := rfl
theorem Wb_inv {hi de : Int} (h1 : 0 ≤ hi) (h2 : 0 ≤ de) : (Wb hi de).inv := ⟨h1, by show -de ≤ 0; omega⟩
theorem wksB_inv {hi de : Int} (h1 : 0 ≤ hi) (h2 : 0 ≤ de) (row : List Part) : (wksB hi de row).inv := fold_inv _ _ (Wb_inv h1 h2)
theorem wksB_f (hi de : Int) (row : List Part) : (wksB hi de row).t = (wks row).t ∧ (wksB hi de row).at_ = (wks row).at_ ∧ (wksB hi de row).l0 = (wks row).l0 ∧ (wksB hi de row).l1 = (wks row).l1 := by
  induction row using rev_ind with
  | h0 => exact ⟨rfl, rfl, rfl, rfl⟩
  | hs l x ih =>
    obtain ⟨h1, h2, h3, h4⟩ := ih
    rw [wksB_snoc, wks_snoc]
    have a := wk_f (wksB hi de l) x
    have b := wk_f (wks l) x
    rw [a.1, a.2.1, a.2.2.1, a.2.2.2, b.1, b.2.1, b.2.2.1, b.2.2.2, h1, h2, h3, h4]
    exact ⟨rfl, rfl, rfl, rfl⟩
theorem mv_eq (s : W) (p : Part) : s.mv p = { s with at_ := s.at_ + p.up (p.flip s.t), l0 := (s.mv p).l0, l1 := (s.mv p).l1, t := p.flip s.t } := by
  cases p <;> cases h : s.t <;> simp [W.mv, Part.up, Part.flip, h] <;> try omega
theorem stgB {hi de : Int} (h1 : 0 ≤ hi) (h2 : 0 ≤ de) (row : List Part) : (∀ p ∈ row, 0 ≤ p.num) → stgs row hi de = ⟨(wksB hi de row).hi, -(wksB hi de row).lo, (wksB hi de row).st⟩ := by
  induction row using rev_ind with
  | h0 => intro _; show (⟨hi, de, []⟩ : SS) = ⟨hi, - -de, []⟩; rw [Int.neg_neg]
  | hs l x ih =>
    intro h
    have hp : ∀ p ∈ l, 0 ≤ p.num := fun p hp => h p (List.mem_append_left _ hp)
    have ih := ih hp
    have s := same_all l hp
    have f := wksB_f hi de l
    unfold stgs at ih ⊢
    rw [mvs_snoc]
    simp only
    rw [hts_snoc, List.foldl_append, ih, s.a, s.t, ← f.1, ← f.2.1]
    have g := stg_eq (wksB_inv h1 h2 l) (x.up (x.flip (wksB hi de l).t)) ((wksB hi de l).mv x).l0 ((wksB hi de l).mv x).l1 (x.flip (wksB hi de l).t)
    rw [← mv_eq] at g
    rw [wksB_snoc]
    exact g
theorem formB {hi de : Int} (h1 : 0 ≤ hi) (h2 : 0 ≤ de) {row : List Part} (h : ∀ p ∈ row, 0 ≤ p.num) : formP row hi de = shapeP (wksB hi de row) := by
  have s := same_all row h
  have f := wksB_f hi de row
  unfold formP shapeP
  rw [s.t, s.on, s.off, stgB h1 h2 row h, f.1, f.2.2.1, f.2.2.2]
theorem wksB_sml {row : List Part} (h : Fit row) (hi de : Int) (i : Nat) : (∀ x ∈ (wksB hi de (row.take i)).st, sml x.2) ∧ (wksB hi de (row.take i)).st.length ≤ 200 := by
  obtain ⟨B, hB, hok⟩ := h.ex
  have o := wks_ok (row.take i) (fun p hp => hok p (List.mem_of_mem_take hp)) (Wb hi de) 0 0 ⟨by simp [Wb], by simp [Wb], by simp [Wb]⟩
  have hl : (row.take i).length ≤ 100 := by have := h.len; simp; omega
  have hb : 0 + B * (row.take i).length < 10 ^ 200 := by
    have h2 := Nat.mul_le_mul hB hl
    have h3 : (10 ^ 100 * 100 : Nat) < 10 ^ 200 := by decide +kernel
    omega
  exact ⟨fun x hx => Nat.lt_of_le_of_lt (o.st x hx) hb, by have := o.len; change _ ≤ 0 + 2 * _ at this; exact Nat.le_trans this (by omega)⟩
theorem wksB_take {hi de : Int} {row : List Part} {i : Nat} {p : Part} (hx : row[i]? = some p) : wksB hi de (row.take (i + 1)) = wk (wksB hi de (row.take i)) p := by rw [take_succ' hx, wksB_snoc]
/-- numbers of stages are above what was come to -/
theorem wksB_above {hi de : Int} (h1 : 0 ≤ hi) (h2 : 0 ≤ de) (row : List Part) : (hi ≤ (wksB hi de row).hi ∧ (wksB hi de row).lo ≤ -de) ∧ ∀ s ∈ (wksB hi de row).st, if s.1 then hi < s.2 else de < s.2 := by
  induction row using rev_ind with
  | h0 => exact ⟨⟨Int.le_refl _, Int.le_refl _⟩, by simp [Wb]⟩
  | hs l x ih =>
    obtain ⟨⟨a, b⟩, ih⟩ := ih
    rw [wksB_snoc]
    generalize wksB hi de l = s at *
    have e : ∀ z : W, hi ≤ z.hi → z.lo ≤ -de → (∀ s ∈ z.st, if s.1 then hi < s.2 else de < s.2) → (hi ≤ z.upH.upL.hi ∧ z.upH.upL.lo ≤ -de) ∧ ∀ s ∈ z.upH.upL.st, if s.1 then hi < s.2 else de < s.2 := by
      intro z a b c
      have hH : hi ≤ z.upH.hi ∧ z.upH.lo ≤ -de ∧ ∀ s ∈ z.upH.st, if s.1 then hi < s.2 else de < s.2 := by
        unfold W.upH
        split
        · refine ⟨by simp only; omega, b, fun s hs => ?_⟩
          rcases ws_mem hs with hs | rfl
          · exact c s hs
          · simp only [if_true]; omega
        · exact ⟨a, b, c⟩
      generalize z.upH = y at *
      unfold W.upL
      split
      · refine ⟨⟨hH.1, by simp only; omega⟩, fun s hs => ?_⟩
        rcases ws_mem hs with hs | rfl
        · exact hH.2.2 s hs
        · simp only [Bool.false_eq_true, if_false]; omega
      · exact ⟨⟨hH.1, hH.2.1⟩, hH.2.2⟩
    have m : (s.mv x).hi = s.hi ∧ (s.mv x).lo = s.lo ∧ (s.mv x).st = s.st := by
      cases x with
      | turn => exact ⟨rfl, rfl, rfl⟩
      | delay k => exact ⟨rfl, rfl, rfl⟩
      | on k => unfold W.mv; simp only; split <;> exact ⟨rfl, rfl, rfl⟩
      | off k => unfold W.mv; simp only; split <;> exact ⟨rfl, rfl, rfl⟩
    exact e _ (by rw [m.1]; exact a) (by rw [m.2.1]; exact b) (by rw [m.2.2]; exact ih)
end Law
end
section
set_option autoImplicit false
/-! Numbers ahead: plain (k15). -/
namespace Law
open PySem PL
theorem tw_more {α : Type} {p q : α → Bool} (h : ∀ x, p x = true → q x = true) : ∀ S : List α, ∃ T, S.takeWhile q = S.takeWhile p ++ T
  | [] => ⟨[], rfl⟩
  | x :: S => by
    obtain ⟨T, hT⟩ := tw_more h S
    by_cases hp : p x = true
    · exact ⟨T, by rw [List.takeWhile_cons_of_pos hp, List.takeWhile_cons_of_pos (h x hp), hT]; rfl⟩
    · rw [List.takeWhile_cons_of_neg hp]
      exact ⟨_, rfl⟩
theorem mst_app (S : List Sg) (b : Bool) : ∀ T : List Sg, mst S b ≤ mst (S ++ T) b := by
  intro T
  induction T using rev_ind with
  | h0 => simp
  | hs T x ih =>
    rw [← List.append_assoc, mst_snoc]
    split <;> omega
theorem ph_mono (S : List Sg) (b : Bool) {j k : Int} (h : j ≤ k) : ph S b j ≤ ph S b k := by
  unfold ph ahd
  obtain ⟨T, hT⟩ := tw_more (p := fun s : Sg => !(s.1 == b && decide (s.2 > j))) (q := fun s : Sg => !(s.1 == b && decide (s.2 > k))) (fun s hs => by
    simp at hs ⊢
    rcases hs with e | e
    · exact .inl e
    · exact .inr (by omega)) S
  rw [hT]
  exact mst_app _ _ _
theorem st_pos {row : List Part} (h : ∀ p ∈ row, 0 ≤ p.num) : ∀ s ∈ (wks row).st, 1 ≤ s.2 := by
  intro s hs
  have := (wksB_above (hi := 0) (de := 0) (by omega) (by omega) row).2 s (by rw [wksB_zero]; exact hs)
  split at this <;> omega
theorem ph_first {s : Sg} (S : List Sg) (h : 1 ≤ s.2) : ph (s :: S) s.1 0 = 0 := by
  unfold ph ahd
  rw [List.takeWhile_cons_of_neg (by simp; omega)]
  rfl
theorem st_few (row : List Part) (h : ∀ p ∈ row, 0 ≤ p.num) (hs : ∀ x ∈ hts (mvs row).1, sml x) : (wks row).st.length ≤ row.length := by
  have := (stg_fold (hts (mvs row).1) ⟨0, 0, []⟩ hs (by simp)).1
  rw [← stgs_shape h]
  rw [hts_len0, mvs_len0] at this
  simpa using this
theorem mst_sml {S : List Sg} (h : ∀ s ∈ S, sml s.2) (b : Bool) : sml (mst S b) := by
  induction S using rev_ind with
  | h0 => show sml 0; decide +kernel
  | hs S x ih =>
    rw [mst_snoc]
    have h1 := ih fun s hs => h s (by simp [hs])
    have h2 := h x (by simp)
    split
    · rw [Int.max_def]; split
      · exact h2
      · exact h1
    · exact h1
theorem ph_sml {S : List Sg} (h : ∀ s ∈ S, sml s.2) (b : Bool) (k : Int) : sml (ph S b k) := mst_sml (fun s hs => h s (List.takeWhile_subset _ hs)) _
end Law
end
section
set_option autoImplicit false
/-! The order of forms as a check. Plain. -/
namespace Law
open PySem PL
def lowB (S T : List Sg) : Bool := (bnds S T).all fun k => decide (ph S true k ≤ ph T true k) && decide (ph T false k ≤ ph S false k)
theorem lowB_iff (S T : List Sg) : lowB S T = true ↔ LowB S T := by
  unfold lowB LowB
  rw [List.all_eq_true]
  constructor
  · intro h k hk; have := h k hk; simpa using this
  · intro h k hk; have := h k hk; simpa using this
theorem lowB_low {S T : List Sg} (hn : ∀ s ∈ S ++ T, 0 ≤ s.2) : lowB S T = true ↔ Low S T := by rw [lowB_iff, low_iff S T hn]
def coreB (s t : W) : Bool := decide (s.l0 ≥ t.l0) && (decide (s.l1 ≤ t.l1) && lowB s.st t.st)
def winB (s t : W) : Bool := (s.t == t.t) && (if s.t then coreB t s else coreB s t)
end Law
end
section
set_option autoImplicit false
namespace Law
open PySem PL
theorem ticks_up_ev (p : Part) (t : Bool) (μ : Mem) : m_ticks_up [p.pv, .bl t] μ = .ok (.int (p.up t)) μ := by
  apply fn_pure0
  unfold b_ticks_up
  rw [run_ev]
  cases p <;> cases t <;> simp [Part.pv, Part.up]
theorem moves_ev (row : List Part) (μ : Mem) (hz : row.length ≤ 1000000) : m_moves [pvs row] μ = .ok (.tup [.ref μ.length, .bl (mvs row).2]) (μ ++ [.lst ((mvs row).1.map .int)]) := by
  have key : (run 4 b_moves [pvs row] μ).sat fun p m => p = .tup [.ref μ.length, .bl (mvs row).2] ∧ m = μ ++ [.lst ((mvs row).1.map .int)] := by
    apply run_sat
    unfold b_moves
    simp
    refine for_sat Part.pv row (fun i env m => ∃ q, env = [some (pvs row), q, some (.ref μ.length), some (.bl ((row.take i).foldl mvStep ([], false)).2)] ∧ m = μ ++ [.lst (((row.take i).foldl mvStep ([], false)).1.map .int)])
      (fun _ _ _ _ => locked_nil _) ⟨none, by simp⟩ ?_ ?_
    · rintro i x env m hx ⟨q, rfl, rfl⟩
      have hi := lt_of_get hx
      rw [take_succ' hx, List.foldl_append]
      generalize hs : (row.take i).foldl mvStep ([], false) = s
      have hlen : s.1.length = i := by
        rw [← hs, mvs_len]; simp; omega
      have hz2 : s.1.length < 16777216 := by omega
      have tk := fun t μ => ticks_up_ev x t μ
      cases x <;> simp only [Part.pv] at tk <;> simp [mvStep, Part.pv, Part.flip, hz2, tk]
    · rintro e2 m ⟨q, rfl, rfl⟩
      simp [mvs]
  obtain ⟨p, m, e, rfl, rfl⟩ := rsat_ex key
  unfold m_moves
  rw [fn_ev, e, gc_keep]
  simp [PV.under, PV.unders]
theorem heights_ev (row : List Part) (μ : Mem) (hz : row.length ≤ 1000000) : m_heights [pvs row] μ = .ok (.tup ((hts (mvs row).1).map .int)) μ := by
  apply fn_sat_data (by simp)
  apply run_sat
  unfold b_heights
  have hm : (mvs row).1.length = row.length := by unfold mvs; rw [mvs_len]; simp
  simp [moves_ev row _ hz]
  generalize hms : (mvs row).1 = ms at *
  refine for_sat PV.int ms (fun i env m => ∃ q, env = [some (pvs row), q, some (.ref μ.length), some (.int ((ms.take i).foldl htStep ([], 0)).2)] ∧ m = μ ++ [.lst (((ms.take i).foldl htStep ([], 0)).1.map .int), .lst (ms.map .int)])
      ?_ ⟨none, by simp⟩ ?_ ?_
  · rintro i env m ⟨q, rfl, rfl⟩
    exact locked_lst _ (by simp)
  · rintro i x env m hx ⟨q, rfl, rfl⟩
    have hi := lt_of_get hx
    rw [take_succ' hx, List.foldl_append]
    generalize hs : (ms.take i).foldl htStep ([], 0) = s
    have hlen : s.1.length = i := by
      rw [← hs, hts_len]; simp; omega
    have hz2 : s.1.length < 16777216 := by omega
    simp [htStep, hz2]
  · rintro e2 m ⟨q, rfl, rfl⟩
    simp [hts]
theorem with_stage_ev (f : List Sg) (b : Bool) (n : Int) (a : Nat) (μ : Mem) (hf : ∀ s ∈ f, sml s.2) (hz : f.length ≤ 1000000) (ha : μ[a]? = some (.lst (f.map Sg.pv))) :
    (m_with_stage [.ref a, .str (if b then "drop" else "fill" : String), .int n] μ).sat (NewL μ ((ws f b n).map Sg.pv)) := by
  apply fn_sat_new
  apply run_sat
  unfold b_with_stage
  simp
  have e1 : fNe [.ref a, .ref μ.length] (μ ++ [.lst []]) = .ok (.bl (!f.isEmpty)) (μ ++ [.lst []]) := by
    rw [fNe_nil (l := f.map Sg.pv) (by simp [ha]) (by simp) (datas_map _ Sg_data f) (sms_map _ _ fun s hs => Sg_sm s (hf s hs)) (dps_map _ _ _ fun s _ => by rw [Sg_dp s]; decide)]
    simp
  rw [e1]
  rcases List.eq_nil_or_concat f with rfl | ⟨f', s, rfl⟩
  · simp [ha, ws, Ext.app, Sg.pv]
  · have hz2 : f'.length + 1 + 1 ≤ 16777216 := by simp at hz; omega
    have hz3 : f'.length + 1 ≤ 16777216 := by omega
    rcases s with ⟨c, k⟩
    cases b <;> cases c <;> simp [ha, ws, Sg.pv, hz2, hz3, cut_last, List.concat_eq_append, Ext.app]
theorem stages_beyond_ev (row : List Part) (hi de : Int) (μ : Mem) (hz : row.length ≤ 100000) (hs : ∀ h ∈ hts (mvs row).1, sml h) : m_stages_beyond [pvs row, .int hi, .int de] μ = .ok (.tup ((stgs row hi de).st.map Sg.pv)) μ := by
  apply fn_sat_data (by simp [datas_map _ Sg_data])
  apply run_sat
  unfold b_stages_beyond
  simp [heights_ev row _ (by omega : row.length ≤ 1000000)]
  have hl := hts_len0 (mvs row).1
  rw [mvs_len0] at hl
  generalize hH : hts (mvs row).1 = H at *
  refine for_sat PV.int H (fun i env m => ∃ q a, env = [some (pvs row), some (.int ((H.take i).foldl stg ⟨hi, de, []⟩).hi), some (.int ((H.take i).foldl stg ⟨hi, de, []⟩).de), some (.ref a), q] ∧ Ext μ m ∧ μ.length ≤ a ∧ m[a]? = some (.lst (((H.take i).foldl stg ⟨hi, de, []⟩).st.map Sg.pv)))
      (fun _ _ _ _ => locked_nil _) ⟨none, μ.length, by simp [Ext.app]⟩ ?_ ?_
  · rintro i x env m hx ⟨q, a, rfl, h1, h2, h3⟩
    have hlt := lt_of_get hx
    have hf := stg_fold (H.take i) ⟨hi, de, []⟩ (fun h hh => hs h (List.mem_of_mem_take hh)) (by simp)
    rw [take_succ' hx, List.foldl_append]
    generalize hS : (H.take i).foldl stg ⟨hi, de, []⟩ = S at *
    have hlen : S.st.length ≤ 1000000 := by
      have := hf.1
      simp at this
      omega
    have w := fun b n => rsat_ex (with_stage_ev S.st b n a m hf.2 hlen h3)
    simp only [List.foldl_cons, List.foldl_nil]
    unfold stg
    by_cases c1 : x > S.hi
    · obtain ⟨p, m2, e, k, rfl, w1, w2, w3⟩ := w true x
      simp at e
      simp [c1, e]
      exact ⟨_, _, ⟨rfl, rfl⟩, h1.trans w3, Nat.le_trans h1.len w1, w2⟩
    · by_cases c2 : S.de < -x
      · obtain ⟨p, m2, e, k, rfl, w1, w2, w3⟩ := w false (-x)
        simp at e
        simp [c1, c2, e]
        exact ⟨_, _, ⟨rfl, rfl⟩, h1.trans w3, Nat.le_trans h1.len w1, w2⟩
      · simp [c1, c2]
        exact ⟨_, _, ⟨rfl, rfl⟩, h1, h2, h3⟩
  · rintro e2 m ⟨q, a, rfl, h1, h2, h3⟩
    rw [List.take_length] at h3
    simp [h3]
    exact ⟨by rw [← hH], h1⟩
theorem heights_fit {row : List Part} (h : Fit row) (μ : Mem) : m_heights [pvs row] μ = .ok (.tup ((foundL row).map .int)) μ := by
  rw [heights_ev row μ (by have := h.len; omega), hts_found row h.pos]
end Law
end
section
set_option autoImplicit false
/-! The program's order of forms, run. -/
namespace Law
open PySem PL
def wrd (b : Bool) : PV := .str (if b then "drop" else "fill" : String)
theorem sg_wrd (s : Sg) : Sg.pv s = .tup [wrd s.1, .int s.2] := rfl
def nms (S : List Sg) (b : Bool) : List Int := (S.filter fun s => s.1 == b).map (·.2)
theorem maxL_mst (b : Bool) : ∀ (S : List Sg) (a : Int), maxL a (nms S b) = S.foldl (fun a s => if s.1 == b then max a s.2 else a) a
  | [], a => rfl
  | s :: S, a => by
    unfold nms
    rw [List.filter_cons, List.foldl_cons]
    by_cases c : (s.1 == b) = true
    · rw [if_pos c, if_pos c, List.map_cons]
      have := maxL_mst b S (max a s.2)
      unfold nms at this
      rw [← this]
      simp only [maxL]
      congr 1
      split <;> omega
    · rw [if_neg c, if_neg c]
      exact maxL_mst b S a
theorem intsOf_nms (z : Int) (L : List Int) : intsOf (.int z :: L.map .int) = some (z :: L) := intsOf_mapI (z :: L)
theorem most_of_ev (S : List Sg) (b : Bool) (hl : S.length ≤ 100000) (μ : Mem) : m_most_of [.tup (S.map Sg.pv), wrd b] μ = .ok (.int (mst S b)) μ := by
  apply fn_sat_data (by simp)
  apply run_sat
  unfold b_most_of
  simp
  refine lc_of Sg.pv (fun s => if (s.1 == b) = true then some (.int s.2) else none) S (ys := (nms S b).map PV.int) ?_ rfl (locked_nil _) (by show S.length < 16777216; omega) ?_ ?_
  · unfold nms
    rw [filterMap_if (fun s : Sg => s.1 == b) (fun s => .int s.2), List.map_map]; rfl
  · rintro ⟨w, n⟩ _ l
    refine ⟨_, by simp [wipe, sg_wrd]; rfl, ?_⟩
    cases w <;> cases b <;> simp [wrd]
  have hf : ∀ (n : Nat) (μ : Mem), μ[n]? = some (.lst (.int 0 :: (nms S b).map .int)) → fMax [.ref n] μ = .ok (.int (mst S b)) μ := fun n μ h => by
    have e : fMax [.ref n] μ = match (getL μ (.ref n)).bind intsOf with
      | some (i :: is) => .ok (.int (maxL i is)) μ
      | _ => .stuck := rfl
    rw [e]
    simp only [getL, h, Option.bind_some, intsOf_nms]
    rw [maxL_mst]; rfl
  have hn : (nms S b).length ≤ 100000 := by unfold nms; simp; exact Nat.le_trans (List.length_filter_le _ _) hl
  have hz : (nms S b).length + 1 ≤ 16777216 := by omega
  have h2 := hf (μ.length + 1) (μ ++ [.lst ((nms S b).map .int), .lst (.int 0 :: (nms S b).map .int)]) (by simp)
  have fl : ∀ μ : Mem, fLst (PV.int 0 :: (nms S b).map .int) μ = .ok (.ref μ.length) (μ ++ [.lst (.int 0 :: (nms S b).map .int)]) := fun μ => by
    unfold fLst
    rw [if_pos (by show _ ≤ 16777216; simp; omega)]
    rfl
  simp [fl]
  rw [h2]
  simp
/-! ahead_of -/
def blk (b : Bool) (k : Int) (s : Sg) : Bool := s.1 == b && decide (s.2 > k)
theorem ahd_at {S : List Sg} {b : Bool} {k : Int} {i : Nat} {s : Sg} (h : ∀ z ∈ S.take i, blk b k z = false) (hi : S[i]? = some s) (hb : blk b k s = true) : ahd S b k = S.take i := by
  have hl := (List.getElem?_eq_some_iff.mp hi).1
  have e : S = S.take i ++ s :: S.drop (i + 1) := by
    have := List.take_append_drop i S
    rw [List.drop_eq_getElem_cons hl] at this
    rw [(List.getElem?_eq_some_iff.mp hi).2] at this
    exact this.symm
  unfold ahd
  conv => lhs; rw [e]
  rw [List.takeWhile_append_of_pos (fun z hz => by have := h z hz; unfold blk at this; rw [this]; rfl), List.takeWhile_cons, if_neg (by unfold blk at hb; rw [hb]; simp), List.append_nil]
theorem ahd_none {S : List Sg} {b : Bool} {k : Int} (h : ∀ z ∈ S, blk b k z = false) : ahd S b k = S := twAll fun z hz => by have := h z hz; unfold blk at this; rw [this]; rfl
theorem enum_get (l : List PV) : ∀ k, enumL k l = (l.zipIdx k).map fun z => PV.tup [.int (z.2 : Nat), z.1] := by
  induction l with
  | nil => intro k; rfl
  | cons p l ih => intro k; simp [enumL, ih, List.zipIdx_cons]
theorem ahead_of_ev (S : List Sg) (b : Bool) (k : Int) (μ : Mem) : m_ahead_of [.tup (S.map Sg.pv), wrd b, .int k] μ = .ok (.tup ((ahd S b k).map Sg.pv)) μ := by
  apply fn_sat_data (by simp [datas_map _ Sg_data])
  apply run_sat
  unfold b_ahead_of
  simp only [List.map_cons, List.map_nil, List.length_cons, List.length_nil, List.replicate, List.cons_append, List.nil_append, Nat.reduceAdd, Nat.reduceSub]
  simp only [seq_ev, forS_ev]
  have hit : iEnum (v 0) [some (.tup (S.map Sg.pv)), some (wrd b), some (.int k), none, none, none] μ = .ok ⟨S.zipIdx.map (fun z => PV.tup [.int (z.2 : Nat), Sg.pv z.1]), []⟩ μ := by
    have e : (S.map Sg.pv).zipIdx.map (fun z => PV.tup [.int (z.2 : Nat), z.1]) = S.zipIdx.map (fun z => PV.tup [.int (z.2 : Nat), Sg.pv z.1]) := by
      rw [List.zipIdx_map, List.map_map]; rfl
    rw [← e, ← enum_get]
    simp [iEnum, enumOf]
  rw [hit]
  simp only [Out.of_ok]
  refine for_nb (fun z : Sg × Nat => PV.tup [.int (z.2 : Nat), Sg.pv z.1]) S.zipIdx (fun i e m => m = μ ∧ (∀ z ∈ S.take i, blk b k z = false) ∧ ∃ q3 q4 q5, e = [some (.tup (S.map Sg.pv)), some (wrd b), some (.int k), q3, q4, q5]) (fun _ _ _ _ => locked_nil _) ⟨rfl, by simp, none, none, none, rfl⟩ ?_ ?_
  · rintro i ⟨s, pl⟩ e m hx ⟨rfl, hn, q3, q4, q5, rfl⟩
    have hpl : pl = i ∧ S[i]? = some s := by
      rw [List.getElem?_zipIdx] at hx
      cases hs : S[i]? with
      | none => rw [hs] at hx; nomatch hx
      | some z => rw [hs] at hx; simp at hx; exact ⟨hx.2.symm, by rw [hx.1]⟩
    obtain ⟨rfl, hs⟩ := hpl
    have hw : ∀ b' : Bool, fEq [wrd s.1, wrd b] m = .ok (.bl (s.1 == b)) m := fun _ => by
      rcases s with ⟨w, n⟩
      cases w <;> cases b <;> simp [wrd]
    have hw := hw true
    by_cases c : blk b k s = true
    · have ha := ahd_at hn hs c
      unfold blk at c
      simp only [Bool.and_eq_true, decide_eq_true_eq] at c
      have ct : PL.cut (S.map Sg.pv) none (some (pl : Int)) = (ahd S b k).map Sg.pv := by rw [cut_to, ← List.map_take, ha]
      rw [c.1] at hw
      generalize ahd S b k = A at *
      generalize hb : wrd b = pb at *
      generalize hs1 : wrd s.1 = pw at *
      simp [sg_wrd, hs1, hw, c.2]
      rw [ha, List.map_take]
    · have c' : blk b k s = false := by simpa using c
      have hn2 : ∀ z ∈ S.take (pl + 1), blk b k z = false := fun z hz => by
        rw [take_succ' hs] at hz
        rcases List.mem_append.mp hz with hz | hz
        · exact hn z hz
        · simp at hz; subst hz; exact c'
      unfold blk at c'
      generalize hb : wrd b = pb at *
      generalize hs1 : wrd s.1 = pw at *
      cases hsb : (s.1 == b)
      · rw [hsb] at hw
        simp [sg_wrd, hs1, hw]
        exact ⟨fun z h => hn2 _ h, fun z h => hn2 _ h⟩
      · rw [hsb] at hw c'
        simp at c'
        have hk : ¬ s.2 > k := by omega
        simp [sg_wrd, hs1, hw, hk]
        exact ⟨fun z h => hn2 _ h, fun z h => hn2 _ h⟩
  · rintro e m ⟨rfl, hn, q3, q4, q5, rfl⟩
    rw [List.length_zipIdx, List.take_length] at hn
    rw [ahd_none hn]
    simp
theorem filled_ahead_ev (S : List Sg) (k : Int) (hl : S.length ≤ 100000) (μ : Mem) : m_filled_ahead [.tup (S.map Sg.pv), .int k] μ = .ok (.int (ph S true k)) μ := by
  have a := fun μ => ahead_of_ev S true k μ
  have hl2 : (ahd S true k).length ≤ 100000 := Nat.le_trans (List.Sublist.length_le (List.takeWhile_sublist _)) hl
  have b := fun μ => most_of_ev (ahd S true k) false hl2 μ
  apply fn_pure0
  rw [run_ev]
  unfold b_filled_ahead
  have e1 : wrd true = K_DROP := rfl
  have e2 : wrd false = K_FILL := rfl
  rw [e1] at a
  rw [e2] at b
  simp [a, b, ph]
theorem dropped_ahead_ev (S : List Sg) (k : Int) (hl : S.length ≤ 100000) (μ : Mem) : m_dropped_ahead [.tup (S.map Sg.pv), .int k] μ = .ok (.int (ph S false k)) μ := by
  have a := fun μ => ahead_of_ev S false k μ
  have hl2 : (ahd S false k).length ≤ 100000 := Nat.le_trans (List.Sublist.length_le (List.takeWhile_sublist _)) hl
  have b := fun μ => most_of_ev (ahd S false k) true hl2 μ
  apply fn_pure0
  rw [run_ev]
  unfold b_dropped_ahead
  have e1 : wrd true = K_DROP := rfl
  have e2 : wrd false = K_FILL := rfl
  rw [e2] at a
  rw [e1] at b
  simp [a, b, ph]
end Law
end
section
set_option autoImplicit false
namespace Law
open PySem PL
theorem stages_ev (row : List Part) (μ : Mem) (hz : row.length ≤ 100000) (hs : ∀ h ∈ hts (mvs row).1, sml h) : m_stages [pvs row] μ = .ok (.tup ((stgs row 0 0).st.map Sg.pv)) μ := by
  apply fn_pure0
  rw [run_ev]
  unfold b_stages
  simp [stages_beyond_ev row 0 0 μ hz hs]
theorem stages_fit {row : List Part} (h : Fit row) (μ : Mem) : m_stages [pvs row] μ = .ok (.tup ((wks row).st.map Sg.pv)) μ := by
  rw [stages_ev row μ (by have := h.len; omega) (hts_sml h), stgs_shape h.pos]
end Law
end
section
set_option autoImplicit false
namespace Law
open PySem PL
/-- what is drawn -/
theorem dip_ev (m : Mem) (hp : Pot 3 m) (size : Int) (h0 : 0 < size) (h1 : size < 2 ^ 200) : (m__law_dip [.ref 4, .int size] m).sat fun p m' => (∃ r, p = .int r ∧ 0 ≤ r ∧ r < size) ∧ Go 3 m m' := by
  apply fn_go hp
  apply run_sat
  have hd := divOk_small h0 h1
  have hp' := hp
  obtain ⟨bs, f, l, t, e1, e2, e3, e4, e5⟩ := hp'
  have l3 := (List.getElem?_eq_some_iff.mp e2).1
  have l4 : 4 < m.length := (List.getElem?_eq_some_iff.mp e1).1
  replace e1 : m[4]? = some (.lst [.ref 3, .int f, .int l, .int t]) := e1
  have l3' : 3 < m.length + 1 := by omega
  have l4' : 4 < m.length + 1 := by omega
  have hr := fun i : Int => And.intro (Int.emod_nonneg i (by omega : size ≠ 0)) (Int.emod_lt_of_pos i h0)
  unfold b__law_dip
  simp [e1]
  have en : fNe [.ref 3, .ref m.length] (m ++ [.lst []]) = .ok (.bl (!bs.isEmpty)) (m ++ [.lst []]) := fNe_ints (by simp [e2]) (by simp)
  rw [en]
  rcases List.eq_nil_or_concat bs with rfl | ⟨bs', x, rfl⟩
  · have q1 : mulOk t 2654435761 := .inr (.inl (by decide))
    have q2 : ∀ i : Int, mulOk (i % 4294967291) (i % 4294967291) := fun i => .inl (by omega)
    have q3 : mulOk l (t + 1) := .inl ⟨e4, e5⟩
    have q4 : ∀ i : Int, mulOk i 40503 := fun i => .inr (.inl (by decide))
    have q5 : ∀ i : Int, mulOk i 2654435761 := fun i => .inr (.inl (by decide))
    have q6 : divOk 8192 := divOk_small (by decide) (by decide)
    simp [e1, e2, ixN, q2, q3, q4, q5, q6, h0, hr]
    refine ⟨⟨[], f, l, t + 1, ?_, ?_, by simp, e4, e5⟩, ((Fr.refl 3 m).trans (Fr.ext (Ext.app m [.lst []]))).set _ (by omega)⟩
    · simp [l4']
    · simp [e2]
  · have hb : bs'.length ≤ 99 := by simp at e3; omega
    have hb' : bs'.length < 16777216 := by omega
    simp [e1, e2, h0, hr, hd, hb']
    refine ⟨fun _ => ⟨⟨bs' ++ [x / size], f, l, t, ?_, ?_, ?_, e4, e5⟩, ?_⟩, fun _ => ⟨⟨bs', f, l, t, ?_, ?_, ?_, e4, e5⟩, ?_⟩⟩
    · simp [e1]
    · simp [e2]
    · simp; omega
    · exact ((Fr.refl 3 m).trans (Fr.ext (Ext.app m [.lst []]))).set _ (by omega)
    · simp [e1]
    · simp [e2]
    · omega
    · exact ((Fr.refl 3 m).trans (Fr.ext (Ext.app m [.lst []]))).set _ (by omega)
theorem pick_ev (m : Mem) (hp : Pot 3 m) (k : Nat) (l : List PV) (hk : 4 < k) (h : m[k]? = some (.lst l)) (h0 : 0 < l.length) (h1 : l.length < 1000000) : (m__law_pick [.ref 4, .ref k] m).sat fun p m' => p ∈ l ∧ Go 3 m m' := by
  apply fn_go hp
  apply run_sat
  unfold b__law_pick
  simp [h]
  obtain ⟨p, m2, e, ⟨r, rfl, r0, r1⟩, g⟩ := rsat_ex (dip_ev m hp l.length (by omega) (by omega))
  rw [e]
  have hg := g.get h hk
  have hr : r.toNat < l.length := by omega
  simp [hg]
  rw [ixOf_int _ r0 (List.getElem?_eq_getElem hr)]
  simp
  exact g
theorem pick_lit (m : Mem) (hp : Pot 3 m) (l : List PV) (h0 : 0 < l.length) (h1 : l.length < 1000000) : (m__law_pick [.ref 4, .ref m.length] (m ++ [.lst l])).sat fun p m' => p ∈ l ∧ Go 3 m m' :=
  rsat_imp (pick_ev _ (hp.app _) m.length l hp.lt (by simp) h0 h1) fun _ _ h => ⟨h.1, (Go.ext hp (Ext.app _ _)).trans h.2⟩
theorem pick_int (m : Mem) (hp : Pot 3 m) (k : Nat) (l : List Int) (hk : 4 < k) (h : m[k]? = some (.lst (l.map .int))) (h0 : 0 < l.length) (h1 : l.length < 1000000) : (m__law_pick [.ref 4, .ref k] m).sat fun p m' => (∃ z ∈ l, p = .int z) ∧ Go 3 m m' := by
  refine rsat_imp (pick_ev m hp k (l.map .int) hk h (by simpa using h0) (by simpa using h1)) ?_
  rintro p m' ⟨hq, g⟩
  obtain ⟨z, hz, rfl⟩ := List.mem_map.mp hq
  exact ⟨⟨z, hz, rfl⟩, g⟩
/-- sizes: a list of numbers that stays -/
structure Szs (B : Int) (k : Nat) (m : Mem) : Prop where
  ex : ∃ szs : List Int, m[k]? = some (.lst (szs.map .int)) ∧ 0 < szs.length ∧ szs.length < 1000000 ∧ ∀ z ∈ szs, 0 ≤ z ∧ z ≤ B
  lt : 4 < k
theorem Szs.go {B : Int} {k : Nat} {m m' : Mem} (h : Szs B k m) (g : Go 3 m m') : Szs B k m' := by
  obtain ⟨szs, h1, h3⟩ := h.ex
  exact ⟨⟨szs, g.get h1 h.lt, h3⟩, h.lt⟩
theorem pick_szs {B : Int} {k : Nat} (m : Mem) (hp : Pot 3 m) (h : Szs B k m) : (m__law_pick [.ref 4, .ref k] m).sat fun p m' => (∃ z : Int, p = .int z ∧ 0 ≤ z ∧ z ≤ B) ∧ Go 3 m m' := by
  obtain ⟨szs, h1, h2, h3, h4⟩ := h.ex
  refine rsat_imp (pick_int m hp k szs h.lt h1 h2 h3) ?_
  rintro p m' ⟨⟨z, hz, rfl⟩, g⟩
  exact ⟨⟨z, rfl, h4 z hz⟩, g⟩
theorem pot_ev (ns : List Int) (hn : ns.length ≤ 63) : (m__law_pot [.ref 0] [.ro (ns.map PV.int)]).sat fun p m => p = .ref 4 ∧ Pot 3 m := by
  refine fn_sat (P := fun p m => p = .ref 4 ∧ Pot 3 m) ?_ (fun p m h h1 h2 => ?_)
  · apply run_sat
    unfold b__law_pot
    simp
    have q1 : ∀ i : Int, mulOk 2 i := fun i => .inl (by decide)
    have q2 : ∀ i : Int, mulOk i 69069 := fun i => .inr (.inl (by decide))
    have q3 : ∀ i : Int, mulOk i 48271 := fun i => .inr (.inl (by decide))
    have q4 : ∀ i : Int, mulOk 5 i := fun i => .inl (by decide)
    refine lc_of PV.int (fun z => some (.int (if 0 ≤ z then 2 * z else -1 - 2 * z))) (ns.take 60) (ys := ((ns.take 60).map fun z => if 0 ≤ z then 2 * z else -1 - 2 * z).map PV.int) (by simp [Function.comp_def]) (lk := [(1, (ns.take 60).map PV.int)]) (μ1 := [.ro (ns.map PV.int), .lst ((ns.take 60).map PV.int)]) ?_ (locked_lst _ (by simp)) (by simp; omega) ?_ ?_
    · simp
    · intro x _ l
      refine ⟨_, rfl, ?_⟩
      by_cases c : 0 ≤ x <;> simp [wipe, c, q1]
    generalize hcs : ((ns.take 60).map fun z => if 0 ≤ z then 2 * z else -1 - 2 * z) = cs
    have hl : cs.length ≤ 60 := by rw [← hcs]; simp; omega
    simp
    refine for_sat PV.int cs (fun _ env m => ∃ q f l, env = [some (.ref 0), some (.ref 2), q, some (.int f), some (.int l)] ∧ -(2 ^ 64) < l ∧ l < 2 ^ 64 ∧ m = [.ro (ns.map PV.int), .lst ((ns.map PV.int).take 60), .lst (cs.map PV.int)]) ?_ ⟨none, 7919, 104729 + cs.length, rfl, by omega, by omega, rfl⟩ ?_ ?_
    · rintro i env m ⟨q, f, l, rfl, _, _, rfl⟩
      exact locked_lst _ (by simp)
    · rintro i x env m hx ⟨q, f, l, rfl, _, _, rfl⟩
      simp [q2, q3, q4]
      exact ⟨_, _, _, ⟨rfl, rfl, rfl⟩, by omega, by omega⟩
    · rintro env m ⟨q, f, l, rfl, h1, h2, rfl⟩
      simp
      refine lc_of PV.int (fun z => if decide (1000000000000000 < z) = true then some (.int z) else none) cs (filterMap_if _ _ _) (lk := [(2, cs.map PV.int)]) (μ1 := [.ro (ns.map PV.int), .lst ((ns.map PV.int).take 60), .lst (cs.map PV.int)]) ?_ (locked_lst _ (by simp)) (by simp; omega) ?_ ?_
      · simp
      · intro x _ l
        refine ⟨_, rfl, ?_⟩
        by_cases c : 1000000000000000 < x <;> simp [wipe, c]
      simp
      exact ⟨cs.filter (fun x => decide (1000000000000000 < x)), f, l, 0, by simp, by simp, by have := List.length_filter_le (fun x : Int => decide (1000000000000000 < x)) cs; omega, h1, h2⟩
  · rw [h.1] at h2
    simp [PV.under] at h2
end Law
end
section
set_option autoImplicit false
namespace Law
open PySem PL
theorem part_ev (m : Mem) (hp : Pot 3 m) (k : Nat) (l : List Int) (B : Int) (hB : 0 ≤ B) (hk : 4 < k) (h : m[k]? = some (.lst (l.map .int))) (h0 : 0 < l.length) (h1 : l.length < 1000000) (hl : ∀ z ∈ l, 0 ≤ z ∧ z ≤ B) : (m__law_part [.ref 4, .ref k] m).sat fun p m' => (∃ x : Part, p = x.pv ∧ x.ok B) ∧ Go 3 m m' := by
  apply fn_go hp
  apply run_sat
  unfold b__law_part
  simp
  obtain ⟨p, m2, e, ⟨r, rfl, r0, r1⟩, g⟩ := rsat_ex (dip_ev m hp 9 (by omega) (by omega))
  rw [e]
  simp
  refine ⟨fun _ => ⟨⟨.turn, rfl, by simp [Part.ok, Part.num, hB]⟩, g⟩, fun c0 => ?_⟩
  obtain ⟨p, m3, e, hq, g2⟩ := rsat_ex (pick_ev m2 g.1 k (l.map .int) hk (g.get h hk) (by simpa using h0) (by simpa using h1))
  obtain ⟨z, hz, rfl⟩ := List.mem_map.mp hq
  have g3 := g.trans g2
  have hz2 := hl z hz
  rw [e]
  simp
  refine ⟨fun _ => ⟨⟨.delay z, rfl, hz2⟩, g3⟩, fun _ => ⟨fun _ => ⟨⟨.on z, rfl, hz2⟩, g3⟩, fun _ => ⟨⟨.off z, rfl, hz2⟩, g3⟩⟩⟩
def IsRow (many : Nat) (B : Int) (p : PV) : Prop := ∃ row : List Part, p = pvs row ∧ row.length ≤ many ∧ ∀ x ∈ row, x.ok B
theorem row_ev (m : Mem) (hp : Pot 3 m) (many : Nat) (hm : many ≤ 1000) (k : Nat) (l : List Int) (B : Int) (hB : 0 ≤ B) (hk : 4 < k) (h : m[k]? = some (.lst (l.map .int))) (h0 : 0 < l.length) (h1 : l.length < 1000000) (hl : ∀ z ∈ l, 0 ≤ z ∧ z ≤ B) : (m__law_row [.ref 4, .int many, .ref k] m).sat fun p m' => IsRow many B p ∧ Go 3 m m' := by
  unfold m__law_row
  refine fn_go (P := IsRow many B) hp ?_
  apply run_sat
  unfold b__law_row
  simp
  have hlen : m.length > 4 := hp.lt
  have key : (lc (iRng1 (v 1)) (tn 5) yes (app m__law_part (ac (v 0) (ac (v 2) an))) [5] [some (.ref 4), some (.int many), some (.ref k), none, none, none, none] m).sat fun p m' => p = .ref m.length ∧ ∃ row : List Part, m'[m.length]? = some (.lst (row.map Part.pv)) ∧ row.length ≤ many ∧ (∀ x ∈ row, x.ok B) ∧ Go 3 m m' := by
    refine lc_sat (α := Nat) (lk := []) (μ1 := m) (fun k : Nat => PV.int (0 + k)) (List.range many) (fun i acc m' => m'[m.length]? = some (.lst acc) ∧ ∃ row : List Part, acc = row.map Part.pv ∧ row.length ≤ i ∧ (∀ x ∈ row, x.ok B) ∧ Go 3 m m') ?_ (fun _ _ _ _ => locked_nil _) ?_ (by simp; omega) ?_ ?_ ?_
    · simp [iRng1, rangeL, big62]
      omega
    · refine ⟨by simp, [], rfl, by simp, by simp, Go.ext hp (Ext.app _ _)⟩
    · rintro i acc m' ⟨_, row, rfl, h1, _⟩
      simpa using h1
    · rintro i x acc m' hx ⟨hc, row, rfl, hr1, hr2, g⟩
      simp [wipe]
      obtain ⟨p, m3, e, ⟨y, rfl, hy⟩, g2⟩ := rsat_ex (part_ev m' g.1 k l B hB hk (g.get h hk) h0 h1 hl)
      rw [e]
      simp
      have hc2 := g2.get hc (by omega)
      refine ⟨hc2, ?_, row ++ [y], by simp, by simp; omega, ?_, ?_⟩
      · exact get_set_same hc2
      · intro z hz
        rcases List.mem_append.mp hz with hz | hz
        · exact hr2 z hz
        · simp at hz; subst hz; exact hy
      · have g3 := g.trans g2
        exact ⟨g3.1.set _ (by omega), g3.2.set _ (by omega)⟩
    · rintro acc m' ⟨hc, row, rfl, h1, h2, g⟩
      exact ⟨rfl, row, hc, by simpa using h1, h2, g⟩
  obtain ⟨p, m2, e, rfl, row, hc, hr1, hr2, g⟩ := rsat_ex key
  rw [e]
  simp [hc]
  obtain ⟨p, m3, e, ⟨r, rfl, r0, r1⟩, g2⟩ := rsat_ex (dip_ev m2 g.1 6 (by omega) (by omega))
  rw [e]
  have g3 := g.trans g2
  simp
  refine ⟨fun _ => ?_, fun c0 => ⟨fun _ => ?_, fun _ => ⟨⟨row, rfl, hr1, hr2⟩, g3⟩⟩⟩
  · refine lc_of Part.pv (fun p => if (match p with | .turn => false | _ => true) = true then some p.pv else none) row (filterMap_if _ _ _) rfl (locked_nil _) (by simp; omega) ?_ ?_
    · intro x _ l
      refine ⟨_, rfl, ?_⟩
      cases x <;> simp [Part.pv, wipe]
    simp
    exact ⟨⟨_, rfl, Nat.le_trans (List.length_filter_le _ _) hr1, fun x hx => hr2 x ((List.mem_filter.mp hx).1)⟩, g3.app _⟩
  · refine lc_of Part.pv (fun p => if (match p with | .on _ => true | .delay _ => true | _ => false) = true then some p.pv else none) row (filterMap_if _ _ _) rfl (locked_nil _) (by simp; omega) ?_ ?_
    · intro x _ l
      refine ⟨_, rfl, ?_⟩
      cases x <;> simp [Part.pv, wipe]
    simp
    exact ⟨⟨_, rfl, Nat.le_trans (List.length_filter_le _ _) hr1, fun x hx => hr2 x ((List.mem_filter.mp hx).1)⟩, g3.app _⟩
end Law
end
section
set_option autoImplicit false
/-! What the laws' ends have in common. -/
namespace Law
open PySem PL
theorem seq_sat2 {a b : Sm} {env : PL.Env} {μ : Mem} {W : Wp} (P : PL.Env → Mem → Prop) (hA : (a env μ).sat { nx := P, rt := W.rt, bk := W.bk, ct := W.ct }) (hb : ∀ e m, P e m → (b e m).sat W) : (seq a b env μ).sat W := by
  rw [seq_ev]
  refine then_sat (sat_imp hA (fun e m h => hb e m h) (fun _ _ h => h) (fun _ _ h => h) (fun _ _ h => h))
theorem nx_only {o : Out} {P : PL.Env → Mem → Prop} {W : Wp} (h : o.sat { nx := P }) (i : ∀ e m, P e m → W.nx e m) : o.sat W := sat_imp h i (fun _ _ h => h.elim) (fun _ _ h => h.elim) (fun _ _ h => h.elim)
theorem fAdd_refs {μ : Mem} {a b : Nat} {l r : List PV} (ha : μ[a]? = some (.lst l)) (hb : μ[b]? = some (.lst r)) (hz : l.length + r.length ≤ SL) : fAdd [.ref a, .ref b] μ = .ok (.ref μ.length) (μ ++ [.lst (l ++ r)]) := by
  have : l.length + r.length ≤ 16777216 := hz
  simp [fAdd, ha, hb, newL, this]
theorem c28 : (10 : Int) ^ (28 : Nat) = 10000000000000000000000000000 := by decide
theorem c29 : (10 : Int) ^ (29 : Nat) = 100000000000000000000000000000 := by decide
theorem c30 : (10 : Int) ^ (30 : Nat) = 1000000000000000000000000000000 := by decide
theorem c12 : (10 : Int) ^ (12 : Nat) = 1000000000000 := by decide
theorem c20 : (10 : Int) ^ (20 : Nat) = 100000000000000000000 := by decide
theorem c40 : (10 : Int) ^ 40 = 10000000000000000000000000000000000000000 := by decide
theorem n40 : (10 : Nat) ^ 40 = 10000000000000000000000000000000000000000 := by decide
end Law
end
section
set_option autoImplicit false
/-! Repr of a new list. -/
namespace Law
open PySem PL
theorem fNe_of {p q : PV} {b : Bool} {μ : Mem} (h : fEq [p, q] μ = .ok (.bl b) μ) : fNe [p, q] μ = .ok (.bl (!b)) μ := by
  simp only [fEq, fNe] at h ⊢
  split at h
  · rename_i c hc
    cases h
    rfl
  · cases h
theorem repr_newL {l : List PV} (h : Goods 7000 l) (μ : Mem) : fRepr [.ref μ.length] (μ ++ [.lst l]) = .ok (.str (PyData.list (PV.pds l)).shown) (μ ++ [.lst l]) := repr_goods (by simp) h
theorem pow10 {n : Nat} (hn : n ≤ 1000000) (μ : Mem) : fPow [.int 10, .int (n : Int)] μ = .ok (.int (10 ^ n)) μ := by
  rw [fPow_int, if_pos ⟨by omega, by omega, by decide +kernel⟩]
  rfl
theorem p12 (μ : Mem) : fPow [.int 10, .int 12] μ = .ok (.int (10 ^ 12)) μ := pow10 (n := 12) (by decide) μ
theorem p6 (μ : Mem) : fPow [.int 10, .int 6] μ = .ok (.int (10 ^ 6)) μ := pow10 (n := 6) (by decide) μ
theorem p20 (μ : Mem) : fPow [.int 10, .int 20] μ = .ok (.int (10 ^ 20)) μ := pow10 (n := 20) (by decide) μ
theorem p9 (μ : Mem) : fPow [.int 10, .int 9] μ = .ok (.int (10 ^ 9)) μ := pow10 (n := 9) (by decide) μ
theorem p29 (μ : Mem) : fPow [.int 10, .int 29] μ = .ok (.int (10 ^ 29)) μ := pow10 (n := 29) (by decide) μ
theorem p30 (μ : Mem) : fPow [.int 10, .int 30] μ = .ok (.int (10 ^ 30)) μ := pow10 (n := 30) (by decide) μ
theorem p31 (μ : Mem) : fPow [.int 10, .int 31] μ = .ok (.int (10 ^ 31)) μ := pow10 (n := 31) (by decide) μ
theorem p35 (μ : Mem) : fPow [.int 10, .int 35] μ = .ok (.int (10 ^ 35)) μ := pow10 (n := 35) (by decide) μ
theorem p40 (μ : Mem) : fPow [.int 10, .int 40] μ = .ok (.int (10 ^ 40)) μ := pow10 (n := 40) (by decide) μ
theorem p50 (μ : Mem) : fPow [.int 10, .int 50] μ = .ok (.int (10 ^ 50)) μ := pow10 (n := 50) (by decide) μ
theorem p59 (μ : Mem) : fPow [.int 10, .int 59] μ = .ok (.int (10 ^ 59)) μ := pow10 (n := 59) (by decide) μ
end Law
end
section
set_option autoImplicit false
/-! The law's own functions of k15, run. -/
namespace Law
open PySem PL
def NoBlk (S : List Sg) (b : Bool) (k : Int) : Prop := ∀ z ∈ S, blk b k z = false
theorem law_ahead_ev (S : List Sg) (b : Bool) (k : Int) (μ : Mem) : m__law_ahead [.tup (S.map Sg.pv), wrd b, .int k] μ = .ok (.int (ph S b k)) μ := by
  apply fn_sat_data (by simp)
  apply run_sat
  unfold b__law_ahead
  simp only [List.map_cons, List.map_nil, List.length_cons, List.length_nil, List.replicate, List.cons_append, List.nil_append, Nat.reduceAdd, Nat.reduceSub]
  obtain ⟨T, hT⟩ : ∃ T : PV, T = .tup (S.map Sg.pv) := ⟨_, rfl⟩
  rw [← hT]
  refine seq_sat (fun e m => m = μ ∧ e = [some T, some (wrd b), some (.int k), some (.int 0), none, none]) (by simp) ?_
  rintro e m ⟨rfl, rfl⟩
  refine seq_sat2 (fun e m' => m' = m ∧ NoBlk S b k ∧ ∃ q4 q5, e = [some T, some (wrd b), some (.int k), some (.int (mst S (!b))), q4, q5]) ?_ ?_
  · simp only [forS_ev]
    have hit : iVal (v 0) [some T, some (wrd b), some (.int k), some (.int 0), none, none] m = .ok ⟨S.map Sg.pv, []⟩ m := by
      rw [hT]; simp
    rw [hit]
    simp only [Out.of_ok]
    refine for_sat0 Sg.pv S (fun i e m' => m' = m ∧ NoBlk (S.take i) b k ∧ ∃ q4 q5, e = [some T, some (wrd b), some (.int k), some (.int (mst (S.take i) (!b))), q4, q5]) (fun _ _ _ _ => locked_nil _) ⟨rfl, (fun _ h => by simp at h), none, none, rfl⟩ ?_ ?_
    · rintro i s e m' hi ⟨rfl, hb, q4, q5, rfl⟩
      have ht : S.take (i + 1) = S.take i ++ [s] := by rw [List.take_succ, hi]; rfl
      rcases s with ⟨c, n⟩
      by_cases hk : blk b k (c, n) = true
      · have e1 : ph S b k = mst (S.take i) (!b) := by unfold ph; rw [ahd_at hb hi hk]
        unfold blk at hk
        simp at hk
        obtain ⟨rfl, hk⟩ := hk
        rw [e1]
        simp [Sg.pv, wrd, hk]
      · have hkf : blk b k (c, n) = false := by simpa using hk
        have hall : NoBlk (S.take (i + 1)) b k := fun z hz => by
          rw [ht] at hz
          rcases List.mem_append.mp hz with h | h
          · exact hb z h
          · rw [List.mem_singleton] at h; rw [h]; exact hkf
        have hm : mst (S.take (i + 1)) (!b) = if c == !b then max (mst (S.take i) (!b)) n else mst (S.take i) (!b) := by rw [ht, mst_snoc]
        generalize mst (S.take i) (!b) = a at *
        generalize mst (S.take (i + 1)) (!b) = a' at *
        subst hm
        unfold blk at hkf
        have hw : ∀ c : Bool, wrd c = .str (if c then "drop" else "fill" : String) := fun _ => rfl
        cases b <;> cases c
        · simp at hkf
          have : ¬ k < n := by omega
          simp [Sg.pv, wrd, this]
          exact hall
        · simp [Sg.pv, wrd]
          refine ⟨hall, ?_⟩
          rw [Int.max_def]; split <;> split <;> omega
        · simp [Sg.pv, wrd]
          refine ⟨hall, ?_⟩
          rw [Int.max_def]; split <;> split <;> omega
        · simp at hkf
          have : ¬ k < n := by omega
          simp [Sg.pv, wrd, this]
          exact hall
    · rintro e m' ⟨rfl, hb, q4, q5, rfl⟩
      rw [List.take_length] at hb ⊢
      exact ⟨rfl, hb, q4, q5, rfl⟩
  rintro e m' ⟨rfl, hb, q4, q5, rfl⟩
  have e1 : ph S b k = mst S (!b) := by unfold ph; rw [ahd_none hb]
  rw [e1]
  simp
theorem is_right_ev {S : List Sg} (hs : ∀ s ∈ S, sml s.2) (hl : S.length ≤ 100000) (k : Int) (μ : Mem) : m__law_is_right [.tup (S.map Sg.pv), .int k] μ = .ok (.bl true) μ := by
  apply fn_sat_data rfl
  apply run_sat
  unfold b__law_is_right
  simp only [List.map_cons, List.map_nil, List.length_cons, List.length_nil, List.replicate, List.cons_append, List.nil_append, Nat.reduceAdd, Nat.reduceSub]
  have a1 := fun μ => law_ahead_ev S true k μ
  have a2 := fun μ => law_ahead_ev S false k μ
  have f1 := fun μ => filled_ahead_ev S k hl μ
  have f2 := fun μ => dropped_ahead_ev S k hl μ
  have w1 : wrd true = .str ("drop" : Str) := rfl
  have w2 : wrd false = .str ("fill" : Str) := rfl
  rw [w1] at a1
  rw [w2] at a2
  have g1 : Good 1 (.int (ph S true k)) := Good.int (ph_sml hs true k)
  have g2 : Good 1 (.int (ph S false k)) := Good.int (ph_sml hs false k)
  generalize ph S true k = x at *
  generalize ph S false k = y at *
  generalize PV.tup (S.map Sg.pv) = T at *
  have gg : Goods 3000 [.int x, .int y] := (Goods.cons g1 (Goods.cons g2 Goods.nil)).mono (by omega)
  have r1 : fRepr [.ref (μ.length + 3)] (μ ++ [PO.lst [.int x, .int y], .lst [.int x, .int y], .lst [.int x, .int y], .lst [.ref (μ.length + 1), .ref (μ.length + 2)]]) = .ok (.str (PyData.list [.list (PV.pds [.int x, .int y]), .list (PV.pds [.int x, .int y])]).shown) (μ ++ [PO.lst [.int x, .int y], .lst [.int x, .int y], .lst [.int x, .int y], .lst [.ref (μ.length + 1), .ref (μ.length + 2)]]) := repr_two (a := μ.length + 1) (b := μ.length + 2) (by simp) (by simp) (by simp) gg gg
  have r2 : fRepr [.ref (μ.length + 4)] (μ ++ [PO.lst [.int x, .int y], .lst [.int x, .int y], .lst [.int x, .int y], .lst [.ref (μ.length + 1), .ref (μ.length + 2)], .lst [.ref μ.length, .ref μ.length]]) = .ok (.str (PyData.list [.list (PV.pds [.int x, .int y]), .list (PV.pds [.int x, .int y])]).shown) (μ ++ [PO.lst [.int x, .int y], .lst [.int x, .int y], .lst [.int x, .int y], .lst [.ref (μ.length + 1), .ref (μ.length + 2)], .lst [.ref μ.length, .ref μ.length]]) := repr_two (a := μ.length) (b := μ.length) (by simp) (by simp) (by simp) gg gg
  generalize (PyData.list [.list (PV.pds [.int x, .int y]), .list (PV.pds [.int x, .int y])]).shown = t at *
  simp [a1, a2, f1, f2, perm, r1, r2]
theorem lcontrary_ev (p : Part) (μ : Mem) : m__law_contrary [p.pv] μ = .ok p.ctr.pv μ := by
  apply fn_pure0
  rw [run_ev]
  unfold b__law_contrary
  have e : ∀ (x y : PV) (μ : Mem), fAdd [.tup [x], .tup [y]] μ = .ok (.tup [x, y]) μ := fun x y μ => by
    have := fAdd_tup (a := [x]) (b := [y]) (μ := μ) (by show 2 ≤ 16777216; decide)
    simpa using this
  cases p <;> simp [Part.pv, Part.ctr, e]
def numL (S : List Sg) : List Int := [0, 1, 10 ^ 32] ++ S.flatMap fun s => [s.2 - 1, s.2, s.2 + 1]
theorem numL_snoc (S : List Sg) (s : Sg) : numL (S ++ [s]) = numL S ++ [s.2 - 1, s.2, s.2 + 1] := by unfold numL; simp
theorem numL_len : ∀ S : List Sg, (numL S).length = 3 + 3 * S.length := by
  intro S
  induction S using rev_ind with
  | h0 => rfl
  | hs S x ih => rw [numL_snoc, List.length_append, ih]; simp; omega
theorem numbers_ev {S : List Sg} (hl : S.length ≤ 20) (μ : Mem) : (m__law_numbers [.tup (S.map Sg.pv)] μ).sat (NewL μ ((sortS (numL S)).map .int)) := by
  apply fn_sat_new
  apply run_sat
  unfold b__law_numbers
  simp only [List.map_cons, List.map_nil, List.length_cons, List.length_nil, List.replicate, List.cons_append, List.nil_append, Nat.reduceAdd, Nat.reduceSub]
  have p32 : ∀ μ, fPow [.int 10, .int 32] μ = .ok (.int (10 ^ 32)) μ := fun μ => pow10 (n := 32) (by decide) μ
  obtain ⟨T, hT⟩ : ∃ T : PV, T = .tup (S.map Sg.pv) := ⟨_, rfl⟩
  rw [← hT]
  refine seq_sat (fun e m => m = μ ++ [.lst ((numL []).map .int)] ∧ e = [some T, some (.ref μ.length), none, none]) (by simp [p32, numL, -Int.reducePow]) ?_
  rintro e m ⟨rfl, rfl⟩
  refine seq_sat (fun e m => Ext μ m ∧ ∃ k q2 q3, μ.length ≤ k ∧ m[k]? = some (.lst ((numL S).map .int)) ∧ e = [some T, some (.ref k), q2, q3]) ?_ ?_
  · simp only [forS_ev]
    have hit : iVal (v 0) [some T, some (.ref μ.length), none, none] (μ ++ [PO.lst ((numL []).map .int)]) = .ok ⟨S.map Sg.pv, []⟩ (μ ++ [.lst ((numL []).map .int)]) := by
      rw [hT]; simp
    rw [hit]
    simp only [Out.of_ok]
    refine for_sat0 Sg.pv S (fun i e m => Ext μ m ∧ ∃ k q2 q3, μ.length ≤ k ∧ m[k]? = some (.lst ((numL (S.take i)).map .int)) ∧ e = [some T, some (.ref k), q2, q3]) (fun _ _ _ _ => locked_nil _) ⟨Ext.app _ _, μ.length, none, none, Nat.le_refl _, by simp, rfl⟩ ?_ ?_
    · rintro i s e m hi ⟨x, k, q2, q3, hk, hc, rfl⟩
      have hi2 := (List.getElem?_eq_some_iff.mp hi).1
      have ht : S.take (i + 1) = S.take i ++ [s] := by rw [List.take_succ, hi]; rfl
      have hlen := numL_len (S.take i)
      rw [List.length_take] at hlen
      rcases s with ⟨c, n⟩
      have hm := numL_snoc (S.take i) (c, n)
      rw [← ht] at hm
      simp only at hm
      generalize numL (S.take i) = L at *
      generalize numL (S.take (i + 1)) = L' at *
      have hkl : k < m.length := (List.getElem?_eq_some_iff.mp hc).1
      have fa : fAdd [.ref k, .ref m.length] (m ++ [PO.lst [.int (n - 1), .int n, .int (n + 1)]]) = .ok (.ref (m.length + 1)) (m ++ [PO.lst [.int (n - 1), .int n, .int (n + 1)]] ++ [.lst (L'.map .int)]) := by
        have h1 : (m ++ [PO.lst [.int (n - 1), .int n, .int (n + 1)]])[k]? = some (.lst (L.map .int)) := get_some hc
        have h2 : (m ++ [PO.lst [.int (n - 1), .int n, .int (n + 1)]])[m.length]? = some (.lst [.int (n - 1), .int n, .int (n + 1)]) := by simp
        have h3 : (L.map PV.int).length + [PV.int (n - 1), .int n, .int (n + 1)].length ≤ SL := by
          have : SL = 16777216 := rfl
          simp; omega
        simp only [fAdd, h1, h2, if_pos h3, newL]
        rw [hm]
        simp
      simp [Sg.pv, fa]
      exact ⟨x.trans (Ext.app _ _), by omega⟩
    · rintro e m ⟨x, k, q2, q3, hk, hc, rfl⟩
      rw [List.take_length] at hc
      exact ⟨x, k, q2, q3, hk, hc, rfl⟩
  rintro e m ⟨x, k, q2, q3, hk, hc, rfl⟩
  have hlen := numL_len S
  have fs : fSortSet [.ref k] m = .ok (.ref m.length) (m ++ [.lst ((sortS (numL S)).map .int)]) := by
    have : (getL m (.ref k)).bind intsOf = some (numL S) := by simp [getL, hc, intsOf_mapI]
    simp only [fSortSet, this]
    rw [if_pos (by omega)]
    rfl
  simp [fs]
  exact newL_mk (Nat.le_trans hk (Nat.le_of_lt (List.getElem?_eq_some_iff.mp hc).1)) (by simp) (x.trans (Ext.app _ _))
end Law
end
section
set_option autoImplicit false
/-! == of data: run. -/
namespace Law
open PySem PL
theorem fEq_data {k j : Nat} {p q : PV} (hs : scalP p q = none) (h1 : Good k p) (h2 : Good j q) (μ : Mem) : fEq [p, q] μ = .ok (.bl (PyData.eqv p.pd q.pd)) μ := by
  simp only [fEq, eqR, hs]
  rw [toD_data h1.data, toD_data h2.data]
  simp only
  rw [if_pos ⟨shaped_sm h1.sm (by have := h1.dp; omega), shaped_sm h2.sm (by have := h2.dp; omega)⟩]
theorem fNe_data {k j : Nat} {p q : PV} (hs : scalP p q = none) (h1 : Good k p) (h2 : Good j q) (μ : Mem) : fNe [p, q] μ = .ok (.bl (!PyData.eqv p.pd q.pd)) μ := by
  simp only [fNe, eqR, hs]
  rw [toD_data h1.data, toD_data h2.data]
  simp only
  rw [if_pos ⟨shaped_sm h1.sm (by have := h1.dp; omega), shaped_sm h2.sm (by have := h2.dp; omega)⟩]
end Law
end
section
set_option autoImplicit false
/-! k15: the law. -/
namespace Law
open PySem PL
abbrev fars15 : List Int := [1, 1000, 1000000000, 1000000000000000, 1000000000000000000000, 1000000000000000000000000000]
abbrev En15 (j : Nat) (q2 q3 q4 q5 q6 q7 q8 q9 q10 q11 q12 q13 : Option PV) : PL.Env := [some (.ref 0), some (.ref j), q2, q3, q4, q5, q6, q7, q8, q9, q10, q11, q12, q13]
abbrev Bd15 : Int := 10 ^ 29
theorem fit_row15 {row : List Part} {n : Nat} (hn : n ≤ 100) (hl : row.length ≤ n) (h : ∀ p ∈ row, p.ok Bd15) : Fit row := ⟨fun p hp => (h p hp).1, ⟨10 ^ 29, by decide +kernel, fun p hp => h p hp⟩, by omega⟩
def In15 (e : PL.Env) (m : Mem) : Prop := Pot 3 m ∧ ∃ q2 q3 q4 q5 q6 q7 q8 q9 q10 q11 q12 q13, e = En15 4 q2 q3 q4 q5 q6 q7 q8 q9 q10 q11 q12 q13
/-- what is told of a number -/
theorem here_ev {S : List Sg} (hl : S.length ≤ 100000) (k : Int) (μ : Mem) : m_filled_ahead [.tup (S.map Sg.pv), .int k] μ = .ok (.int (ph S true k)) μ ∧ m_dropped_ahead [.tup (S.map Sg.pv), .int k] μ = .ok (.int (ph S false k)) μ := ⟨filled_ahead_ev S k hl μ, dropped_ahead_ev S k hl μ⟩
theorem two_ne {μ : Mem} {a b : Nat} {x y z w : Int} (ha : μ[a]? = some (.lst [.int x, .int y])) (hb : μ[b]? = some (.lst [.int z, .int w])) : fNe [.ref a, .ref b] μ = .ok (.bl (!(decide (x = z) && decide (y = w)))) μ := by
  have ta : toD μ (.ref a) = some (.list (PV.pds [.int x, .int y])) := toD_lst ha (by simp)
  have tb : toD μ (.ref b) = some (.list (PV.pds [.int z, .int w])) := toD_lst hb (by simp)
  have sh : ∀ x y : Int, SeqAt.shaped (.list (PV.pds [.int x, .int y])) = true := fun x y => by
    unfold SeqAt.shaped
    simp [PyData.canLay0, PyData.canLayAll0, PyData.depth, PyData.depthAll]
  have e : eqR μ (.ref a) (.ref b) = some (decide (x = z) && decide (y = w)) := by
    unfold eqR
    simp only [scalP, ta, tb, sh, and_self, if_true]
    simp [PyData.eqv, PyData.eqvAll]
    rw [Bool.eq_iff_iff]
    simp
  simp only [fNe, e]
def Lp15 (kn : Nat) (ns : List Int) (S : List Sg) (env : Option PV → Nat → Option PV → PL.Env) (i : Nat) (e : PL.Env) (m : Mem) : Prop := Pot 3 m ∧ m[kn]? = some (.lst (ns.map .int)) ∧ ∃ (q8 : Option PV) (b : Nat) (u z : Int) (q12 : Option PV), m[b]? = some (.lst [.int u, .int z]) ∧ (∀ j n, i ≤ j → ns[j]? = some n → u ≤ ph S true n ∧ z ≤ ph S false n) ∧ e = env q8 b q12
theorem law_pure (ns : List Int) (hn : ns.length ≤ 63) (_ : ∀ z ∈ ns, Builtin.Int.intBits z ≤ 1048576) : ∃ μ', m_law [.ref 0] [.ro (ns.map PV.int)] = .ok (.bl true) μ' := by
  have key : (run 14 b_law [.ref 0] [.ro (ns.map PV.int)]).sat fun p _ => p = .bl true := by
    apply run_sat
    unfold b_law
    simp only [List.map_cons, List.map_nil, List.length_cons, List.length_nil, List.replicate, List.cons_append, List.nil_append, Nat.reduceAdd, Nat.reduceSub]
    refine seq_sat (fun e m => e = En15 4 none none none none none none none none none none none none ∧ Pot 3 m) ?_ ?_
    · obtain ⟨p, m, e, rfl, hp⟩ := rsat_ex (pot_ev ns hn)
      simp [e, hp]
    rintro e m ⟨rfl, hp⟩
    have p3 : ∀ μ, fPow [.int 10, .int 3] μ = .ok (.int 1000) μ := fun μ => pow10 (n := 3) (by decide) μ
    have p9 : ∀ μ, fPow [.int 10, .int 9] μ = .ok (.int 1000000000) μ := fun μ => pow10 (n := 9) (by decide) μ
    have p15 : ∀ μ, fPow [.int 10, .int 15] μ = .ok (.int 1000000000000000) μ := fun μ => pow10 (n := 15) (by decide) μ
    have p21 : ∀ μ, fPow [.int 10, .int 21] μ = .ok (.int 1000000000000000000000) μ := fun μ => pow10 (n := 21) (by decide) μ
    have p27 : ∀ μ, fPow [.int 10, .int 27] μ = .ok (.int 1000000000000000000000000000) μ := fun μ => pow10 (n := 27) (by decide) μ
    refine seq_sat In15 ?_ ?_
    · simp only [forS_ev]
      have hr : iRng1 (c (.int 10)) (En15 4 none none none none none none none none none none none none) m = .ok ⟨(List.range 10).map (fun k : Nat => PV.int (0 + k)), []⟩ m := by
        simp [iRng1, big62, rangeL]
      rw [hr]
      simp only [Out.of_ok]
      refine for_sat0 (fun k : Nat => PV.int (0 + k)) (List.range 10) (fun _ => In15) (fun _ _ _ _ => locked_nil _) ⟨hp, _, _, _, _, _, _, _, _, _, _, _, _, rfl⟩ ?_ (fun _ _ h => h)
      rintro i x e m hx ⟨hp, q2, q3, q4, q5, q6, q7, q8, q9, q10, q11, q12, q13, rfl⟩
      simp only [turn_ev, tn_ev, Out.of_ok, En15, List.set]
      generalize (0 + (x : Int)) = y
      refine seq_sat (fun e m => Pot 3 m ∧ ∃ far : Int, 0 ≤ far ∧ far ≤ 10 ^ 27 ∧ e = En15 4 (some (.int y)) (some (.int far)) q4 q5 q6 q7 q8 q9 q10 q11 q12 q13) ?_ ?_
      · obtain ⟨p, m2, e, ⟨z, hz, rfl⟩, g⟩ := rsat_ex (pick_int _ (hp.app [.lst (fars15.map .int)]) m.length fars15 hp.lt (by simp) (by simp) (by simp))
        simp at e
        have fl : ∀ μ, fLst [.int 1, .int 1000, .int 1000000000, .int 1000000000000000, .int 1000000000000000000000, .int 1000000000000000000000000000] μ = .ok (.ref μ.length) (μ ++ [.lst [.int 1, .int 1000, .int 1000000000, .int 1000000000000000, .int 1000000000000000000000, .int 1000000000000000000000000000]]) := fun μ => fLst_ok μ (by show (6 : Nat) ≤ 16777216; decide)
        simp [p3, p9, p15, p21, p27, fl, e]
        refine ⟨g.1, ?_⟩
        simp at hz
        omega
      rintro e m ⟨hp, far, hf0, hf1, rfl⟩
      refine seq_sat (fun e m => Pot 3 m ∧ ∃ k, Szs Bd15 k m ∧ e = En15 4 (some (.int y)) (some (.int far)) (some (.ref k)) q5 q6 q7 q8 q9 q10 q11 q12 q13) ?_ ?_
      · have fl : ∀ (a b d f g : Int) μ, fLst [.int a, .int b, .int d, .int f, .int g] μ = .ok (.ref μ.length) (μ ++ [.lst [.int a, .int b, .int d, .int f, .int g]]) := fun a b d f g μ => fLst_ok μ (by show (5 : Nat) ≤ 16777216; decide)
        have q2 : mulOk 2 far := .inl (by decide)
        have q3 : mulOk 3 far := .inl (by decide)
        have q5 : mulOk 5 far := .inl (by decide)
        have e29 : Bd15 = 100000000000000000000000000000 := by decide
        by_cases c : y < 5
        · simp [c, fl]
          refine ⟨hp.app _, ⟨[0, 1, 2, 3, 5], by simp, by simp, by simp, ?_⟩, hp.lt⟩
          rw [e29]; simp
        · simp [c, fl, q2, q3, q5]
          refine ⟨hp.app _, ⟨[1, far, 2 * far, 3 * far + 1, 5 * far], by simp, by simp, by simp, ?_⟩, hp.lt⟩
          rw [e29]; simp; omega
      rintro e m ⟨hp, k, hs, rfl⟩
      refine seq_sat (fun e m => Pot 3 m ∧ ∃ row : List Part, row.length ≤ 9 ∧ (∀ p ∈ row, p.ok Bd15) ∧ e = En15 4 (some (.int y)) (some (.int far)) (some (.ref k)) (some (pvs row)) q6 q7 q8 q9 q10 q11 q12 q13) ?_ ?_
      · obtain ⟨p, m1, e1, ⟨r, rfl, r0, r1⟩, g1⟩ := rsat_ex (dip_ev m hp 10 (by omega) (by omega))
        obtain ⟨⟨szs, s1, s3, s4, s5⟩, s2⟩ := hs.go g1
        obtain ⟨p, m2, e2, ⟨row, rfl, hl, hok⟩, g2⟩ := rsat_ex (row_ev m1 g1.1 r.toNat (by omega) k szs Bd15 (by decide) s2 s1 s3 s4 s5)
        have hrn : ((r.toNat : Nat) : Int) = r := by omega
        rw [hrn] at e2
        simp [e1, e2]
        exact ⟨g2.1, row, by omega, hok, rfl⟩
      rintro e m ⟨hp, row, hl, hok, rfl⟩
      have hfit := fit_row15 (by omega) hl hok
      have hctr : ∀ p ∈ row.map Part.ctr, p.ok Bd15 := fun p hp => by
        obtain ⟨q, hq, rfl⟩ := List.mem_map.mp hp
        have := hok q hq
        unfold Part.ok at this ⊢
        rw [ctr_num]; exact this
      have hfit2 := fit_row15 (n := 9) (by omega) (row := row.map Part.ctr) (by simpa using hl) hctr
      obtain ⟨S, hS⟩ : ∃ S, S = (wks row).st := ⟨_, rfl⟩
      have hsm := fit_sml hfit row.length
      rw [List.take_length, ← hS] at hsm
      have hS9 : S.length ≤ 9 := by rw [hS]; exact Nat.le_trans (st_few row hfit.pos (hts_sml hfit)) hl
      have hpos : ∀ s ∈ S, 1 ≤ s.2 := by rw [hS]; exact st_pos hfit.pos
      have est := stages_fit hfit
      rw [← hS] at est
      have est2 := stages_fit hfit2
      rw [wks_ctr] at est2
      have hmst : (wks row).mir.st = sws S := by rw [hS]; rfl
      rw [hmst] at est2
      refine seq_sat (fun e m => Pot 3 m ∧ ∃ a : Nat, 4 < a ∧ m[a]? = some (.lst [.int 0, .int 0]) ∧ e = En15 4 (some (.int y)) (some (.int far)) (some (.ref k)) (some (pvs row)) q6 q7 q8 (some (.tup (S.map Sg.pv))) (some (.tup ((sws S).map Sg.pv))) (some (.ref a)) q12 q13) ?_ ?_
      · have lc := lc_pure (it := iVal (v 5)) (g := tn 13) (t := yes) (e := app m__law_contrary (ac (v 13) an)) (vs := [13]) (env := En15 4 (some (.int y)) (some (.int far)) (some (.ref k)) (some (pvs row)) q6 q7 q8 q9 q10 q11 q12 q13) (μ := m) (μ1 := m) (lk := []) Part.pv (fun p => some p.ctr.pv) row (by simp) (fun _ => locked_nil _) (by show _ < 16777216; omega) (fun p _ L => ⟨_, rfl, by simp [wipe, lcontrary_ev]⟩)
        have hL2 : row.filterMap (fun p => some p.ctr.pv) = (row.map Part.ctr).map Part.pv := by simp
        rw [hL2] at lc
        have est2' : ∀ μ, m_stages [.tup ((row.map Part.ctr).map Part.pv)] μ = .ok (.tup ((sws S).map Sg.pv)) μ := est2
        generalize (row.map Part.ctr).map Part.pv = L2 at *
        generalize pvs row = P at *
        generalize PV.tup (S.map Sg.pv) = T1 at *
        generalize PV.tup ((sws S).map Sg.pv) = T2 at *
        simp [par3_ev, est, lc, est2']
        exact ⟨hp.app _, by have := hp.lt; omega⟩
      rintro e m ⟨hp, a, ha, hca, rfl⟩
      have gT : Good 601 (.tup (S.map Sg.pv)) := by rw [hS]; exact st_good hfit
      have rT : ∀ μ, fRepr [.tup (S.map Sg.pv)] μ = .ok (.str (PV.tup (S.map Sg.pv)).pd.shown) μ := fun μ => repr_good (gT.mono (by omega))
      obtain ⟨w, hw⟩ : ∃ w, w = (PV.tup (S.map Sg.pv)).pd.shown := ⟨_, rfl⟩
      rw [← hw] at rT
      obtain ⟨T1, hT1⟩ : ∃ T, T = PV.tup (S.map Sg.pv) := ⟨_, rfl⟩
      obtain ⟨T2, hT2⟩ : ∃ T, T = PV.tup ((sws S).map Sg.pv) := ⟨_, rfl⟩
      rw [← hT1] at rT est
      rw [← hT1, ← hT2]
      refine seq_sat (fun e m' => m' = m ∧ e = En15 4 (some (.int y)) (some (.int far)) (some (.ref k)) (some (pvs row)) (some (.str w)) q7 q8 (some T1) (some T2) (some (.ref a)) q12 q13) (by simp [rT]) ?_
      rintro e m' ⟨rfl, rfl⟩
      refine seq_sat (fun e m => Pot 3 m ∧ m[a]? = some (.lst [.int 0, .int 0]) ∧ ∃ F : List Part, Fit F ∧ e = En15 4 (some (.int y)) (some (.int far)) (some (.ref k)) (some (pvs row)) (some (.str w)) (some (.tup ((wks F).st.map Sg.pv))) q8 (some T1) (some T2) (some (.ref a)) q12 q13) ?_ ?_
      · obtain ⟨p, m2, e2, ⟨r, rfl, r0, r1⟩, g2⟩ := rsat_ex (dip_ev m' hp ((row.length : Nat) + 1) (by omega) (Int.lt_of_le_of_lt (show ((row.length : Nat) : Int) + 1 ≤ 20 by omega) (by decide)))
        have hF : ∀ p ∈ row ++ [.turn] ++ row.take r.toNat, p.ok Bd15 := fun p hp => by
          rcases List.mem_append.mp hp with h | h
          · rcases List.mem_append.mp h with h | h
            · exact hok p h
            · rw [List.mem_singleton] at h; rw [h]; exact ⟨by decide, by decide⟩
          · exact hok p (List.mem_of_mem_take h)
        have hFl : (row ++ [Part.turn] ++ row.take r.toNat).length ≤ 20 := by simp; omega
        have hFit := fit_row15 (by omega) hFl hF
        have e3 := stages_fit hFit
        obtain ⟨T4, hT4⟩ : ∃ T, T = PV.tup ((wks (row ++ [Part.turn] ++ row.take r.toNat)).st.map Sg.pv) := ⟨_, rfl⟩
        rw [← hT4] at e3
        obtain ⟨F, hFe⟩ : ∃ F, F = row ++ [Part.turn] ++ row.take r.toNat := ⟨_, rfl⟩
        rw [← hFe] at e3 hT4 hFit
        have a1 : ∀ μ, fAdd [pvs row, .tup [.tup [.str "turn"]]] μ = .ok (pvs (row ++ [.turn])) μ := fun μ => by
          have := fAdd_tup (a := row.map Part.pv) (b := [.tup [.str "turn"]]) (μ := μ) (by have : SL = 16777216 := rfl; simp; omega)
          rw [this, pvs, List.map_append]
          rfl
        have a2 : ∀ μ, fAdd [pvs (row ++ [.turn]), pvs (row.take r.toNat)] μ = .ok (pvs F) μ := fun μ => by
          rw [hFe]
          have := fAdd_tup (a := (row ++ [Part.turn]).map Part.pv) (b := (row.take r.toNat).map Part.pv) (μ := μ) (by have : SL = 16777216 := rfl; simp; omega)
          rw [this, ← List.map_append]
        have a3 : ∀ μ, fSl [pvs row, .non, .int r] μ = .ok (pvs (row.take r.toNat)) μ := fun μ => by
          rw [fSl_tup01, cut_toI _ r0, ← List.map_take]
        have a4 : ∀ μ, fLen [pvs row] μ = .ok (.int (row.length : Nat)) μ := fun μ => by simp
        have hc2 := g2.get hca ha
        clear hFe
        generalize pvs F = P1 at *
        generalize pvs (row ++ [.turn]) = P2 at *
        generalize pvs (row.take r.toNat) = P3 at *
        generalize pvs row = P at *
        simp [a4, e2, a1, a2, a3, e3, -fSl_tup01]
        exact ⟨g2.1, hc2, F, hFit, hT4⟩
      rintro e m ⟨hp, hca, F, hF, rfl⟩
      obtain ⟨S2, hS2⟩ : ∃ S2, S2 = (wks F).st := ⟨_, rfl⟩
      have hsm2 := fit_sml hF F.length
      rw [List.take_length, ← hS2] at hsm2
      rw [← hS2]
      have ir1 := is_right_ev (S := S) hsm.2.1 (by omega)
      have ir2 := is_right_ev (S := S2) hsm2.2.1 (by omega)
      obtain ⟨T3, hT3⟩ : ∃ T, T = PV.tup (S2.map Sg.pv) := ⟨_, rfl⟩
      rw [← hT1] at ir1
      rw [← hT3] at ir2
      rw [← hT3]
      have f1 := fun k μ => filled_ahead_ev S k (by omega) μ
      have f2 := fun k μ => dropped_ahead_ev S k (by omega) μ
      have f3 := fun k μ => filled_ahead_ev (sws S) k (by simp [sws]; omega) μ
      have f4 := fun k μ => dropped_ahead_ev (sws S) k (by simp [sws]; omega) μ
      simp only [ph_sws, Bool.not_true, Bool.not_false] at f3 f4
      rw [← hT1] at f1 f2
      rw [← hT2] at f3 f4
      obtain ⟨p, m2, en, kn, rfl, hkn, hcn, xn⟩ := rsat_ex (numbers_ev (S := S) (by omega) m)
      rw [← hT1] at en
      obtain ⟨ns, hns⟩ : ∃ ns, ns = sortS (numL S) := ⟨_, rfl⟩
      have hasc : ns.Pairwise (· < ·) := by rw [hns]; exact sortS_asc _
      rw [← hns] at hcn
      have hl0 := hp.lt
      refine seq_sat (fun e m => Pot 3 m ∧ ∃ q8 q11 q12, e = En15 4 (some (.int y)) (some (.int far)) (some (.ref k)) (some (pvs row)) (some (.str w)) (some T3) q8 (some T1) (some T2) q11 q12 q13) ?_ ?_
      · simp only [forS_ev]
        have hit : iVal (app m__law_numbers (ac (v 9) an)) (En15 4 (some (.int y)) (some (.int far)) (some (.ref k)) (some (pvs row)) (some (.str w)) (some T3) q8 (some T1) (some T2) (some (.ref a)) q12 q13) m = .ok ⟨ns.map PV.int, [(kn, ns.map PV.int)]⟩ m2 := by
          simp [en, itsOf, getL, hcn]
        rw [hit]
        simp only [Out.of_ok]
        refine for_sat0 PV.int ns (Lp15 kn ns S (fun q8 b q12 => En15 4 (some (.int y)) (some (.int far)) (some (.ref k)) (some (pvs row)) (some (.str w)) (some T3) q8 (some T1) (some T2) (some (.ref b)) q12 q13)) (fun _ _ m ⟨_, h, _⟩ => locked_lst _ h) ⟨hp.ext xn, hcn, q8, a, 0, 0, q12, xn.get hca, fun _ _ _ _ => ⟨mst_nn _ _, mst_nn _ _⟩, rfl⟩ ?_ ?_
        · rintro i n e m hi ⟨hp, hcn, q8, b, u, z, q12, hb, hle, rfl⟩
          simp only [turn_ev, tn_ev, Out.of_ok, En15, List.set]
          obtain ⟨h1, h2⟩ := hle i n (Nat.le_refl _) hi
          refine seq_sat (fun e m' => m' = m ∧ e = En15 4 (some (.int y)) (some (.int far)) (some (.ref k)) (some (pvs row)) (some (.str w)) (some T3) (some (.int n)) (some T1) (some T2) (some (.ref b)) q12 q13) (by simp [ir1, ir2]) ?_
          rintro e m' ⟨rfl, rfl⟩
          have hnext : ∀ j n', i + 1 ≤ j → ns[j]? = some n' → ph S true n ≤ ph S true n' ∧ ph S false n ≤ ph S false n' := fun j n' hj hj2 => by
            have hlt : n < n' := by
              obtain ⟨w1, e1⟩ := List.getElem?_eq_some_iff.mp hi
              obtain ⟨w2, e2⟩ := List.getElem?_eq_some_iff.mp hj2
              have := List.pairwise_iff_getElem.mp hasc i j w1 w2 (by omega)
              rw [e1, e2] at this
              exact this
            exact ⟨ph_mono S true (by omega), ph_mono S false (by omega)⟩
          have g1 := f1 n
          have g2 := f2 n
          have g3 := f3 n
          have g4 := f4 n
          clear f1 f2 f3 f4 ir1 ir2
          generalize ph S true n = y1 at *
          generalize ph S false n = y2 at *
          refine seq_sat (fun e m => m = m' ++ [.lst [.int y1, .int y2]] ∧ e = En15 4 (some (.int y)) (some (.int far)) (some (.ref k)) (some (pvs row)) (some (.str w)) (some T3) (some (.int n)) (some T1) (some T2) (some (.ref b)) (some (.ref m'.length)) q13) (by simp [g1, g2]) ?_
          rintro e m ⟨rfl, rfl⟩
          have hbl : b < m'.length := (List.getElem?_eq_some_iff.mp hb).1
          have n1 : ¬ y1 < u := by omega
          have n2 : ¬ y2 < z := by omega
          refine seq_sat (fun e m => m = m' ++ [.lst [.int y1, .int y2]] ∧ e = En15 4 (some (.int y)) (some (.int far)) (some (.ref k)) (some (pvs row)) (some (.str w)) (some T3) (some (.int n)) (some T1) (some T2) (some (.ref b)) (some (.ref m'.length)) q13) ?_ ?_
          · have hb2 : (m' ++ [PO.lst [.int y1, .int y2]])[b]? = some (.lst [.int u, .int z]) := get_some hb
            simp [hb2, n1, n2]
          rintro e m ⟨rfl, rfl⟩
          refine seq_sat (fun e m => Ext m' m ∧ m[m'.length]? = some (.lst [.int y1, .int y2]) ∧ e = En15 4 (some (.int y)) (some (.int far)) (some (.ref k)) (some (pvs row)) (some (.str w)) (some T3) (some (.int n)) (some T1) (some T2) (some (.ref b)) (some (.ref m'.length)) q13) ?_ ?_
          · have rv : fRevL [.ref m'.length] (m' ++ [PO.lst [.int y1, .int y2]] ++ [.lst [.int y2, .int y1]]) = .ok (.ref (m'.length + 2)) (m' ++ [PO.lst [.int y1, .int y2]] ++ [.lst [.int y2, .int y1]] ++ [.lst [.int y2, .int y1]]) := by
              simp [fRevL, fRev, getL, newL]
            have tn : fNe [.ref (m'.length + 1), .ref (m'.length + 2)] (m' ++ [PO.lst [.int y1, .int y2]] ++ [.lst [.int y2, .int y1]] ++ [.lst [.int y2, .int y1]]) = .ok (.bl false) (m' ++ [PO.lst [.int y1, .int y2]] ++ [.lst [.int y2, .int y1]] ++ [.lst [.int y2, .int y1]]) := by
              have := two_ne (μ := m' ++ [PO.lst [.int y1, .int y2]] ++ [.lst [.int y2, .int y1]] ++ [.lst [.int y2, .int y1]]) (a := m'.length + 1) (b := m'.length + 2) (x := y2) (y := y1) (z := y2) (w := y1) (by simp) (by simp)
              simpa using this
            simp at rv tn
            simp [g3, g4, rv, tn]
          rintro e m ⟨xe, hcm, rfl⟩
          simp
          exact ⟨hp.ext xe, xe.get hcn, _, m'.length, y1, y2, _, hcm, hnext, rfl⟩
        · rintro e m ⟨hp, _, q8, b, u, z, q12, _, _, rfl⟩
          exact ⟨hp, q8, _, q12, rfl⟩
      rintro e m ⟨hp, q8, q11, q12, rfl⟩
      refine seq_sat (fun e m' => m' = m ∧ e = En15 4 (some (.int y)) (some (.int far)) (some (.ref k)) (some (pvs row)) (some (.str w)) (some T3) q8 (some T1) (some T2) q11 q12 q13) (by simp [rT]) ?_
      rintro e m' ⟨rfl, rfl⟩
      have z1 := f1 0
      have z2 := f2 0
      have hfin : ∀ (q : Option PV), In15 (En15 4 (some (.int y)) (some (.int far)) (some (.ref k)) (some (pvs row)) (some (.str w)) (some T3) q8 (some T1) (some T2) q11 q12 q) m' := fun q => ⟨hp, _, _, _, _, _, _, _, _, _, _, _, _, rfl⟩
      cases hSc : S with
      | nil =>
        have : T1 = .tup [] := by rw [hT1, hSc]; rfl
        have nn := fNe_data (p := .tup []) (q := .tup []) rfl (k := 601) (j := 601) (by rw [← this, hT1]; exact gT) (by rw [← this, hT1]; exact gT)
        simp [PyData.eqv, PyData.eqvAll] at nn
        have hf := hfin q13
        rw [this] at hf ⊢
        simp [nn]
        exact hf
      | cons s S' =>
        have hs1 : 1 ≤ s.2 := hpos s (by rw [hSc]; simp)
        have z0 := ph_first S' hs1
        rw [← hSc] at z0
        have hT1' : T1 = .tup (Sg.pv s :: S'.map Sg.pv) := by rw [hT1, hSc]; rfl
        have nn := fNe_data (p := T1) (q := .tup []) (by rw [hT1']; rfl) (by rw [hT1]; exact gT) (k := 601) (j := 1) ⟨by simp, by simp, by simp, by simp⟩
        have eqv : PyData.eqv T1.pd (PV.tup []).pd = false := by rw [hT1']; simp [PyData.eqv, PyData.eqvAll]
        rw [eqv] at nn
        have i0 : ∀ μ, fIx [T1, .int 0] μ = .ok (Sg.pv s) μ := fun μ => by rw [hT1']; simp
        have hf := hfin q13
        rcases s with ⟨c, n⟩
        cases c
        · simp only at z0
          rw [z0] at z2
          simp [nn, i0, Sg.pv, z2]
          exact hf
        · simp only at z0
          rw [z0] at z1
          simp [nn, i0, Sg.pv, z1]
          exact hf
    rintro e m ⟨hp, q2, q3, q4, q5, q6, q7, q8, q9, q10, q11, q12, q13, rfl⟩
    have e1 := fun μ => filled_ahead_ev [] 3 (by simp) μ
    have e2 := fun μ => dropped_ahead_ev [] 0 (by simp) μ
    have h0 : ∀ b k, ph [] b k = 0 := fun _ _ => rfl
    simp [h0] at e1 e2
    simp [e1, e2]
  obtain ⟨p, m, e, rfl⟩ := rsat_ex key
  unfold m_law
  rw [fn_ev, e]
  unfold gc
  simp only
  split
  · exact ⟨_, rfl⟩
  · exact ⟨_, rfl⟩
end Law
end
section
set_option Elab.async false
open PySem PySem.W PyProof.Rows
set_option maxRecDepth 100000 in
set_option maxHeartbeats 0 in
theorem PySem.Challenge.cw_latewires_k15_whole_numbers_ahead_holds : PySem.Challenge.rw_latewires_k15_whole_numbers_ahead.Holds := by
  w_on; o_law; k_head; (case hw => w_witness2)
  k_fill
  refine PL.walkP (l := PySem.Challenge.rw_latewires_k15_whole_numbers_ahead) (n := 63) (k := 6) (x := "script") (st := Law.s_law) (m := Law.m_law) rfl (by decide) rfl ⟨rfl, by decide, by decide⟩ (fun w h Y => PySem.W.kIn_of Y) Law.bd_law ?F Law.law_pure
  case F =>
    intro w mg h base KX G Kb Gb
    refine' Law.all_mk KX G ?z_enumerate ?z_int ?z_len ?z_max ?z_range ?z_repr ?z_set ?z_sorted ?z_tuple ?y_DROP ?y_FILL ?y_TURN ?a_ticks_up ?l_ticks_up ?c_ticks_up ?k_ticks_up ?a_moves ?l_moves ?c_moves ?k_moves ?a_heights ?l_heights ?c_heights ?k_heights ?a_with_stage ?l_with_stage ?c_with_stage ?k_with_stage ?a_stages_beyond ?l_stages_beyond ?c_stages_beyond ?k_stages_beyond ?a_stages ?l_stages ?c_stages ?k_stages ?a_most_of ?l_most_of ?c_most_of ?k_most_of ?a_ahead_of ?l_ahead_of ?c_ahead_of ?k_ahead_of ?a_filled_ahead ?l_filled_ahead ?c_filled_ahead ?k_filled_ahead ?a_dropped_ahead ?l_dropped_ahead ?c_dropped_ahead ?k_dropped_ahead ?a__law_pot ?l__law_pot ?c__law_pot ?k__law_pot ?a__law_dip ?l__law_dip ?c__law_dip ?k__law_dip ?a__law_pick ?l__law_pick ?c__law_pick ?k__law_pick ?a__law_part ?l__law_part ?c__law_part ?k__law_part ?a__law_row ?l__law_row ?c__law_row ?k__law_row ?a__law_ahead ?l__law_ahead ?c__law_ahead ?k__law_ahead ?a__law_is_right ?l__law_is_right ?c__law_is_right ?k__law_is_right ?a__law_contrary ?l__law_contrary ?c__law_contrary ?k__law_contrary ?a__law_numbers ?l__law_numbers ?c__law_numbers ?k__law_numbers ?a_law ?l_law ?c_law ?k_law
    (case z_enumerate => k_is)
    (case z_int => k_is)
    (case z_len => k_is)
    (case z_max => k_is)
    (case z_range => k_is)
    (case z_repr => k_is)
    (case z_set => k_is)
    (case z_sorted => k_is)
    (case z_tuple => k_is)
    (case y_DROP => k_is)
    (case y_FILL => k_is)
    (case y_TURN => k_is)
    (case a_ticks_up => k_is)
    (case l_ticks_up => k_is)
    (case c_ticks_up => k_is)
    (case k_ticks_up => k_is)
    (case a_moves => k_is)
    (case l_moves => k_is)
    (case c_moves => k_is)
    (case k_moves => k_is)
    (case a_heights => k_is)
    (case l_heights => k_is)
    (case c_heights => k_is)
    (case k_heights => k_is)
    (case a_with_stage => k_is)
    (case l_with_stage => k_is)
    (case c_with_stage => k_is)
    (case k_with_stage => k_is)
    (case a_stages_beyond => k_is)
    (case l_stages_beyond => k_is)
    (case c_stages_beyond => k_is)
    (case k_stages_beyond => k_is)
    (case a_stages => k_is)
    (case l_stages => k_is)
    (case c_stages => k_is)
    (case k_stages => k_is)
    (case a_most_of => k_is)
    (case l_most_of => k_is)
    (case c_most_of => k_is)
    (case k_most_of => k_is)
    (case a_ahead_of => k_is)
    (case l_ahead_of => k_is)
    (case c_ahead_of => k_is)
    (case k_ahead_of => k_is)
    (case a_filled_ahead => k_is)
    (case l_filled_ahead => k_is)
    (case c_filled_ahead => k_is)
    (case k_filled_ahead => k_is)
    (case a_dropped_ahead => k_is)
    (case l_dropped_ahead => k_is)
    (case c_dropped_ahead => k_is)
    (case k_dropped_ahead => k_is)
    (case a__law_pot => k_is)
    (case l__law_pot => k_is)
    (case c__law_pot => k_is)
    (case k__law_pot => k_is)
    (case a__law_dip => k_is)
    (case l__law_dip => k_is)
    (case c__law_dip => k_is)
    (case k__law_dip => k_is)
    (case a__law_pick => k_is)
    (case l__law_pick => k_is)
    (case c__law_pick => k_is)
    (case k__law_pick => k_is)
    (case a__law_part => k_is)
    (case l__law_part => k_is)
    (case c__law_part => k_is)
    (case k__law_part => k_is)
    (case a__law_row => k_is)
    (case l__law_row => k_is)
    (case c__law_row => k_is)
    (case k__law_row => k_is)
    (case a__law_ahead => k_is)
    (case l__law_ahead => k_is)
    (case c__law_ahead => k_is)
    (case k__law_ahead => k_is)
    (case a__law_is_right => k_is)
    (case l__law_is_right => k_is)
    (case c__law_is_right => k_is)
    (case k__law_is_right => k_is)
    (case a__law_contrary => k_is)
    (case l__law_contrary => k_is)
    (case c__law_contrary => k_is)
    (case k__law_contrary => k_is)
    (case a__law_numbers => k_is)
    (case l__law_numbers => k_is)
    (case c__law_numbers => k_is)
    (case k__law_numbers => k_is)
    (case a_law => k_is)
    (case l_law => k_is)
    (case c_law => k_is)
    (case k_law => k_is)
end
