import PyProof.Rows.All
import Wide.All
import OpenK.AllK
import Wide.FinOn
import PyProof.ReprReads
import PyProof.EqLayable
import PyProof.ReprText
import PyProof.FitsInt
import PyProof.StrLawsRepr
import PyProof.EqKinds
import PyProof.FactsAll.dict_1
import PyProof.FactsAll.subtypes_3
import PyProof.FactsAll.subtypes_4
import HandS.ForMost
import HandS.Deep
import HandS.TupAny
import HandS.TupMul
import HandS.Wide
import HandS.Zip
import HandS.IsInst
import HandS.Style
import HandS.EndBits
import HandS.Star
import HandS.WideBits
import HandS.SortInts
import HandS.SetFor
import HandS.Strs
import HandS.Flow
import HandS.Text
import KE.GoesMore
import KE.KEqNest
import PySem.Challenge.RW_latewires_k41_what_is_a_loose_row
set_option Elab.async false
section
set_option autoImplicit false
/-! The pure layer: Python values without a heap, lists as cells of a small memory, defs as functions. -/
namespace PL
open PySem
/-- a value: tuples are data, a list (or dict) is a cell of the memory, cst: an object of the module by its address -/
inductive PV where
  | non | bl (b : Bool) | int (i : Int) | str (x : Str) | tup (l : List PV) | ref (n : Nat) | cst (a : Nat)
deriving Inhabited
/-- a cell -/
inductive PO where
  | lst (l : List PV) | ro (l : List PV) | dct (kvs : List (Sum Int Str × PV))
  | dtt (kvs : List (List (Sum Int Str) × PV)) | rtt (kvs : List (List (Sum Int Str) × PV))
deriving Inhabited
abbrev Mem := List PO
abbrev Env := List (Option PV)
/-- an exception: its class by name, what it keeps -/
structure PX where
  cls : Str
  fs : List (Str × PV)
inductive Res (α : Type) where
  | ok (a : α) (μ : Mem) | exc (c : PX) (μ : Mem) | stuck
namespace Res
variable {α β : Type}
def bind (r : Res α) (k : α → Mem → Res β) : Res β := match r with | .ok a μ => k a μ | .exc c μ => .exc c μ | .stuck => .stuck
@[simp] theorem bind_ok (a : α) (μ : Mem) (k : α → Mem → Res β) : (Res.ok a μ).bind k = k a μ := id rfl
@[simp] theorem bind_exc (c : PX) (μ : Mem) (k : α → Mem → Res β) : (Res.exc c μ : Res α).bind k = .exc c μ := id rfl
@[simp] theorem bind_stuck (k : α → Mem → Res β) : (Res.stuck : Res α).bind k = .stuck := id rfl
end Res
abbrev Ex := Env → Mem → Res PV
abbrev Fn := List PV → Mem → Res PV
abbrev Ag := Env → Mem → Res (List PV)
abbrev SL : Nat := 16777216
/-! ### expressions -/
def v (i : Nat) : Ex := fun env μ => match env[i]? with | some (some p) => .ok p μ | _ => .stuck
def c (p : PV) : Ex := fun _ μ => .ok p μ
def an : Ag := fun _ μ => .ok [] μ
def ac (a : Ex) (r : Ag) : Ag := fun env μ => (a env μ).bind fun p μ1 => (r env μ1).bind fun ps μ2 => .ok (p :: ps) μ2
/-- *a, .. -/
def acs (a : Ex) (r : Ag) : Ag := fun env μ => (a env μ).bind fun p μ1 => match p with
  | .tup l => (r env μ1).bind fun ps μ2 => .ok (l ++ ps) μ2
  | .ref n => match μ1[n]? with | some (.lst l) => (r env μ1).bind fun ps μ2 => .ok (l ++ ps) μ2 | _ => .stuck
  | _ => .stuck
def app (f : Fn) (as : Ag) : Ex := fun env μ => (as env μ).bind fun ps μ1 => f ps μ1
def app1 (f : Fn) (a : Ex) : Ex := fun env μ => (a env μ).bind fun p μ1 => f [p] μ1
/-- the receiver of a method: a list, a text, a dict -/
inductive Kd where | list | str | dict
def isKd (k : Kd) (μ : Mem) (p : PV) : Bool := match k, p with
  | .str, .str _ => true
  | .list, .ref n => match μ[n]? with | some (.lst _) => true | _ => false
  | .dict, .ref n => match μ[n]? with | some (.dct _) => true | _ => false
  | _, _ => false
def mth (k : Kd) (f : Fn) (o : Ex) (g : Ag) : Ex := fun env μ => (o env μ).bind fun p μ1 => if isKd k μ1 p = true then (g env μ1).bind fun ps μ2 => f (p :: ps) μ2 else .stuck
def app2 (f : Fn) (a b : Ex) : Ex := fun env μ => (a env μ).bind fun p μ1 => (b env μ1).bind fun q μ2 => f [p, q] μ2
def app3 (f : Fn) (a b d : Ex) : Ex := fun env μ => (a env μ).bind fun p μ1 => (b env μ1).bind fun q μ2 => (d env μ2).bind fun r μ3 => f [p, q, r] μ3
/-- what follows a truth value -/
def onB {α : Type} (p : PV) (a b : Res α) : Res α := match p with | .bl true => a | .bl false => b | _ => .stuck
@[simp] theorem onB_true {α : Type} (a b : Res α) : onB (.bl true) a b = a := id rfl
@[simp] theorem onB_false {α : Type} (a b : Res α) : onB (.bl false) a b = b := id rfl
theorem onB_bl {α : Type} (t : Bool) (a b : Res α) : onB (.bl t) a b = if t = true then a else b := by cases t <;> rfl
def asB (p : PV) (μ : Mem) : Res Bool := match p with | .bl b => .ok b μ | _ => .stuck
theorem onB_asB {α : Type} (p : PV) (μ : Mem) (a b : Res α) : onB p a b = (asB p μ).bind fun t _ => if t = true then a else b := by
  cases p with
  | bl t => cases t <;> rfl
  | _ => rfl
def ite (t a b : Ex) : Ex := fun env μ => (t env μ).bind fun p μ1 => onB p (a env μ1) (b env μ1)
def and (a b : Ex) : Ex := fun env μ => (a env μ).bind fun p μ1 => onB p (b env μ1) (.ok (.bl false) μ1)
def or (a b : Ex) : Ex := fun env μ => (a env μ).bind fun p μ1 => onB p (.ok (.bl true) μ1) (b env μ1)
def chain (f g : Fn) (a b d : Ex) : Ex := fun env μ => (a env μ).bind fun p μ1 => (b env μ1).bind fun q μ2 => (f [p, q] μ2).bind fun t μ3 =>
  onB t ((d env μ3).bind fun r μ4 => g [q, r] μ4) (.ok (.bl false) μ3)
/-! ### targets -/
abbrev Tg := PV → Env → Mem → Res Env
abbrev Tgs := List PV → Env → Mem → Res Env
def tn (i : Nat) : Tg := fun p env μ => .ok (env.set i (some p)) μ
def t0 : Tgs := fun ps env μ => match ps with | [] => .ok env μ | _ => .stuck
def tc (g : Tg) (r : Tgs) : Tgs := fun ps env μ => match ps with | p :: qs => (g p env μ).bind fun e μ1 => r qs e μ1 | [] => .stuck
def tt (n : Nat) (r : Tgs) : Tg := fun p env μ => match p with
  | .tup l => if l.length = n then r l env μ else .stuck
  | .ref k => match μ[k]? with | some (.lst l) => if l.length = n then r l env μ else .stuck | _ => .stuck
  | _ => .stuck
def tsub (f : Fn) (o i : Ex) : Tg := fun p env μ => (o env μ).bind fun x μ1 => (i env μ1).bind fun y μ2 => (f [x, y, p] μ2).bind fun _ μ3 => .ok env μ3
/-! ### statements -/
inductive Out where
  | nx (env : Env) (μ : Mem) | rt (p : PV) (μ : Mem) | bk (env : Env) (μ : Mem) | ct (env : Env) (μ : Mem) | exc (c : PX) (μ : Mem) | stuck
def Out.of {α : Type} (r : Res α) (k : α → Mem → Out) : Out := match r with | .ok a μ => k a μ | .exc c μ => .exc c μ | .stuck => .stuck
@[simp] theorem Out.of_ok {α : Type} (a : α) (μ : Mem) (k : α → Mem → Out) : Out.of (.ok a μ) k = k a μ := id rfl
@[simp] theorem Out.of_exc {α : Type} (c : PX) (μ : Mem) (k : α → Mem → Out) : Out.of (.exc c μ : Res α) k = .exc c μ := id rfl
@[simp] theorem Out.of_stuck {α : Type} (k : α → Mem → Out) : Out.of (.stuck : Res α) k = .stuck := id rfl
def Out.then (o : Out) (k : Env → Mem → Out) : Out := match o with | .nx e m => k e m | o => o
@[simp] theorem Out.then_nx (e : Env) (m : Mem) (k : Env → Mem → Out) : (Out.nx e m).then k = k e m := id rfl
@[simp] theorem Out.then_rt (p : PV) (m : Mem) (k : Env → Mem → Out) : (Out.rt p m).then k = .rt p m := id rfl
@[simp] theorem Out.then_bk (e : Env) (m : Mem) (k : Env → Mem → Out) : (Out.bk e m).then k = .bk e m := id rfl
@[simp] theorem Out.then_ct (e : Env) (m : Mem) (k : Env → Mem → Out) : (Out.ct e m).then k = .ct e m := id rfl
@[simp] theorem Out.then_exc (x : PX) (m : Mem) (k : Env → Mem → Out) : (Out.exc x m).then k = .exc x m := id rfl
@[simp] theorem Out.then_stuck (k : Env → Mem → Out) : (Out.stuck).then k = .stuck := id rfl
abbrev Sm := Env → Mem → Out
/-- what this layer does not follow -/
def stuckS : Sm := fun _ _ => .stuck
def skip : Sm := fun env μ => .nx env μ
def brk : Sm := fun env μ => .bk env μ
def cnt : Sm := fun env μ => .ct env μ
def seq (a b : Sm) : Sm := fun env μ => (a env μ).then b
def exp (e : Ex) : Sm := fun env μ => .of (e env μ) fun _ μ1 => .nx env μ1
def ret (e : Ex) : Sm := fun env μ => .of (e env μ) fun p μ1 => .rt p μ1
def onS (p : PV) (a b : Out) : Out := match p with | .bl true => a | .bl false => b | _ => .stuck
@[simp] theorem onS_true (a b : Out) : onS (.bl true) a b = a := id rfl
@[simp] theorem onS_false (a b : Out) : onS (.bl false) a b = b := id rfl
theorem onS_bl (t : Bool) (a b : Out) : onS (.bl t) a b = if t = true then a else b := by cases t <;> rfl
def cond (t : Ex) (a b : Sm) : Sm := fun env μ => .of (t env μ) fun p μ1 => onS p (a env μ1) (b env μ1)
def asg (g : Tg) (e : Ex) : Sm := fun env μ => .of (e env μ) fun p μ1 => .of (g p env μ1) fun e2 μ2 => .nx e2 μ2
def setv (i : Nat) (e : Ex) : Sm := fun env μ => .of (e env μ) fun p μ1 => .nx (env.set i (some p)) μ1
def par (i j : Nat) (a b : Ex) : Sm := fun env μ => .of (a env μ) fun p μ1 => .of (b env μ1) fun q μ2 => .nx ((env.set i (some p)).set j (some q)) μ2
def par3 (i j k : Nat) (a b d : Ex) : Sm := fun env μ => .of (a env μ) fun p μ1 => .of (b env μ1) fun q μ2 => .of (d env μ2) fun r μ3 => .nx (((env.set i (some p)).set j (some q)).set k (some r)) μ3
/-! ### loops -/
/-- what is walked: the items, the list cells that must stay as they are -/
structure Its where
  items : List PV
  lk : List (Nat × List PV)
abbrev It := Env → Mem → Res Its
def locked (lk : List (Nat × List PV)) (μ : Mem) : Prop := ∀ x ∈ lk, μ[x.1]? = some (.lst x.2) ∨ μ[x.1]? = some (.ro x.2)
theorem locked_nil (μ : Mem) : locked [] μ := fun _ h => (nomatch h)
open Classical in
noncomputable def forN (lk : List (Nat × List PV)) (g : Tg) (body : Sm) : List PV → Env → Mem → Out
  | [], env, μ => if locked lk μ then .nx env μ else .stuck
  | p :: ps, env, μ => if locked lk μ then .of (g p env μ) fun e1 μ1 => match body e1 μ1 with
      | .nx e m => forN lk g body ps e m
      | .ct e m => forN lk g body ps e m
      | .bk e m => .nx e m
      | o => o
    else .stuck
noncomputable def forS (it : It) (g : Tg) (body : Sm) : Sm := fun env μ => .of (it env μ) fun z μ1 => forN z.lk g body z.items env μ1
def whileN (t : Ex) (body : Sm) : Nat → Env → Mem → Out
  | 0, _, _ => .stuck
  | n + 1, env, μ => .of (t env μ) fun p μ1 => onS p (match body env μ1 with
      | .nx e m => whileN t body n e m
      | .ct e m => whileN t body n e m
      | .bk e m => .nx e m
      | o => o) (.nx env μ1)
def fuel : Nat := 100000000
def whileS (t : Ex) (body : Sm) : Sm := fun env μ => whileN t body fuel env μ
/-! ### comprehensions -/
def wipe (env : Env) : List Nat → Env
  | [] => env
  | i :: is => (wipe env is).set i none
def push1 (n : Nat) (p : PV) (μ : Mem) : Option Mem := match μ[n]? with
  | some (.lst l) => if l.length < SL then some (μ.set n (.lst (l ++ [p]))) else none
  | _ => none
/- n: the cell of the list that is made -/
open Classical in
noncomputable def lcN (lk : List (Nat × List PV)) (g : Tg) (t e : Ex) (vs : List Nat) (n : Nat) (env : Env) : List PV → Mem → Res Unit
  | [], μ => if locked lk μ then .ok () μ else .stuck
  | p :: ps, μ => if locked lk μ then (g p (wipe env vs) μ).bind fun e1 μ1 => (t e1 μ1).bind fun b μ2 =>
      onB b ((e e1 μ2).bind fun q μ3 => match push1 n q μ3 with
        | some μ4 => lcN lk g t e vs n env ps μ4
        | none => .stuck) (lcN lk g t e vs n env ps μ2)
    else .stuck
noncomputable def lc (it : It) (g : Tg) (t e : Ex) (vs : List Nat) : Ex := fun env μ => (it env μ).bind fun z μ1 =>
  (lcN z.lk g t e vs μ1.length env z.items (μ1 ++ [.lst []])).bind fun _ μ2 => .ok (.ref μ1.length) μ2
def yes : Ex := c (.bl true)
/-! ### values -/
mutual
def PV.under (n : Nat) : PV → Bool
  | .non => true | .bl _ => true | .int _ => true | .str _ => true | .cst _ => true
  | .tup l => PV.unders n l
  | .ref k => decide (k < n)
def PV.unders (n : Nat) : List PV → Bool
  | [] => true
  | p :: ps => PV.under n p && PV.unders n ps
end
def PO.under (n : Nat) : PO → Bool
  | .lst l => PV.unders n l
  | .ro l => PV.unders n l
  | .dct kvs => PV.unders n (kvs.map (·.2))
  | .dtt kvs => PV.unders n (kvs.map (·.2))
  | .rtt kvs => PV.unders n (kvs.map (·.2))
/-- what a def's own lists leave behind goes, where nothing speaks of it -/
def GcOk (μ : Mem) (p : PV) (m : Mem) : Prop := μ.length ≤ m.length ∧ p.under μ.length = true ∧ ∀ i, i < μ.length → m[i]? = μ[i]? ∨ ∃ o, m[i]? = some o ∧ o.under μ.length = true
open Classical in
noncomputable def gc (μ : Mem) (r : Res PV) : Res PV := match r with
  | .ok p m => if GcOk μ p m then .ok p (m.take μ.length) else .ok p m
  | r => r
/-- a body's end as a call's result -/
def Out.res : Out → Res PV
  | .rt p m => .ok p m
  | .nx _ m => .ok .non m
  | .exc x m => .exc x m
  | _ => .stuck
def run (n : Nat) (b : Sm) : Fn := fun args μ => (b (args.map some ++ List.replicate (n - args.length) none) μ).res
/-- a def of so many names with a body -/
noncomputable def fn (n : Nat) (b : Sm) : Fn := fun args μ => gc μ (run n b args μ)
/-! ### what is read of the memory -/
mutual
def PV.conv (r : Nat → Option PyData) : PV → Option PyData
  | .non => some .none
  | .bl b => some (.bool b)
  | .int i => some (.int i)
  | .str x => some (.str x)
  | .tup l => (PV.convs r l).map .tuple
  | .ref n => r n
  | .cst _ => none
def PV.convs (r : Nat → Option PyData) : List PV → Option (List PyData)
  | [] => some []
  | p :: ps => (PV.conv r p).bind fun d => (PV.convs r ps).map fun ds => d :: ds
end
def toDn (μ : Mem) : Nat → PV → Option PyData
  | 0 => PV.conv fun _ => none
  | n + 1 => PV.conv fun k => match μ[k]? with
    | some (.lst l) => (PV.convs (fun j => toDn μ n (.ref j)) l).map .list
    | some (.ro l) => (PV.convs (fun j => toDn μ n (.ref j)) l).map .list
    | _ => none
def toD (μ : Mem) (p : PV) : Option PyData := toDn μ 5 p
/-- data, or an empty dict -/
def toI (μ : Mem) (p : PV) : Option PyData := match toD μ p with
  | some d => some d
  | none => match p with
    | .ref n => match μ[n]? with
      | some (.dct []) => some (.dict [])
      | _ => none
    | _ => none
def toIs (μ : Mem) : List PV → Option (List PyData)
  | [] => some []
  | p :: ps => (toI μ p).bind fun d => (toIs μ ps).map fun ds => d :: ds
/-- a list of data and of empty dicts -/
def toX (μ : Mem) (p : PV) : Option PyData := match p with
  | .ref n => match μ[n]? with
    | some (.lst l) => (toIs μ l).map .list
    | some (.dct []) => some (.dict [])
    | _ => none
  | _ => none
def getL (μ : Mem) (p : PV) : Option (List PV) := match p with
  | .ref n => match μ[n]? with | some (.lst l) => some l | some (.ro l) => some l | _ => none
  | .tup l => some l
  | _ => none
/-! ### operations -/
def mulOk (i j : Int) : Prop := (-(2 ^ 64) < i ∧ i < 2 ^ 64) ∨ (-(2 ^ 64) < j ∧ j < 2 ^ 64) ∨ i.natAbs.log2 + j.natAbs.log2 < 1000000
instance (i j : Int) : Decidable (mulOk i j) := by unfold mulOk; infer_instance
def divOk (j : Int) : Prop := 0 < j ∧ j.natAbs.log2 < 9000
instance (j : Int) : Decidable (divOk j) := by unfold divOk; infer_instance
def newL (l : List PV) (μ : Mem) : Res PV := .ok (.ref μ.length) (μ ++ [.lst l])
def fTup : Fn := fun ps μ => if ps.length ≤ SL then .ok (.tup ps) μ else .stuck
def fLst : Fn := fun ps μ => if ps.length ≤ SL then newL ps μ else .stuck
def fAdd : Fn
  | [.int i, .int j], μ => .ok (.int (i + j)) μ
  | [.str a, .str b], μ => if a.length + b.length ≤ SL then .ok (.str (a ++ b)) μ else .stuck
  | [.tup a, .tup b], μ => if a.length + b.length ≤ SL then .ok (.tup (a ++ b)) μ else .stuck
  | [.ref a, .ref b], μ => match μ[a]?, μ[b]? with
    | some (.lst xs), some (.lst ys) => if xs.length + ys.length ≤ SL then newL (xs ++ ys) μ else .stuck
    | _, _ => .stuck
  | _, _ => .stuck
def fSub : Fn
  | [.int i, .int j], μ => .ok (.int (i - j)) μ
  | _, _ => .stuck
def fMul : Fn
  | [.int i, .int j], μ => if mulOk i j then .ok (.int (i * j)) μ else .stuck
  | [.ref a, .int k], μ => match μ[a]? with
    | some (.lst xs) => if -(2 ^ 63) ≤ k ∧ k < 2 ^ 63 ∧ xs.length * k.toNat ≤ SL then newL (List.replicate k.toNat xs).flatten μ else .stuck
    | _ => .stuck
  | [.tup xs, .int k], μ => if xs ≠ [] ∧ 2 ≤ k ∧ k ≤ 1000 ∧ xs.length ≤ 1000 then .ok (.tup (List.replicate k.toNat xs).flatten) μ else .stuck
  | _, _ => .stuck
def fDiv : Fn
  | [.int i, .int j], μ => if divOk j then .ok (.int (i / j)) μ else .stuck
  | _, _ => .stuck
def fMod : Fn
  | [.int i, .int j], μ => if 0 < j then .ok (.int (i % j)) μ else .stuck
  | _, _ => .stuck
def fPow : Fn
  | [.int i, .int j], μ => if 0 ≤ j ∧ j ≤ 1000000 ∧ i.natAbs < 2 ^ 64 then .ok (.int (i ^ j.toNat)) μ else .stuck
  | _, _ => .stuck
def shlOk (i j : Int) : Prop := 0 ≤ j ∧ (Builtin.Int.intBits i : Int) + j ≤ 2 ^ 27
instance (i j : Int) : Decidable (shlOk i j) := by unfold shlOk; infer_instance
def fShl : Fn
  | [.int i, .int j], μ => if shlOk i j then .ok (.int (i * 2 ^ j.toNat)) μ else .stuck
  | _, _ => .stuck
def fShr : Fn
  | [.int i, .int j], μ => if 0 ≤ j then .ok (.int (i / 2 ^ j.toNat)) μ else .stuck
  | _, _ => .stuck
def fBAnd : Fn
  | [.int i, .int j], μ => .ok (.int (Builtin.bitAnd i j)) μ
  | _, _ => .stuck
def fBOr : Fn
  | [.int i, .int j], μ => .ok (.int (Builtin.bitOr i j)) μ
  | _, _ => .stuck
def fBXor : Fn
  | [.int i, .int j], μ => .ok (.int (Builtin.bitXor i j)) μ
  | _, _ => .stuck
def fNeg : Fn
  | [.int i], μ => .ok (.int (-i)) μ
  | _, _ => .stuck
def fNot : Fn
  | [.bl b], μ => .ok (.bl (!b)) μ
  | _, _ => .stuck
/-- two flat values of one kind, or None beside one -/
def scalP : PV → PV → Option Bool
  | .int i, .int j => some (decide (i = j))
  | .str x, .str y => some (decide (x = y))
  | .bl x, .bl y => some (decide (x = y))
  | _, _ => none
def eqR (μ : Mem) (p q : PV) : Option Bool := match scalP p q with
  | some b => some b
  | none => match toD μ p, toD μ q with
    | some d, some e => if SeqAt.shaped d = true ∧ SeqAt.shaped e = true then some (PyData.eqv d e) else none
    | _, _ => none
def fEq : Fn
  | [p, q], μ => match eqR μ p q with | some b => .ok (.bl b) μ | none => .stuck
  | _, _ => .stuck
def fNe : Fn
  | [p, q], μ => match eqR μ p q with | some b => .ok (.bl (!b)) μ | none => .stuck
  | _, _ => .stuck
def fLt : Fn
  | [.int i, .int j], μ => .ok (.bl (decide (i < j))) μ
  | _, _ => .stuck
def fLe : Fn
  | [.int i, .int j], μ => .ok (.bl (decide (i ≤ j))) μ
  | _, _ => .stuck
def fGt : Fn
  | [.int i, .int j], μ => .ok (.bl (decide (j < i))) μ
  | _, _ => .stuck
def fGe : Fn
  | [.int i, .int j], μ => .ok (.bl (decide (j ≤ i))) μ
  | _, _ => .stuck
def isNon : PV → Bool
  | .non => true
  | _ => false
def fIsN : Fn
  | [p, .non], μ => .ok (.bl (isNon p)) μ
  | _, _ => .stuck
def fNotN : Fn
  | [p, .non], μ => .ok (.bl (!isNon p)) μ
  | _, _ => .stuck
def flatP : PV → Bool
  | .non => true | .bl _ => true | .int _ => true | .str _ => true
  | _ => false
/-- == of flat values -/
def eqF : PV → PV → Bool
  | .non, .non => true
  | .bl a, .bl b => a == b
  | .bl a, .int b => (if a then 1 else 0) == b
  | .int a, .bl b => a == (if b then 1 else 0)
  | .int a, .int b => a == b
  | .str a, .str b => a == b
  | _, _ => false
def inDeep (μ : Mem) (p q : PV) : Option Bool := match q with
  | .ref _ => match toD μ p, toD μ q with
    | some d, some (.list es) => if SeqAt.shaped d = true ∧ SeqAt.shaped (.list es) = true then some (es.any fun z => PyData.eqv z d) else none
    | _, _ => none
  | .tup _ => match toD μ p, toD μ q with
    | some d, some (.tuple es) => if SeqAt.shaped d = true ∧ SeqAt.shaped (.tuple es) = true then some (es.any fun z => PyData.eqv z d) else none
    | _, _ => none
  | _ => none
def inSeq (μ : Mem) (p q : PV) : Option Bool := match getL μ q with
  | some l => if flatP p = true ∧ l.all flatP = true then some (l.any fun z => eqF z p) else inDeep μ p q
  | none => none
def strPair (p q : PV) : Option (Str × Str) := match p, q with
  | .str x, .str y => some (x, y)
  | _, _ => none
def inStr (x y : Str) : Option Bool := match x.cps.toList with
  | [k] => some (decide (k ∈ y.cps.toList))
  | _ => none
def inR (μ : Mem) (p q : PV) : Option Bool := match strPair p q with
  | some z => inStr z.1 z.2
  | none => inSeq μ p q
def fIn : Fn
  | [p, q], μ => match inR μ p q with | some b => .ok (.bl b) μ | none => .stuck
  | _, _ => .stuck
def fNotIn : Fn
  | [p, q], μ => match inR μ p q with | some b => .ok (.bl (!b)) μ | none => .stuck
  | _, _ => .stuck
/-! places -/
def ixN (n : Nat) (i : Int) : Option Nat := if 0 ≤ i then (if i < n then some i.toNat else none) else if -(n : Int) ≤ i then some (i + n).toNat else none
def atI {α : Type} (xs : List α) (i : Int) : Option α := (ixN xs.length i).bind fun j => xs[j]?
def sIx (n d : Nat) : Option Int → Nat
  | none => d
  | some v => if v < 0 then (v + (n : Int)).toNat else min v.toNat n
def cut {α : Type} (xs : List α) (lo hi : Option Int) : List α := (xs.drop (sIx xs.length 0 lo)).take (sIx xs.length xs.length hi - sIx xs.length 0 lo)
def fIx : Fn
  | [.str z, .int i], μ => if z.length ≤ SL then match atI z.cps.toList i with | some k => .ok (.str ⟨#[k]⟩) μ | none => .stuck else .stuck
  | [p, .int i], μ => match getL μ p with
    | some l => match atI l i with | some q => .ok q μ | none => .stuck
    | none => .stuck
  | _, _ => .stuck
def optI : PV → Option (Option Int)
  | .non => some none
  | .int i => some (some i)
  | _ => none
def fSl : Fn
  | [p, lo, hi], μ => match optI lo, optI hi with
    | some lo, some hi => match p with
      | .tup l => .ok (.tup (cut l lo hi)) μ
      | .ref n => match getL μ (.ref n) with | some l => newL (cut l lo hi) μ | none => .stuck
      | .str z => if z.length ≤ SL then .ok (.str ⟨(cut z.cps.toList lo hi).toArray⟩) μ else .stuck
      | _ => .stuck
    | _, _ => .stuck
  | _, _ => .stuck
def fRev : Fn
  | [.tup l], μ => .ok (.tup l.reverse) μ
  | [.ref n], μ => match getL μ (.ref n) with | some l => newL l.reverse μ | none => .stuck
  | _, _ => .stuck
def fRevL : Fn
  | [.ref n], μ => fRev [.ref n] μ
  | [.tup l], μ => .ok (.tup l.reverse) μ
  | _, _ => .stuck
def fPart : Fn
  | [.int i], μ => .ok (.int i) μ
  | _, _ => .stuck
def onPart (q : PV) (m : Mem) : Res PV := match optI q with | some _ => .ok q m | none => .stuck
def sl (a lo hi : Ex) : Ex := fun env μ => (a env μ).bind fun p μ1 => ((lo env μ1).bind onPart).bind fun ql μ2 => ((hi env μ2).bind onPart).bind fun qh μ3 => fSl [p, ql, qh] μ3
/-- the values in the parameters' order -/
def perm {α : Type} (is : List Nat) (l : List α) : List α := is.filterMap (l[·]?)
def callK (m : Fn) (is : List Nat) (g gk : Ag) : Ex := fun env μ => (g env μ).bind fun as μ1 => (gk env μ1).bind fun bs μ2 => m (perm is (as ++ bs)) μ2
def fLen : Fn
  | [.str z], μ => if z.length ≤ SL then .ok (.int z.length) μ else .stuck
  | [p], μ => match getL μ p with | some l => .ok (.int l.length) μ | none => .stuck
  | _, _ => .stuck
def fInt : Fn
  | [.int i], μ => .ok (.int i) μ
  | [.bl b], μ => .ok (.int (if b then 1 else 0)) μ
  | _, _ => .stuck
def fAbs : Fn
  | [.int i], μ => .ok (.int (if i < 0 then -i else i)) μ
  | _, _ => .stuck
def intsOf : List PV → Option (List Int)
  | [] => some []
  | .int i :: r => (intsOf r).map fun is => i :: is
  | _ => none
def boolsOf : List PV → Option (List Bool)
  | [] => some []
  | .bl i :: r => (boolsOf r).map fun is => i :: is
  | _ => none
def maxL : Int → List Int → Int
  | m, [] => m
  | m, x :: xs => maxL (if x > m then x else m) xs
def minL : Int → List Int → Int
  | m, [] => m
  | m, x :: xs => minL (if x < m then x else m) xs
def fMax : Fn
  | [.int i, .int j], μ => .ok (.int (if j > i then j else i)) μ
  | [.ref n], μ => match (getL μ (.ref n)).bind intsOf with
    | some (i :: is) => .ok (.int (maxL i is)) μ
    | _ => .stuck
  | _, _ => .stuck
def fMin : Fn
  | [.int i, .int j], μ => .ok (.int (if j < i then j else i)) μ
  | [.ref n], μ => match (getL μ (.ref n)).bind intsOf with
    | some (i :: is) => .ok (.int (minL i is)) μ
    | _ => .stuck
  | _, _ => .stuck
def fSum : Fn
  | [.ref n], μ => match (getL μ (.ref n)).bind intsOf with
    | some is => .ok (.int is.sum) μ
    | _ => .stuck
  | _, _ => .stuck
def fAll : Fn
  | [.ref n], μ => match (getL μ (.ref n)).bind boolsOf with
    | some bs => .ok (.bl (bs.all id)) μ
    | _ => .stuck
  | _, _ => .stuck
def fAny : Fn
  | [.ref n], μ => match (getL μ (.ref n)).bind boolsOf with
    | some bs => .ok (.bl (bs.any id)) μ
    | _ => .stuck
  | _, _ => .stuck
def fTuple : Fn
  | [p], μ => match getL μ p with | some l => .ok (.tup l) μ | none => .stuck
  | _, _ => .stuck
def fList : Fn
  | [p], μ => match getL μ p with | some l => newL l μ | none => .stuck
  | _, _ => .stuck
def fStr : Fn
  | [.int i], μ => if i.natAbs.log2 < 1920 then .ok (.str (toString i : String)) μ else .stuck
  | [.non], μ => .ok (.str "None") μ
  | _, _ => .stuck
def fRepr : Fn
  | [p], μ => match toD μ p with
    | some d => if d.showable = true ∧ d.shown.length ≤ SL ∧ d.depth ≤ 64 then .ok (.str d.shown) μ else .stuck
    | none => match p, toX μ p with
      | .ref _, some d => if d.showable = true ∧ d.shown.length ≤ SL ∧ d.depth ≤ 64 then .ok (.str d.shown) μ else .stuck
      | _, _ => .stuck
  | _, _ => .stuck
/-- the builtin types that isinstance asks for -/
inductive Ty where | int | bool | str | tuple | list | dict
def Ty.isL : Ty → Bool | .list => true | _ => false
def Ty.isD : Ty → Bool | .dict => true | _ => false
def isTy (μ : Mem) : Ty → PV → Option Bool
  | .int, .int _ => some true | .int, .bl _ => some true
  | .int, .non => some false | .int, .str _ => some false | .int, .tup _ => some false
  | .bool, .bl _ => some true
  | .bool, .int _ => some false | .bool, .non => some false | .bool, .str _ => some false | .bool, .tup _ => some false
  | .str, .str _ => some true
  | .str, .int _ => some false | .str, .bl _ => some false | .str, .non => some false | .str, .tup _ => some false
  | .tuple, .tup _ => some true
  | .tuple, .int _ => some false | .tuple, .bl _ => some false | .tuple, .non => some false | .tuple, .str _ => some false
  | .list, .int _ => some false | .list, .bl _ => some false | .list, .non => some false | .list, .str _ => some false | .list, .tup _ => some false
  | .dict, .int _ => some false | .dict, .bl _ => some false | .dict, .non => some false | .dict, .str _ => some false | .dict, .tup _ => some false
  | t, .ref n => match μ[n]? with
    | some (.lst _) => some t.isL
    | some (.dct _) => some t.isD
    | _ => none
  | _, .cst _ => none
def fIsi (t : Ty) : Fn
  | [p], μ => match isTy μ t p with | some b => .ok (.bl b) μ | none => .stuck
  | _, _ => .stuck
/-! methods of lists -/
def fAppend : Fn
  | [.ref n, p], μ => match push1 n p μ with | some m => .ok .non m | none => .stuck
  | _, _ => .stuck
def fExtend : Fn
  | [.ref n, .ref k], μ => match μ[n]?, μ[k]? with
    | some (.lst xs), some (.lst ys) => if xs.length + ys.length ≤ SL then .ok .non (μ.set n (.lst (xs ++ ys))) else .stuck
    | _, _ => .stuck
  | _, _ => .stuck
def fPop : Fn
  | [.ref n], μ => match μ[n]? with
    | some (.lst xs) => match xs[xs.length - 1]? with | some q => .ok q (μ.set n (.lst xs.dropLast)) | none => .stuck
    | _ => .stuck
  | [.ref n, .int i], μ => match μ[n]? with
    | some (.lst xs) => if -(2 ^ 63) ≤ i ∧ i < 2 ^ 63 then match ixN xs.length i with
      | some k => match xs[k]? with | some q => .ok q (μ.set n (.lst (xs.eraseIdx k))) | none => .stuck
      | none => .stuck
      else .stuck
    | _ => .stuck
  | _, _ => .stuck
def fSet : Fn
  | [.ref n, .int i, p], μ => match μ[n]? with
    | some (.lst xs) => match ixN xs.length i with | some k => .ok .non (μ.set n (.lst (xs.set k p))) | none => .stuck
    | _ => .stuck
  | _, _ => .stuck
/-! what a for walks -/
def itsOf (p : PV) (m : Mem) : Res Its := match p with
  | .tup l => .ok ⟨l, []⟩ m
  | .ref n => match getL m (.ref n) with | some l => .ok ⟨l, [(n, l)]⟩ m | none => .stuck
  | _ => .stuck
def iVal (e : Ex) : It := fun env μ => (e env μ).bind itsOf
def rangeL (i : Int) (n : Nat) : List PV := (List.range n).map fun (k : Nat) => .int (i + (k : Int))
def big62 (i : Int) : Prop := -(2 ^ 62) ≤ i ∧ i < 2 ^ 62
instance (i : Int) : Decidable (big62 i) := by unfold big62; infer_instance
def iRng1 (e : Ex) : It := fun env μ => (e env μ).bind fun p μ1 => match p with
  | .int j => if big62 j then .ok ⟨rangeL 0 j.toNat, []⟩ μ1 else .stuck
  | _ => .stuck
def iRng2 (a b : Ex) : It := fun env μ => (a env μ).bind fun p μ1 => (b env μ1).bind fun q μ2 => match p, q with
  | .int i, .int j => if big62 i ∧ big62 j then .ok ⟨rangeL i (j - i).toNat, []⟩ μ2 else .stuck
  | _, _ => .stuck
def iRng2w (a b : Ex) : It := fun env μ => (a env μ).bind fun p μ1 => (b env μ1).bind fun q μ2 => match p, q with
  | .int i, .int j => .ok ⟨rangeL i (j - i).toNat, []⟩ μ2
  | _, _ => .stuck
def enumL : Nat → List PV → List PV
  | _, [] => []
  | k, p :: ps => .tup [.int k, p] :: enumL (k + 1) ps
def enumOf (p : PV) (m : Mem) : Res Its := match p with
  | .tup l => .ok ⟨enumL 0 l, []⟩ m
  | .ref n => match getL m (.ref n) with | some l => .ok ⟨enumL 0 l, [(n, l)]⟩ m | none => .stuck
  | _ => .stuck
def iEnum (e : Ex) : It := fun env μ => (e env μ).bind enumOf
def zipL : List PV → List PV → List PV
  | p :: ps, q :: qs => .tup [p, q] :: zipL ps qs
  | _, _ => []
def iZip (a b : Ex) : It := fun env μ => (a env μ).bind fun p μ1 => (b env μ1).bind fun q μ2 => match p, q with
  | .tup l, .tup k => .ok ⟨zipL l k, []⟩ μ2
  | .ref n, .ref m => match getL μ2 (.ref n), getL μ2 (.ref m) with
    | some l, some k => .ok ⟨zipL l k, [(n, l), (m, k)]⟩ μ2
    | _, _ => .stuck
  | _, _ => .stuck
end PL
end
section
set_option autoImplicit false
/-! More pure operations. -/
namespace PL
open PySem
def fIndex : Fn
  | [.ref n, p], μ => match toD μ p, toD μ (.ref n) with
    | some d, some (.list es) => if SeqAt.shaped d = true ∧ SeqAt.shaped (.list es) = true then (match es.findIdx? (fun z => PyData.eqv z d) with
        | some j => .ok (.int (j : Nat)) μ
        | none => .stuck) else .stuck
    | _, _ => .stuck
  | _, _ => .stuck
/-- is True, is False -/
def fIsB : Fn
  | [.bl a, .bl b], μ => .ok (.bl (decide (a = b))) μ
  | _, _ => .stuck
def fNotB : Fn
  | [.bl a, .bl b], μ => .ok (.bl (!decide (a = b))) μ
  | _, _ => .stuck
end PL
end
section
set_option autoImplicit false
/-! Pure dicts with keys numbers and texts; divmod; sorted. -/
namespace PL
open PySem
abbrev DK := Sum Int Str
abbrev KVs := List (DK × PV)
def keyOf : PV → Option DK
  | .int i => some (.inl i)
  | .str x => some (.inr x)
  | _ => none
def valD {κ : Type} [DecidableEq κ] (kvs : List (κ × PV)) (k : κ) : Option PV := (kvs.find? fun kv => decide (kv.1 = k)).map (·.2)
def putD {κ : Type} [DecidableEq κ] (kvs : List (κ × PV)) (k : κ) (p : PV) : List (κ × PV) := if (kvs.any fun kv => decide (kv.1 = k)) = true then kvs.map (fun kv => if kv.1 = k then (kv.1, p) else kv) else kvs ++ [(k, p)]
def mergeD (kvs more : KVs) : KVs := more.foldl (fun acc kv => putD acc kv.1 kv.2) kvs
def dctAt (μ : Mem) (p : PV) : Option KVs := match p with
  | .ref n => match μ[n]? with | some (.dct kvs) => some kvs | _ => none
  | _ => none
/-- d[k] -/
def fDGet : Fn
  | [d, q], μ => match dctAt μ d, keyOf q with
    | some kvs, some k => match valD kvs k with | some p => .ok p μ | none => .stuck
    | _, _ => .stuck
  | _, _ => .stuck
/-- d[k] = p -/
def fDPut : Fn
  | [.ref n, q, p], μ => match μ[n]?, keyOf q with
    | some (.dct kvs), some k => if kvs.length < SL then .ok .non (μ.set n (.dct (putD kvs k p))) else .stuck
    | _, _ => .stuck
  | _, _ => .stuck
/-- k in d -/
def fDIn : Fn
  | [q, d], μ => match dctAt μ d, keyOf q with
    | some kvs, some k => .ok (.bl (valD kvs k).isSome) μ
    | _, _ => .stuck
  | _, _ => .stuck
def fDNotIn : Fn
  | [q, d], μ => match dctAt μ d, keyOf q with
    | some kvs, some k => .ok (.bl (!(valD kvs k).isSome)) μ
    | _, _ => .stuck
  | _, _ => .stuck
def fDLen : Fn
  | [d], μ => match dctAt μ d with | some kvs => .ok (.int kvs.length) μ | none => .stuck
  | _, _ => .stuck
/-- d[k] = e, as a statement: e, d, k in this order -/
def dput (o i e : Ex) : Sm := fun env μ => .of (e env μ) fun p μ1 => .of (o env μ1) fun x μ2 => .of (i env μ2) fun y μ3 => .of (fDPut [x, y, p] μ3) fun _ μ4 => .nx env μ4
/-- the pairs of a display -/
abbrev Ap := Env → Mem → Res (List (PV × PV))
def dn : Ap := fun _ μ => .ok [] μ
def dc (k x : Ex) (r : Ap) : Ap := fun env μ => (k env μ).bind fun p μ1 => (x env μ1).bind fun q μ2 => (r env μ2).bind fun ps μ3 => .ok ((p, q) :: ps) μ3
def keysOf : List (PV × PV) → Option KVs
  | [] => some []
  | pq :: r => match keyOf pq.1, keysOf r with | some k, some ks => some ((k, pq.2) :: ks) | _, _ => none
def dfin (n : Nat) (ps : List (PV × PV)) (μ : Mem) : Res PV := match μ[n]?, keysOf ps with
  | some (.dct []), some kvs => if kvs.length ≤ 15 then .ok (.ref n) (μ.set n (.dct (mergeD [] kvs))) else .stuck
  | _, _ => .stuck
/-- {k: v, ..} -/
def dsp (r : Ap) : Ex := fun env μ => (r env (μ ++ [.dct []])).bind fun ps μ1 => dfin μ.length ps μ1
/-- {} -/
def dnew : Ex := fun _ μ => .ok (.ref μ.length) (μ ++ [.dct []])
def fDivmod : Fn
  | [.int i, .int j], μ => if 0 < j ∧ j < 2 ^ 62 ∧ -(2 ^ 62) < i ∧ i < 2 ^ 62 then .ok (.tup [.int (i / j), .int (i % j)]) μ else .stuck
  | _, _ => .stuck
/-- a tuple so many times -/
def fMulT : Fn
  | [.tup xs, .int k], μ => if -(2 ^ 63) ≤ k ∧ k ≤ 1000 ∧ xs.length ≤ 1000 then .ok (.tup (List.replicate k.toNat xs).flatten) μ else .stuck
  | _, _ => .stuck
end PL
end
section
set_option autoImplicit false
/-! `or` of values that are none, numbers or truth values. -/
namespace PL
open PySem
def truP : PV → Option Bool
  | .non => some false
  | .bl b => some b
  | .int i => some (i != 0)
  | _ => none
def orV (a b : Ex) : Ex := fun env μ => (a env μ).bind fun p μ1 => match truP p with
  | some true => .ok p μ1
  | some false => b env μ1
  | none => .stuck
end PL
end
section
set_option autoImplicit false
/-! divmod of great numbers; sorted of numbers. -/
namespace PL
open PySem
def fDivmodW : Fn
  | [.int i, .int j], μ => if 0 < j ∧ i.natAbs < 2 ^ 3000 then .ok (.tup [.int (i / j), .int (i % j)]) μ else .stuck
  | _, _ => .stuck
def insI (x : Int) : List Int → List Int
  | [] => [x]
  | y :: l => if x ≤ y then x :: y :: l else y :: insI x l
def sortI : List Int → List Int
  | [] => []
  | x :: l => insI x (sortI l)
def fSorted : Fn
  | [.ref n], μ => match (getL μ (.ref n)).bind intsOf with
    | some is => newL ((sortI is).map .int) μ
    | none => .stuck
  | _, _ => .stuck
theorem insI_perm (x : Int) : ∀ l, (insI x l).Perm (x :: l)
  | [] => List.Perm.refl _
  | y :: l => by
    unfold insI
    by_cases h : x ≤ y
    · rw [if_pos h]
    · rw [if_neg h]
      exact ((insI_perm x l).cons y).trans (List.Perm.swap x y l)
theorem sortI_perm : ∀ l, (sortI l).Perm l
  | [] => List.Perm.refl _
  | x :: l => (insI_perm x _).trans ((sortI_perm l).cons x)
theorem insI_asc (x : Int) : ∀ l : List Int, l.Pairwise (· ≤ ·) → (insI x l).Pairwise (· ≤ ·)
  | [], _ => List.pairwise_singleton _ _
  | y :: l, h => by
    unfold insI
    obtain ⟨h1, h2⟩ := List.pairwise_cons.mp h
    by_cases c : x ≤ y
    · rw [if_pos c]
      refine List.pairwise_cons.mpr ⟨fun z hz => ?_, h⟩
      rcases List.mem_cons.mp hz with rfl | hz
      · exact c
      · have := h1 z hz; omega
    · rw [if_neg c]
      refine List.pairwise_cons.mpr ⟨fun z hz => ?_, insI_asc x l h2⟩
      rcases List.mem_cons.mp ((insI_perm x l).mem_iff.mp hz) with rfl | hz
      · omega
      · exact h1 z hz
theorem sortI_asc : ∀ l : List Int, (sortI l).Pairwise (· ≤ ·)
  | [] => List.Pairwise.nil
  | x :: l => insI_asc x _ (sortI_asc l)
theorem asc_uniq : ∀ {a b : List Int}, a.Perm b → a.Pairwise (· ≤ ·) → b.Pairwise (· ≤ ·) → a = b
  | [], b, h, _, _ => (List.nil_perm.mp h).symm
  | x :: a, [], h, _, _ => absurd (List.perm_nil.mp h) (by simp)
  | x :: a, y :: b, h, ha, hb => by
    obtain ⟨a1, a2⟩ := List.pairwise_cons.mp ha
    obtain ⟨b1, b2⟩ := List.pairwise_cons.mp hb
    have e : x = y := by
      have h1 : y ≤ x := by
        rcases List.mem_cons.mp (h.mem_iff.mp (List.mem_cons_self (a := x) (l := a))) with e | e
        · omega
        · exact b1 x e
      have h2 : x ≤ y := by
        rcases List.mem_cons.mp (h.mem_iff.mpr (List.mem_cons_self (a := y) (l := b))) with e | e
        · omega
        · exact a1 y e
      omega
    subst e
    rw [asc_uniq (List.Perm.cons_inv h) a2 b2]
end PL
end
section
set_option autoImplicit false
set_option Elab.async false
set_option linter.all false
set_option maxRecDepth 100000
set_option maxHeartbeats 1000000
/-! The pure layer stands for the hand layer: relations between values, memories and the abstract heap. -/
namespace PL
open PySem L2
theorem SL_eq : sizeLine = SL := by rw [sizeLine_eq]
mutual
/-- a value of the hand layer bears a pure one; ρ: where the cells stand -/
def Rep (K : PySem.W.Frag) (H : Hp) (ρ : List Addr) : PV → V → Prop
  | .non, v => v = .non
  | .bl b, v => v = .bl b
  | .int i, v => v = .int i
  | .str x, v => v = .str x
  | .cst a, v => v = .ref a
  | .tup l, v => ∃ a xs, v = .ref a ∧ SqT K H a xs ∧ Reps K H ρ l xs
  | .ref n, v => ∃ a, ρ[n]? = some a ∧ v = .ref a
def Reps (K : PySem.W.Frag) (H : Hp) (ρ : List Addr) : List PV → List V → Prop
  | [], xs => xs = []
  | p :: ps, xs => ∃ y ys, xs = y :: ys ∧ Rep K H ρ p y ∧ Reps K H ρ ps ys
end
/-- a list that is only read -/
def RoL (K : PySem.W.Frag) (H : Hp) (a : Addr) (xs : List V) : Prop := (∃ o, H a = some (.frz o (.lst xs))) ∨ ∀ H', SqL K H' a xs
theorem RoL.seq {K : PySem.W.Frag} {H : Hp} {a : Addr} {xs : List V} (h : RoL K H a xs) : SqL K H a xs := by
  rcases h with ⟨o, h⟩ | h
  · exact .inl (.inr ⟨o, h⟩)
  · exact h H
def RepK {κ : Type} (K : PySem.W.Frag) (H : Hp) (ρ : List Addr) : List (κ × PV) → List (κ × V) → Prop
  | [], xs => xs = []
  | p :: ps, xs => ∃ y ys, xs = (p.1, y) :: ys ∧ Rep K H ρ p.2 y ∧ RepK K H ρ ps ys
def RepO (K : PySem.W.Frag) (H : Hp) (ρ : List Addr) : PO → Addr → Prop
  | .lst l, a => ∃ xs, H a = some (.lst xs) ∧ Reps K H ρ l xs
  | .ro l, a => ∃ xs, RoL K H a xs ∧ Reps K H ρ l xs
  | .dct kvs, a => ∃ xs : List (Key × V), H a = some (.dK xs) ∧ RepK K H ρ kvs xs
  | .dtt kvs, a => ∃ xs : List (List Key × V), H a = some (.dT xs) ∧ RepK K H ρ kvs xs
  | .rtt kvs, a => ∃ (od : Obj) (xs : List (List Key × V)), H a = some (.frz od (.dT xs)) ∧ RepK K H ρ kvs xs
/-- a cell that may be written -/
def PO.mut : PO → Bool
  | .ro _ => false
  | .rtt _ => false
  | _ => true
/-- a cell that no other cell shares -/
def PO.own : PO → Bool
  | .ro _ => false
  | _ => true
theorem PO.own_of {o : PO} (h : o.mut = true) : o.own = true := by cases o <;> first | rfl | cases h
structure MemOk (K : PySem.W.Frag) (H : Hp) (ρ : List Addr) (μ : Mem) : Prop where
  len : ρ.length = μ.length
  at' : ∀ (n : Nat) (o : PO) (a : Addr), μ[n]? = some o → ρ[n]? = some a → RepO K H ρ o a
  inj : ∀ (n m : Nat) (a : Addr) (o u : PO), ρ[n]? = some a → ρ[m]? = some a → μ[n]? = some o → μ[m]? = some u → o.own = true → u.own = true → n = m
structure EnvOk (K : PySem.W.Frag) (H : Hp) (ρ : List Addr) (env : Env) (σ : L2.St) : Prop where
  len : env.length = σ.length
  at' : ∀ (i : Nat) (p : PV), env[i]? = some (some p) → ∃ x, σ[i]? = some (some x) ∧ Rep K H ρ p x
/-- the tuples stay -/
def Keep (K : PySem.W.Frag) (H H' : Hp) : Prop := (∀ a xs, SqT K H a xs → SqT K H' a xs) ∧ ∀ (a : Addr) (od : Obj) (xs : List (List Key × V)), H a = some (.frz od (.dT xs)) → H' a = some (.frz od (.dT xs))
theorem Keep.refl (K : PySem.W.Frag) (H : Hp) : Keep K H H := ⟨fun _ _ h => h, fun _ _ _ h => h⟩
theorem Keep.trans {K : PySem.W.Frag} {H H1 H2 : Hp} (a : Keep K H H1) (b : Keep K H1 H2) : Keep K H H2 := ⟨fun c xs h => b.1 c xs (a.1 c xs h), fun c o xs h => b.2 c o xs (a.2 c o xs h)⟩
theorem Keep.upd {K : PySem.W.Frag} {H : Hp} {p : Addr} {o : HO} (h : ∀ xs, H p ≠ some (.tup xs)) (h' : ∀ (ob : Obj) (u : HO), H p ≠ some (.frz ob u)) : Keep K H (upd H p o) := by
  refine ⟨?_, fun a od xs k => by rw [upd_ne (show a ≠ p from fun e => by subst e; exact h' od _ k)]; exact k⟩
  intro a xs k
  rcases k with (k | ⟨ob, k⟩) | k
  · exact .inl (.inl (by rw [upd_ne (show a ≠ p from fun e => by subst e; exact h xs k)]; exact k))
  · exact .inl (.inr ⟨ob, by rw [upd_ne (show a ≠ p from fun e => by subst e; exact h' ob _ k)]; exact k⟩)
  · exact .inr k
/-- a later state: more cells, the tuples as they were -/
structure Lat (K : PySem.W.Frag) (H : Hp) (ρ : List Addr) (H' : Hp) (ρ' : List Addr) : Prop where
  pre : ∃ t, ρ' = ρ ++ t
  keep : Keep K H H'
theorem Lat.refl (K : PySem.W.Frag) (H : Hp) (ρ : List Addr) : Lat K H ρ H ρ := ⟨⟨[], by simp⟩, .refl K H⟩
section
variable {K : PySem.W.Frag} {H H' H1 H2 : Hp} {ρ ρ' ρ1 ρ2 : List Addr}
theorem Lat.trans (a : Lat K H ρ H1 ρ1) (b : Lat K H1 ρ1 H2 ρ2) : Lat K H ρ H2 ρ2 := by
  obtain ⟨t, rfl⟩ := a.pre
  obtain ⟨u, rfl⟩ := b.pre
  exact ⟨⟨t ++ u, by simp⟩, a.keep.trans b.keep⟩
theorem Lat.get (l : Lat K H ρ H' ρ') {n : Nat} {a : Addr} (h : ρ[n]? = some a) : ρ'[n]? = some a := by
  obtain ⟨t, rfl⟩ := l.pre
  rw [List.getElem?_append_left (List.getElem?_eq_some_iff.mp h).1]
  exact h
mutual
theorem Rep.monoW (lg : ∀ (n : Nat) (a : Addr), ρ[n]? = some a → ρ'[n]? = some a) (lk : ∀ a xs, SqT K H a xs → SqT K H' a xs) : ∀ (p : PV) (x : V), Rep K H ρ p x → Rep K H' ρ' p x
  | .non, _, h => by simpa only [Rep] using h
  | .bl _, _, h => by simpa only [Rep] using h
  | .int _, _, h => by simpa only [Rep] using h
  | .str _, _, h => by simpa only [Rep] using h
  | .cst _, _, h => by simpa only [Rep] using h
  | .tup ps, x, h => by
    simp only [Rep] at h ⊢
    obtain ⟨a, xs, e, s, r⟩ := h
    exact ⟨a, xs, e, lk a xs s, Reps.monoW lg lk ps xs r⟩
  | .ref n, x, h => by
    simp only [Rep] at h ⊢
    obtain ⟨a, e, r⟩ := h
    exact ⟨a, lg _ _ e, r⟩
theorem Reps.monoW (lg : ∀ (n : Nat) (a : Addr), ρ[n]? = some a → ρ'[n]? = some a) (lk : ∀ a xs, SqT K H a xs → SqT K H' a xs) : ∀ (ps : List PV) (xs : List V), Reps K H ρ ps xs → Reps K H' ρ' ps xs
  | [], _, h => by simpa only [Reps] using h
  | p :: ps, xs, h => by
    simp only [Reps] at h ⊢
    obtain ⟨y, ys, e, r, t⟩ := h
    exact ⟨y, ys, e, Rep.monoW lg lk p y r, Reps.monoW lg lk ps ys t⟩
end
theorem Rep.mono (l : Lat K H ρ H' ρ') (p : PV) (x : V) (h : Rep K H ρ p x) : Rep K H' ρ' p x := Rep.monoW (fun _ _ e => l.get e) l.keep.1 p x h
theorem Reps.mono (l : Lat K H ρ H' ρ') (ps : List PV) (xs : List V) (h : Reps K H ρ ps xs) : Reps K H' ρ' ps xs := Reps.monoW (fun _ _ e => l.get e) l.keep.1 ps xs h
theorem RepK.mono {κ : Type} (l : Lat K H ρ H' ρ') : ∀ (ps : List (κ × PV)) (xs : List (κ × V)), RepK K H ρ ps xs → RepK K H' ρ' ps xs
  | [], _, h => h
  | p :: ps, xs, h => by
    obtain ⟨y, ys, e, r, t⟩ := h
    exact ⟨y, ys, e, Rep.mono l p.2 y r, RepK.mono l ps ys t⟩
theorem EnvOk.mono {env : Env} {σ : L2.St} (e : EnvOk K H ρ env σ) (l : Lat K H ρ H' ρ') : EnvOk K H' ρ' env σ :=
  ⟨e.len, fun i p h => let ⟨x, a, b⟩ := e.at' i p h; ⟨x, a, Rep.mono l p x b⟩⟩
theorem Reps.length : ∀ {ps : List PV} {xs : List V}, Reps K H ρ ps xs → xs.length = ps.length
  | [], xs, h => by simp only [Reps] at h; subst h; rfl
  | p :: ps, xs, h => by
    simp only [Reps] at h
    obtain ⟨y, ys, rfl, _, t⟩ := h
    simp [Reps.length t]
theorem Reps.get : ∀ {ps : List PV} {xs : List V} {i : Nat} {p : PV}, Reps K H ρ ps xs → ps[i]? = some p → ∃ x, xs[i]? = some x ∧ Rep K H ρ p x
  | [], xs, i, p, h, e => by simp at e
  | q :: ps, xs, 0, p, h, e => by
    simp only [Reps] at h
    obtain ⟨y, ys, rfl, r, _⟩ := h
    simp only [List.getElem?_cons_zero, Option.some.injEq] at e
    subst e
    exact ⟨y, rfl, r⟩
  | q :: ps, xs, i + 1, p, h, e => by
    simp only [Reps] at h
    obtain ⟨y, ys, rfl, _, t⟩ := h
    simp only [List.getElem?_cons_succ] at e
    obtain ⟨x, a, b⟩ := Reps.get (i := i) t e
    exact ⟨x, by simpa using a, b⟩
theorem Reps.nil : Reps K H ρ [] [] := by simp only [Reps]
theorem Reps.cons {p : PV} {ps : List PV} {x : V} {xs : List V} (r : Rep K H ρ p x) (t : Reps K H ρ ps xs) : Reps K H ρ (p :: ps) (x :: xs) := by
  simp only [Reps]
  exact ⟨x, xs, rfl, r, t⟩
theorem Reps.cons_iff {p : PV} {ps : List PV} {zs : List V} : Reps K H ρ (p :: ps) zs ↔ ∃ x xs, zs = x :: xs ∧ Rep K H ρ p x ∧ Reps K H ρ ps xs := by
  simp only [Reps]
theorem Reps.append : ∀ {ps qs : List PV} {xs ys : List V}, Reps K H ρ ps xs → Reps K H ρ qs ys → Reps K H ρ (ps ++ qs) (xs ++ ys)
  | [], _, xs, _, h, t => by simp only [Reps] at h; subst h; exact t
  | p :: ps, _, xs, _, h, t => by
    obtain ⟨y, ys, rfl, r, u⟩ := Reps.cons_iff.mp h
    exact .cons r (Reps.append u t)
theorem Reps.take : ∀ {ps : List PV} {xs : List V} (n : Nat), Reps K H ρ ps xs → Reps K H ρ (ps.take n) (xs.take n)
  | [], xs, n, h => by simp only [Reps] at h; subst h; simp [Reps]
  | p :: ps, xs, 0, h => by simp [Reps]
  | p :: ps, xs, n + 1, h => by
    obtain ⟨y, ys, rfl, r, u⟩ := Reps.cons_iff.mp h
    simp only [List.take_succ_cons]
    exact .cons r (Reps.take n u)
theorem Reps.drop : ∀ {ps : List PV} {xs : List V} (n : Nat), Reps K H ρ ps xs → Reps K H ρ (ps.drop n) (xs.drop n)
  | [], xs, n, h => by simp only [Reps] at h; subst h; simp [Reps]
  | p :: ps, xs, 0, h => by simpa using h
  | p :: ps, xs, n + 1, h => by
    obtain ⟨y, ys, rfl, r, u⟩ := Reps.cons_iff.mp h
    simp only [List.drop_succ_cons]
    exact Reps.drop n u
theorem Reps.set : ∀ {ps : List PV} {xs : List V} {p : PV} {x : V} (n : Nat), Reps K H ρ ps xs → Rep K H ρ p x → Reps K H ρ (ps.set n p) (xs.set n x)
  | [], xs, _, _, n, h, _ => by simp only [Reps] at h; subst h; simp [Reps]
  | p :: ps, xs, _, _, 0, h, r => by
    obtain ⟨y, ys, rfl, _, u⟩ := Reps.cons_iff.mp h
    exact .cons r u
  | p :: ps, xs, _, _, n + 1, h, r => by
    obtain ⟨y, ys, rfl, q, u⟩ := Reps.cons_iff.mp h
    exact .cons q (Reps.set n u r)
theorem Reps.erase : ∀ {ps : List PV} {xs : List V} (n : Nat), Reps K H ρ ps xs → Reps K H ρ (ps.eraseIdx n) (xs.eraseIdx n)
  | [], xs, n, h => by simp only [Reps] at h; subst h; simp [Reps]
  | p :: ps, xs, 0, h => by
    obtain ⟨y, ys, rfl, _, u⟩ := Reps.cons_iff.mp h
    exact u
  | p :: ps, xs, n + 1, h => by
    obtain ⟨y, ys, rfl, q, u⟩ := Reps.cons_iff.mp h
    exact .cons q (Reps.erase n u)
theorem Reps.dropLast {ps : List PV} {xs : List V} (h : Reps K H ρ ps xs) : Reps K H ρ ps.dropLast xs.dropLast := by
  rw [List.dropLast_eq_take, List.dropLast_eq_take, h.length]
  exact h.take _
theorem Reps.reverse : ∀ {ps : List PV} {xs : List V}, Reps K H ρ ps xs → Reps K H ρ ps.reverse xs.reverse
  | [], xs, h => by simp only [Reps] at h; subst h; simp [Reps]
  | p :: ps, xs, h => by
    obtain ⟨y, ys, rfl, q, u⟩ := Reps.cons_iff.mp h
    rw [List.reverse_cons, List.reverse_cons]
    exact (Reps.reverse u).append (.cons q .nil)
theorem Reps.rep {ps : List PV} {xs : List V} (h : Reps K H ρ ps xs) : ∀ n : Nat, Reps K H ρ (List.replicate n ps).flatten (List.replicate n xs).flatten
  | 0 => by simp [Reps]
  | n + 1 => by
    rw [List.replicate_succ, List.replicate_succ, List.flatten_cons, List.flatten_cons]
    exact h.append (Reps.rep h n)
theorem RepO.mono {o : PO} {a : Addr} (l : Lat K H ρ H' ρ') (hs : H' a = H a) (h : RepO K H ρ o a) : RepO K H' ρ' o a := by
  cases o with
  | lst ps => obtain ⟨xs, e, r⟩ := h; exact ⟨xs, hs.trans e, Reps.mono l ps xs r⟩
  | ro ps =>
    obtain ⟨xs, e, r⟩ := h
    refine ⟨xs, ?_, Reps.mono l ps xs r⟩
    rcases e with ⟨o, e⟩ | e
    · exact .inl ⟨o, hs.trans e⟩
    · exact .inr e
  | dct ps => obtain ⟨xs, e, r⟩ := h; exact ⟨xs, hs.trans e, RepK.mono l ps xs r⟩
  | dtt ps => obtain ⟨xs, e, r⟩ := h; exact ⟨xs, hs.trans e, RepK.mono l ps xs r⟩
  | rtt ps => obtain ⟨od, xs, e, r⟩ := h; exact ⟨od, xs, hs.trans e, RepK.mono l ps xs r⟩
/-- a new cell -/
theorem MemOk.push {μ : Mem} {p : Addr} {ho : HO} {o : PO} (M : MemOk K H ρ μ) (hp : H p = none) (h : ∀ H' ρ', Lat K H ρ H' ρ' → H' p = some ho → RepO K H' ρ' o p) :
    MemOk K (upd H p ho) (ρ ++ [p]) (μ ++ [o]) ∧ Lat K H ρ (upd H p ho) (ρ ++ [p]) := by
  have L : Lat K H ρ (upd H p ho) (ρ ++ [p]) := ⟨⟨[p], rfl⟩, .upd (fun xs e => by rw [hp] at e; cases e) fun ob xs e => by rw [hp] at e; cases e⟩
  have hl := M.len
  have old : ∀ n u a, μ[n]? = some u → ρ[n]? = some a → RepO K (upd H p ho) (ρ ++ [p]) u a ∧ (u.own = true → a ≠ p) := fun n u a hu ha => by
    have r := M.at' n u a hu ha
    by_cases e : a = p
    · subst e
      cases u with
      | lst ps => obtain ⟨xs, e, _⟩ := r; rw [hp] at e; cases e
      | ro ps =>
        obtain ⟨xs, e, q⟩ := r
        rcases e with ⟨o', e⟩ | e
        · rw [hp] at e; cases e
        · exact ⟨⟨xs, .inr e, Reps.mono L ps xs q⟩, fun z => nomatch z⟩
      | dct ps => obtain ⟨xs, e, _⟩ := r; rw [hp] at e; cases e
      | dtt ps => obtain ⟨xs, e, _⟩ := r; rw [hp] at e; cases e
      | rtt ps => obtain ⟨od, xs, e, _⟩ := r; rw [hp] at e; cases e
    · exact ⟨r.mono L (upd_ne e), fun _ => e⟩
  refine ⟨⟨by simp [hl], fun n u a hu ha => ?_, fun n m a u w hn hm hu hw mu mw => ?_⟩, L⟩
  · by_cases hn : n < μ.length
    · rw [List.getElem?_append_left hn] at hu
      rw [List.getElem?_append_left (by omega)] at ha
      exact (old n u a hu ha).1
    · have hn2 : n = μ.length := by
        have := (List.getElem?_eq_some_iff.mp hu).1
        simp at this
        omega
      subst hn2
      rw [List.getElem?_append_right (Nat.le_refl _)] at hu
      rw [List.getElem?_append_right (by omega)] at ha
      simp [hl] at hu ha
      subst hu ha
      exact h _ _ L upd_same
  · have key : ∀ k (b : Addr) (z : PO), (ρ ++ [p])[k]? = some b → (μ ++ [o])[k]? = some z → z.own = true → (k < μ.length ∧ ρ[k]? = some b ∧ μ[k]? = some z ∧ b ≠ p) ∨ (k = μ.length ∧ b = p) := fun k b z hb hz mz => by
      by_cases hk : k < μ.length
      · rw [List.getElem?_append_left hk] at hz
        rw [List.getElem?_append_left (by omega)] at hb
        exact .inl ⟨hk, hb, hz, (old k z b hz hb).2 mz⟩
      · have hk2 : k = μ.length := by
          have := (List.getElem?_eq_some_iff.mp hz).1
          simp at this
          omega
        subst hk2
        rw [List.getElem?_append_right (by omega)] at hb
        simp [hl] at hb
        exact .inr ⟨rfl, hb.symm⟩
    rcases key n a u hn hu mu with ⟨h1, h2, h3, h4⟩ | ⟨h1, h2⟩
    · rcases key m a w hm hw mw with ⟨g1, g2, g3, g4⟩ | ⟨g1, g2⟩
      · exact M.inj n m a u w h2 g2 h3 g3 mu mw
      · exact absurd g2 h4
    · rcases key m a w hm hw mw with ⟨g1, g2, g3, g4⟩ | ⟨g1, g2⟩
      · exact absurd h2 g4
      · omega
/-- a cell written -/
theorem MemOk.set {μ : Mem} {n : Nat} {p : Addr} {ho : HO} {o u : PO} (M : MemOk K H ρ μ) (hn : μ[n]? = some o) (hr : ρ[n]? = some p) (hm : o.mut = true)
    (h : RepO K (upd H p ho) ρ u p) : MemOk K (upd H p ho) ρ (μ.set n u) ∧ Lat K H ρ (upd H p ho) ρ := by
  have hH : (∃ xs, H p = some (.lst xs)) ∨ (∃ xs, H p = some (.dK xs)) ∨ ∃ xs, H p = some (.dT xs) := by
    have r := M.at' n o p hn hr
    cases o with
    | lst ps => obtain ⟨xs, e, _⟩ := r; exact .inl ⟨xs, e⟩
    | ro ps => cases hm
    | dct ps => obtain ⟨xs, e, _⟩ := r; exact .inr (.inl ⟨xs, e⟩)
    | dtt ps => obtain ⟨xs, e, _⟩ := r; exact .inr (.inr ⟨xs, e⟩)
    | rtt ps => cases hm
  have L : Lat K H ρ (upd H p ho) ρ := by
    refine ⟨⟨[], by simp⟩, .upd (fun xs e => ?_) fun ob xs e => ?_⟩
    · rcases hH with ⟨ys, q⟩ | ⟨ys, q⟩ | ⟨ys, q⟩ <;> (rw [q] at e; cases e)
    · rcases hH with ⟨ys, q⟩ | ⟨ys, q⟩ | ⟨ys, q⟩ <;> (rw [q] at e; cases e)
  have hnl : n < μ.length := (List.getElem?_eq_some_iff.mp hn).1
  refine ⟨⟨by simp [M.len], fun m w a hw ha => ?_, fun k m a w z hk hm' hw hz mw mz => ?_⟩, L⟩
  · by_cases e : n = m
    · subst e
      rw [List.getElem?_set_self hnl] at hw
      rw [hr] at ha
      cases hw
      cases ha
      exact h
    · rw [List.getElem?_set_ne e] at hw
      have r := M.at' m w a hw ha
      by_cases ea : a = p
      · subst ea
        cases w with
        | lst ps => exact absurd (M.inj n m a o _ hr ha hn hw (PO.own_of hm) rfl) e
        | dct ps => exact absurd (M.inj n m a o _ hr ha hn hw (PO.own_of hm) rfl) e
        | dtt ps => exact absurd (M.inj n m a o _ hr ha hn hw (PO.own_of hm) rfl) e
        | rtt ps => obtain ⟨od, xs, e1, _⟩ := r; rcases hH with ⟨ys, q⟩ | ⟨ys, q⟩ | ⟨ys, q⟩ <;> (rw [q] at e1; cases e1)
        | ro ps =>
          obtain ⟨xs, e1, q⟩ := r
          refine ⟨xs, ?_, Reps.mono L ps xs q⟩
          rcases e1 with ⟨o', e1⟩ | e1
          · rcases hH with ⟨ys, q⟩ | ⟨ys, q⟩ | ⟨ys, q⟩ <;> (rw [q] at e1; cases e1)
          · exact .inr e1
      · exact r.mono L (upd_ne ea)
  · have key : ∀ (j : Nat) (y : PO), (μ.set n u)[j]? = some y → y.own = true → ∃ y', μ[j]? = some y' ∧ y'.own = true := fun j y hy my => by
      by_cases e : n = j
      · subst e
        exact ⟨o, hn, PO.own_of hm⟩
      · rw [List.getElem?_set_ne e] at hy
        exact ⟨y, hy, my⟩
    obtain ⟨w', hw', mw'⟩ := key k w hw mw
    obtain ⟨z', hz', mz'⟩ := key m z hz mz
    exact M.inj k m a w' z' hk hm' hw' hz' mw' mz'
/-- a new tuple, which is no cell -/
theorem MemOk.other {μ : Mem} {p : Addr} {ho : HO} (M : MemOk K H ρ μ) (hp : H p = none) : MemOk K (upd H p ho) ρ μ ∧ Lat K H ρ (upd H p ho) ρ := by
  have L : Lat K H ρ (upd H p ho) ρ := ⟨⟨[], by simp⟩, .upd (fun xs e => by rw [hp] at e; cases e) fun ob xs e => by rw [hp] at e; cases e⟩
  refine ⟨⟨M.len, fun n u a hu ha => ?_, M.inj⟩, L⟩
  have r := M.at' n u a hu ha
  by_cases e : a = p
  · subst e
    cases u with
    | lst ps => obtain ⟨xs, e, _⟩ := r; rw [hp] at e; cases e
    | ro ps =>
      obtain ⟨xs, e, q⟩ := r
      rcases e with ⟨o', e⟩ | e
      · rw [hp] at e; cases e
      · exact ⟨xs, .inr e, Reps.mono L ps xs q⟩
    | dct ps => obtain ⟨xs, e, _⟩ := r; rw [hp] at e; cases e
    | dtt ps => obtain ⟨xs, e, _⟩ := r; rw [hp] at e; cases e
    | rtt ps => obtain ⟨od, xs, e, _⟩ := r; rw [hp] at e; cases e
  · exact r.mono L (upd_ne e)
end
end PL
end
section
set_option autoImplicit false
set_option Elab.async false
set_option linter.all false
set_option maxRecDepth 100000
set_option maxHeartbeats 1000000
/-! What a pure result asks; the judgements; operations by values. -/
namespace PL
open PySem L2
section
variable (K : PySem.W.Frag) (mg : Str → Option Value) (E : XK)
/-- fields of an exception -/
def RepF (H : Hp) (ρ : List Addr) (fs : List (Str × PV)) (ys : List (Str × V)) : Prop := fs.map (·.1) = ys.map (·.1) ∧ Reps K H ρ (fs.map (·.2)) (ys.map (·.2))
/-- what a pure result asks of the wish Q -/
def Post {α β : Type} (R : Hp → List Addr → α → β → Prop) (H : Hp) (ρ : List Addr) (Q : β → Hp → Prop) : Res α → Prop
  | .ok a m => ∀ b H' ρ', Lat K H ρ H' ρ' → MemOk K H' ρ' m → R H' ρ' a b → Q b H'
  | .exc x m => ∃ C, mg x.cls = some (.ref C) ∧ ∀ H' ρ', Lat K H ρ H' ρ' → MemOk K H' ρ' m → match x.fs with
    | [] => E (.ref C) none H'
    | fs => ∀ d ys, H' d = some (.xd ys) → RepF K H' ρ' fs ys → E (.ref C) (some d) H'
  | .stuck => False
variable {K mg E} {α β γ δ : Type} {R : Hp → List Addr → α → β → Prop} {R' : Hp → List Addr → γ → δ → Prop} {H H1 : Hp} {ρ ρ1 : List Addr} {Q : β → Hp → Prop}
theorem Post.later {r : Res α} (h : Post K mg E R H ρ Q r) (l : Lat K H ρ H1 ρ1) : Post K mg E R H1 ρ1 Q r := by
  cases r with
  | ok a m => exact fun b H' ρ' l' => h b H' ρ' (l.trans l')
  | exc x m => obtain ⟨C, e, h⟩ := h; exact ⟨C, e, fun H' ρ' l' => h H' ρ' (l.trans l')⟩
  | stuck => exact h
theorem Post.imp {r : Res α} {Q' : β → Hp → Prop} (h : Post K mg E R H ρ Q r) (i : ∀ b H', Q b H' → Q' b H') : Post K mg E R H ρ Q' r := by
  cases r with
  | ok a m => exact fun b H' ρ' l M r => i _ _ (h b H' ρ' l M r)
  | exc x m => exact h
  | stuck => exact h
theorem Post.rel {R2 : Hp → List Addr → α → β → Prop} {r : Res α} (h : Post K mg E R H ρ Q r) (i : ∀ H' ρ' a b, R2 H' ρ' a b → R H' ρ' a b) : Post K mg E R2 H ρ Q r := by
  cases r with
  | ok a m => exact fun b H' ρ' l M q => h b H' ρ' l M (i _ _ _ _ q)
  | exc x m => exact h
  | stuck => exact h
theorem Post.bind {r : Res α} {k : α → Mem → Res γ} {Q' : δ → Hp → Prop} (h : Post K mg E R' H ρ Q' (r.bind k)) :
    Post K mg E R H ρ (fun b H1 => ∃ a m ρ1, r = .ok a m ∧ Lat K H ρ H1 ρ1 ∧ MemOk K H1 ρ1 m ∧ R H1 ρ1 a b ∧ Post K mg E R' H1 ρ1 Q' (k a m)) r := by
  cases r with
  | ok a m => exact fun b H' ρ' l M r => ⟨a, m, ρ', rfl, l, M, r, Post.later (r := k a m) h l⟩
  | exc x m => exact h
  | stuck => exact h
theorem Post.val {a : α} {μ : Mem} {b : β} (h : Post K mg E R H ρ Q (.ok a μ)) (M : MemOk K H ρ μ) (r : R H ρ a b) : Q b H := h b H ρ (.refl K H ρ) M r
end
section
variable {K : PySem.W.Frag} {mg : Str → Option Value} {E : XK} {H : Hp} {ρ : List Addr} {Q : V → Hp → Prop} {μ : Mem}
abbrev RP (K : PySem.W.Frag) : Hp → List Addr → PV → V → Prop := Rep K
theorem Post.newL {l : List PV} {xs : List V} (h : Post K mg E (RP K) H ρ Q (newL l μ)) (M : MemOk K H ρ μ) (r : Reps K H ρ l xs) : ∀ p, H p = none → Q (.ref p) (upd H p (.lst xs)) := fun p hp => by
  have q := M.push (ho := .lst xs) (o := .lst l) hp fun H' ρ' L e => ⟨xs, e, Reps.mono L l xs r⟩
  refine h (.ref p) _ _ q.2 q.1 ?_
  show Rep K _ _ (.ref μ.length) (.ref p)
  simp only [Rep]
  exact ⟨p, by rw [← M.len, List.getElem?_append_right (Nat.le_refl _)]; simp, rfl⟩
theorem Post.newT {l : List PV} {xs : List V} (h : Post K mg E (RP K) H ρ Q (.ok (.tup l) μ)) (M : MemOk K H ρ μ) (r : Reps K H ρ l xs) : ∀ p, H p = none → Q (.ref p) (upd H p (.tup xs)) := fun p hp => by
  have q := M.other (ho := .tup xs) hp
  refine h (.ref p) _ _ q.2 q.1 ?_
  show Rep K _ _ (.tup l) (.ref p)
  simp only [Rep]
  exact ⟨p, xs, rfl, SqT.of upd_same, Reps.mono q.2 l xs r⟩
/-- a cell is written -/
theorem Post.write {n : Nat} {a : Addr} {l l' : List PV} {xs' : List V} {p : PV} {b : V} (h : Post K mg E (RP K) H ρ Q (.ok p (μ.set n (.lst l')))) (M : MemOk K H ρ μ) (hn : μ[n]? = some (.lst l)) (ha : ρ[n]? = some a)
    (r : Reps K H ρ l' xs') (rp : Rep K H ρ p b) : Q b (upd H a (.lst xs')) := by
  have L0 : Lat K H ρ (upd H a (.lst xs')) ρ := by
    obtain ⟨ys, e, _⟩ := M.at' n _ a hn ha
    exact ⟨⟨[], by simp⟩, .upd (fun xs q => by rw [e] at q; cases q) fun ob xs q => by rw [e] at q; cases q⟩
  have q := M.set (ho := .lst xs') (u := .lst l') hn ha rfl ⟨xs', upd_same, Reps.mono L0 l' xs' r⟩
  exact h b _ _ q.2 q.1 (Rep.mono q.2 p b rp)
/-! what is read -/
theorem rep_ref {n : Nat} {x : V} (M : MemOk K H ρ μ) (r : Rep K H ρ (.ref n) x) : ∃ a, ρ[n]? = some a ∧ x = .ref a := by simpa only [Rep] using r
theorem mem_lst {n : Nat} {x : V} {l : List PV} (M : MemOk K H ρ μ) (r : Rep K H ρ (.ref n) x) (e : μ[n]? = some (.lst l)) : ∃ a xs, ρ[n]? = some a ∧ x = .ref a ∧ H a = some (.lst xs) ∧ Reps K H ρ l xs := by
  obtain ⟨a, h1, h2⟩ := rep_ref M r
  obtain ⟨xs, h3, h4⟩ := M.at' n _ a e h1
  exact ⟨a, xs, h1, h2, h3, h4⟩
theorem getL_ref {n : Nat} {x : V} {l : List PV} (M : MemOk K H ρ μ) (r : Rep K H ρ (.ref n) x) (e : getL μ (.ref n) = some l) : ∃ a xs, x = .ref a ∧ SqL K H a xs ∧ Reps K H ρ l xs ∧ (μ[n]? = some (.lst l) ∨ μ[n]? = some (.ro l)) := by
  obtain ⟨a, h1, h2⟩ := rep_ref M r
  simp only [getL] at e
  split at e
  · rename_i l' q
    cases e
    obtain ⟨xs, h3, h4⟩ := M.at' n _ a q h1
    exact ⟨a, xs, h2, SqL.of h3, h4, .inl q⟩
  · rename_i l' q
    cases e
    obtain ⟨xs, h3, h4⟩ := M.at' n _ a q h1
    exact ⟨a, xs, h2, h3.seq, h4, .inr q⟩
  · cases e
theorem rep_tup {x : V} {l : List PV} (r : Rep K H ρ (.tup l) x) : ∃ a xs, x = .ref a ∧ SqT K H a xs ∧ Reps K H ρ l xs := by simpa only [Rep] using r
theorem getL_any {p : PV} {x : V} {l : List PV} (M : MemOk K H ρ μ) (r : Rep K H ρ p x) (e : getL μ p = some l) : ∃ a xs, x = .ref a ∧ (SqL K H a xs ∨ SqT K H a xs) ∧ Reps K H ρ l xs := by
  cases p with
  | tup l' =>
    simp only [getL, Option.some.injEq] at e
    subst e
    obtain ⟨a, xs, h1, h2, h3⟩ := rep_tup r
    exact ⟨a, xs, h1, .inr h2, h3⟩
  | ref n =>
    obtain ⟨a, xs, h1, h2, h3, _⟩ := getL_ref M r e
    exact ⟨a, xs, h1, .inl h2, h3⟩
  | _ => simp [getL] at e
theorem intsOf_map : ∀ {l : List PV} {is : List Int} {xs : List V}, intsOf l = some is → Reps K H ρ l xs → xs = is.map V.int
  | [], is, xs, e, r => by
    simp only [intsOf, Option.some.injEq] at e
    subst e
    simp only [Reps] at r
    exact r
  | p :: ps, is, xs, e, r => by
    cases p with
    | int i =>
      obtain ⟨y, ys, rfl, h1, h2⟩ := Reps.cons_iff.mp r
      simp only [intsOf] at e
      cases q : intsOf ps with
      | none => rw [q] at e; simp at e
      | some js =>
        rw [q] at e
        simp only [Option.map_some, Option.some.injEq] at e
        subst e
        simp only [Rep] at h1
        rw [h1, intsOf_map q h2]
        rfl
    | _ => simp [intsOf] at e
theorem boolsOf_map : ∀ {l : List PV} {is : List Bool} {xs : List V}, boolsOf l = some is → Reps K H ρ l xs → xs = is.map V.bl
  | [], is, xs, e, r => by
    simp only [boolsOf, Option.some.injEq] at e
    subst e
    simp only [Reps] at r
    exact r
  | p :: ps, is, xs, e, r => by
    cases p with
    | bl i =>
      obtain ⟨y, ys, rfl, h1, h2⟩ := Reps.cons_iff.mp r
      simp only [boolsOf] at e
      cases q : boolsOf ps with
      | none => rw [q] at e; simp at e
      | some js =>
        rw [q] at e
        simp only [Option.map_some, Option.some.injEq] at e
        subst e
        simp only [Rep] at h1
        rw [h1, boolsOf_map q h2]
        rfl
    | _ => simp [boolsOf] at e
mutual
theorem dp_conv {r : Nat → Option PyData} (hr : ∀ n d x, r n = some d → Rep K H ρ (.ref n) x → Dp K H x d) : ∀ (p : PV) (d : PyData) (x : V), PV.conv r p = some d → Rep K H ρ p x → Dp K H x d
  | .non, d, x, e, h => by simp only [PV.conv, Option.some.injEq] at e; subst e; simp only [Rep] at h; subst h; exact .non
  | .bl b, d, x, e, h => by simp only [PV.conv, Option.some.injEq] at e; subst e; simp only [Rep] at h; subst h; exact .bl b
  | .int b, d, x, e, h => by simp only [PV.conv, Option.some.injEq] at e; subst e; simp only [Rep] at h; subst h; exact .int b
  | .str b, d, x, e, h => by simp only [PV.conv, Option.some.injEq] at e; subst e; simp only [Rep] at h; subst h; exact .str b
  | .tup l, d, x, e, h => by
    simp only [PV.conv] at e
    obtain ⟨a, xs, rfl, h2, h3⟩ := rep_tup h
    cases q : PV.convs r l with
    | none => rw [q] at e; simp at e
    | some ds =>
      rw [q] at e
      simp only [Option.map_some, Option.some.injEq] at e
      subst e
      exact .tup h2 (dp_convs hr l ds xs q h3)
  | .ref n, d, x, e, h => hr n d x (by simpa only [PV.conv] using e) h
  | .cst _, d, x, e, h => by simp [PV.conv] at e
theorem dp_convs {r : Nat → Option PyData} (hr : ∀ n d x, r n = some d → Rep K H ρ (.ref n) x → Dp K H x d) : ∀ (l : List PV) (ds : List PyData) (xs : List V), PV.convs r l = some ds → Reps K H ρ l xs → DpAll K H xs ds
  | [], ds, xs, e, h => by simp only [PV.convs, Option.some.injEq] at e; subst e; simp only [Reps] at h; subst h; exact .nil
  | p :: ps, ds, xs, e, h => by
    obtain ⟨y, ys, rfl, h1, h2⟩ := Reps.cons_iff.mp h
    simp only [PV.convs] at e
    cases q : PV.conv r p with
    | none => rw [q] at e; simp at e
    | some d =>
      rw [q] at e
      simp only [Option.bind_some] at e
      cases q2 : PV.convs r ps with
      | none => rw [q2] at e; simp at e
      | some es =>
        rw [q2] at e
        simp only [Option.map_some, Option.some.injEq] at e
        subst e
        exact .cons (dp_conv hr p d y q h1) (dp_convs hr ps es ys q2 h2)
end
theorem dp_toDn (M : MemOk K H ρ μ) : ∀ (n : Nat) (p : PV) (d : PyData) (x : V), toDn μ n p = some d → Rep K H ρ p x → Dp K H x d
  | 0, p, d, x, e, h => dp_conv (fun _ _ _ q => by cases q) p d x e h
  | n + 1, p, d, x, e, h => by
    have hr : ∀ (k : Nat) (d : PyData) (x : V), (match μ[k]? with
        | some (.lst l) => (PV.convs (fun j => toDn μ n (.ref j)) l).map PyData.list
        | some (.ro l) => (PV.convs (fun j => toDn μ n (.ref j)) l).map PyData.list
        | _ => none) = some d → Rep K H ρ (.ref k) x → Dp K H x d := fun k d x e h => by
      have go : ∀ l, getL μ (.ref k) = some l → (PV.convs (fun j => toDn μ n (.ref j)) l).map PyData.list = some d → Dp K H x d := fun l hl e => by
        obtain ⟨a, xs, rfl, h2, h3, _⟩ := getL_ref M h hl
        cases q : PV.convs (fun j => toDn μ n (.ref j)) l with
        | none => rw [q] at e; simp at e
        | some ds =>
          rw [q] at e
          simp only [Option.map_some, Option.some.injEq] at e
          subst e
          exact .lst h2 (dp_convs (fun j d x q h => dp_toDn M n (.ref j) d x q h) l ds xs q h3)
      split at e
      · rename_i l q; exact go l (by simp [getL, q]) e
      · rename_i l q; exact go l (by simp [getL, q]) e
      · cases e
    exact dp_conv hr p d x e h
theorem dp_toD (M : MemOk K H ρ μ) {p : PV} {d : PyData} {x : V} (e : toD μ p = some d) (h : Rep K H ρ p x) : Dp K H x d := dp_toDn M 5 p d x e h
theorem reps1 {p : PV} {xs : List V} (h : Reps K H ρ [p] xs) : ∃ x, xs = [x] ∧ Rep K H ρ p x := by
  obtain ⟨y, ys, rfl, h1, h2⟩ := Reps.cons_iff.mp h
  simp only [Reps] at h2
  subst h2
  exact ⟨y, rfl, h1⟩
theorem reps2 {p q : PV} {xs : List V} (h : Reps K H ρ [p, q] xs) : ∃ x y, xs = [x, y] ∧ Rep K H ρ p x ∧ Rep K H ρ q y := by
  obtain ⟨y, ys, rfl, h1, h2⟩ := Reps.cons_iff.mp h
  obtain ⟨z, rfl, h3⟩ := reps1 h2
  exact ⟨y, z, rfl, h1, h3⟩
end
/-! ### readings by pure functions of values -/
section
variable (K : PySem.W.Frag) (mg : Str → Option Value) (E : XK) (f : Fn)
def rP2 : R2 := fun x y H Q => ∃ μ ρ p q, MemOk K H ρ μ ∧ Rep K H ρ p x ∧ Rep K H ρ q y ∧ Post K mg E (RP K) H ρ Q (f [p, q] μ)
def rP1 : V → Hp → VK → Prop := fun x H Q => ∃ μ ρ p, MemOk K H ρ μ ∧ Rep K H ρ p x ∧ Post K mg E (RP K) H ρ Q (f [p] μ)
def rPn : List V → Hp → VK → Prop := fun xs H Q => ∃ μ ρ ps, MemOk K H ρ μ ∧ Reps K H ρ ps xs ∧ Post K mg E (RP K) H ρ Q (f ps μ)
def rPm : V → List V → Hp → VK → Prop := fun x xs H Q => ∃ μ ρ p ps, MemOk K H ρ μ ∧ Rep K H ρ p x ∧ Reps K H ρ ps xs ∧ Post K mg E (RP K) H ρ Q (f (p :: ps) μ)
end
theorem vint {K : PySem.W.Frag} {H : Hp} {ρ : List Addr} {i : Int} {x : V} (h : Rep K H ρ (.int i) x) : x = .int i := by simpa only [Rep] using h
theorem vbl {K : PySem.W.Frag} {H : Hp} {ρ : List Addr} {i : Bool} {x : V} (h : Rep K H ρ (.bl i) x) : x = .bl i := by simpa only [Rep] using h
theorem vstr {K : PySem.W.Frag} {H : Hp} {ρ : List Addr} {i : Str} {x : V} (h : Rep K H ρ (.str i) x) : x = .str i := by simpa only [Rep] using h
theorem vnon {K : PySem.W.Frag} {H : Hp} {ρ : List Addr} {x : V} (h : Rep K H ρ .non x) : x = .non := by simpa only [Rep] using h
theorem rint {K : PySem.W.Frag} {H : Hp} {ρ : List Addr} {i : Int} : Rep K H ρ (.int i) (.int i) := by simp only [Rep]
theorem rbl {K : PySem.W.Frag} {H : Hp} {ρ : List Addr} {i : Bool} : Rep K H ρ (.bl i) (.bl i) := by simp only [Rep]
theorem rstr {K : PySem.W.Frag} {H : Hp} {ρ : List Addr} {i : Str} : Rep K H ρ (.str i) (.str i) := by simp only [Rep]
theorem rnon {K : PySem.W.Frag} {H : Hp} {ρ : List Addr} : Rep K H ρ .non .non := by simp only [Rep]
section
variable {X : Cx} {E : XK}
theorem opP_sub : OpR X (binaryOp .Sub) (rP2 X.K X.mg E fSub) := by
  intro pins s σ H x y v u Q I rx ry h
  obtain ⟨μ, ρ, p, q, M, hp, hq, h⟩ := h
  cases p <;> cases q <;> first | exact h.elim | skip
  rename_i i j
  obtain rfl := vint hp
  obtain rfl := vint hq
  exact op_sub pins s σ H _ _ v u Q I rx ry ⟨i, j, rfl, rfl, h.val M rint⟩
theorem opP_add : OpR X (binaryOp .Add) (rP2 X.K X.mg E fAdd) := by
  intro pins s σ H x y v u Q I rx ry h
  obtain ⟨μ, ρ, p, q, M, hp, hq, h⟩ := h
  cases p <;> cases q <;> first | exact h.elim | skip
  · rename_i i j
    obtain rfl := vint hp
    obtain rfl := vint hq
    exact op_add pins s σ H _ _ v u Q I rx ry ⟨i, j, rfl, rfl, h.val M rint⟩
  · rename_i i j
    obtain rfl := vstr hp
    obtain rfl := vstr hq
    simp only [fAdd] at h
    split at h
    · rename_i hz
      exact op_add_str pins s σ H _ _ v u Q I rx ry ⟨i, j, rfl, rfl, by rw [SL_eq]; exact hz, h.val M rstr⟩
    · exact h.elim
  · rename_i i j
    obtain ⟨a, xs, rfl, h1, h2⟩ := rep_tup hp
    obtain ⟨b, ys, rfl, h3, h4⟩ := rep_tup hq
    simp only [fAdd] at h
    split at h
    · rename_i hz
      refine op_catA pins s σ H _ _ v u Q I rx ry ⟨a, b, xs, ys, rfl, rfl, h1, h3, by rw [SL_eq, h2.length, h4.length]; exact hz, fun e => ?_, fun _ e => ?_, fun _ _ => h.newT M (h2.append h4)⟩
      · subst e
        have e2 : i = [] := List.eq_nil_of_length_eq_zero (by rw [← h2.length]; rfl)
        subst e2
        exact h.val M (by show Rep _ _ _ _ _; simp only [Rep]; exact ⟨b, ys, rfl, h3, h4⟩)
      · subst e
        have e2 : j = [] := List.eq_nil_of_length_eq_zero (by rw [← h4.length]; rfl)
        subst e2
        exact h.val M (by show Rep _ _ _ _ _; simp only [Rep]; exact ⟨a, xs, rfl, h1, by simpa using h2⟩)
    · exact h.elim
  · rename_i n m
    simp only [fAdd] at h
    split at h
    · rename_i xs ys e1 e2
      obtain ⟨a, zs, g1, rfl, g3, g4⟩ := mem_lst M hp e1
      obtain ⟨b, ws, k1, rfl, k3, k4⟩ := mem_lst M hq e2
      split at h
      · rename_i hz
        exact op_cat pins s σ H _ _ v u Q I rx ry ⟨a, b, zs, ws, rfl, rfl, g3, k3, by rw [SL_eq, g4.length, k4.length]; exact hz, h.newL M (g4.append k4)⟩
      · exact h.elim
    · exact h.elim
theorem opP_mul : OpR X (binaryOp .Mult) (rP2 X.K X.mg E fMul) := by
  intro pins s σ H x y v u Q I rx ry h
  obtain ⟨μ, ρ, p, q, M, hp, hq, h⟩ := h
  cases p <;> cases q <;> first | exact h.elim | skip
  · rename_i i j
    obtain rfl := vint hp
    obtain rfl := vint hq
    simp only [fMul] at h
    split at h
    · rename_i hz
      have hh := h.val M rint
      rcases hz with hz | hz | hz
      · exact op_mul pins s σ H _ _ v u Q I rx ry ⟨i, j, rfl, rfl, .inl hz, hh⟩
      · exact op_mul pins s σ H _ _ v u Q I rx ry ⟨i, j, rfl, rfl, .inr hz, hh⟩
      · exact op_mulW pins s σ H _ _ v u Q I rx ry ⟨i, j, rfl, rfl, hz, hh⟩
    · exact h.elim
  · rename_i l j
    obtain rfl := vint hq
    obtain ⟨a, xs, rfl, h1, h2⟩ := rep_tup hp
    simp only [fMul] at h
    split at h
    · rename_i hz
      obtain ⟨z1, z2, z3, z4⟩ := hz
      refine op_repT pins s σ H _ _ v u Q I rx ry ⟨a, j, xs, rfl, rfl, h1, fun e => z1 ?_, z2, z3, by rw [h2.length]; exact z4, h.newT M (h2.rep _)⟩
      exact List.eq_nil_of_length_eq_zero (by rw [← h2.length, e]; rfl)
    · exact h.elim
  · rename_i n j
    obtain rfl := vint hq
    simp only [fMul] at h
    split at h
    · rename_i l e1
      obtain ⟨a, zs, g1, rfl, g3, g4⟩ := mem_lst M hp e1
      split at h
      · rename_i hz
        obtain ⟨z1, z2, z3⟩ := hz
        exact op_rep pins s σ H _ _ v u Q I rx ry ⟨a, j, zs, rfl, rfl, g3, z1, z2, by rw [SL_eq, g4.length]; exact z3, h.newL M (g4.rep _)⟩
      · exact h.elim
    · exact h.elim
theorem opP_div : OpR X (binaryOp .FloorDiv) (rP2 X.K X.mg E fDiv) := by
  intro pins s σ H x y v u Q I rx ry h
  obtain ⟨μ, ρ, p, q, M, hp, hq, h⟩ := h
  cases p <;> cases q <;> first | exact h.elim | skip
  rename_i i j
  obtain rfl := vint hp
  obtain rfl := vint hq
  simp only [fDiv] at h
  split at h
  · rename_i hz
    exact op_fdivW pins s σ H _ _ v u Q I rx ry ⟨i, j, rfl, rfl, hz, h.val M rint⟩
  · exact h.elim
theorem opP_mod : OpR X (binaryOp .Mod) (rP2 X.K X.mg E fMod) := by
  intro pins s σ H x y v u Q I rx ry h
  obtain ⟨μ, ρ, p, q, M, hp, hq, h⟩ := h
  cases p <;> cases q <;> first | exact h.elim | skip
  rename_i i j
  obtain rfl := vint hp
  obtain rfl := vint hq
  simp only [fMod] at h
  split at h
  · rename_i hz
    exact op_mod pins s σ H _ _ v u Q I rx ry ⟨i, j, rfl, rfl, hz, h.val M rint⟩
  · exact h.elim
theorem opP_pow : OpR X (binaryOp .Pow) (rP2 X.K X.mg E fPow) := by
  intro pins s σ H x y v u Q I rx ry h
  obtain ⟨μ, ρ, p, q, M, hp, hq, h⟩ := h
  cases p <;> cases q <;> first | exact h.elim | skip
  rename_i i j
  obtain rfl := vint hp
  obtain rfl := vint hq
  simp only [fPow] at h
  split at h
  · rename_i hz
    exact op_pow pins s σ H _ _ v u Q I rx ry ⟨i, j, rfl, rfl, hz, h.val M rint⟩
  · exact h.elim
theorem unP_neg : UnR X (unaryOp .USub) (rP1 X.K X.mg E fNeg) := by
  intro pins s σ H x v Q I rx h
  obtain ⟨μ, ρ, p, M, hp, h⟩ := h
  cases p <;> first | exact h.elim | skip
  rename_i i
  obtain rfl := vint hp
  exact un_neg pins s σ H _ v Q I rx ⟨i, rfl, h.val M rint⟩
theorem cmpP_lt : OpR X (compareOp .Lt) (rP2 X.K X.mg E fLt) := by
  intro pins s σ H x y v u Q I rx ry h
  obtain ⟨μ, ρ, p, q, M, hp, hq, h⟩ := h
  cases p <;> cases q <;> first | exact h.elim | skip
  rename_i i j
  obtain rfl := vint hp
  obtain rfl := vint hq
  exact op_lt pins s σ H _ _ v u Q I rx ry ⟨i, j, rfl, rfl, h.val M rbl⟩
theorem cmpP_le : OpR X (compareOp .LtE) (rP2 X.K X.mg E fLe) := by
  intro pins s σ H x y v u Q I rx ry h
  obtain ⟨μ, ρ, p, q, M, hp, hq, h⟩ := h
  cases p <;> cases q <;> first | exact h.elim | skip
  rename_i i j
  obtain rfl := vint hp
  obtain rfl := vint hq
  exact op_le pins s σ H _ _ v u Q I rx ry ⟨i, j, rfl, rfl, h.val M rbl⟩
theorem cmpP_gt : OpR X (compareOp .Gt) (rP2 X.K X.mg E fGt) := by
  intro pins s σ H x y v u Q I rx ry h
  obtain ⟨μ, ρ, p, q, M, hp, hq, h⟩ := h
  cases p <;> cases q <;> first | exact h.elim | skip
  rename_i i j
  obtain rfl := vint hp
  obtain rfl := vint hq
  exact op_gt pins s σ H _ _ v u Q I rx ry ⟨i, j, rfl, rfl, h.val M rbl⟩
theorem cmpP_ge : OpR X (compareOp .GtE) (rP2 X.K X.mg E fGe) := by
  intro pins s σ H x y v u Q I rx ry h
  obtain ⟨μ, ρ, p, q, M, hp, hq, h⟩ := h
  cases p <;> cases q <;> first | exact h.elim | skip
  rename_i i j
  obtain rfl := vint hp
  obtain rfl := vint hq
  exact op_ge pins s σ H _ _ v u Q I rx ry ⟨i, j, rfl, rfl, h.val M rbl⟩
theorem scal_of {K : PySem.W.Frag} {H : Hp} {ρ : List Addr} {p q : PV} {x y : V} {b : Bool} (hp : Rep K H ρ p x) (hq : Rep K H ρ q y) (e : scalP p q = some b) : scal x y = true ∧ b = decide (x = y) := by
  cases p <;> cases q <;> simp only [scalP, reduceCtorEq, Option.some.injEq] at e <;> subst e
  · rename_i i j
    obtain rfl := vbl hp
    obtain rfl := vbl hq
    exact ⟨rfl, by simp⟩
  · rename_i i j
    obtain rfl := vint hp
    obtain rfl := vint hq
    exact ⟨rfl, by simp⟩
  · rename_i i j
    obtain rfl := vstr hp
    obtain rfl := vstr hq
    exact ⟨rfl, by simp⟩
theorem eq_run {op : CmpOp} {g : Bool → Bool} (h1 : OpR X (compareOp op) (fun x y H Q => scal x y = true ∧ Q (.bl (g (decide (x = y)))) H))
    (h2 : OpR X (compareOp op) (fun x y H Q => ∃ d e, Dp X.K H x d ∧ Dp X.K H y e ∧ SeqAt.shaped d = true ∧ SeqAt.shaped e = true ∧ Q (.bl (g (PyData.eqv d e))) H)) {f : Fn}
    (hf : ∀ p q μ, f [p, q] μ = match eqR μ p q with | some b => .ok (.bl (g b)) μ | none => .stuck) : OpR X (compareOp op) (rP2 X.K X.mg E f) := by
  intro pins s σ H x y v u Q I rx ry h
  obtain ⟨μ, ρ, p, q, M, hp, hq, h⟩ := h
  rw [hf] at h
  cases e : eqR μ p q with
  | none => rw [e] at h; exact h.elim
  | some b =>
    rw [e] at h
    have hv := h.val M rbl
    unfold eqR at e
    cases e2 : scalP p q with
    | some b' =>
      rw [e2] at e
      cases e
      obtain ⟨z1, z2⟩ := scal_of hp hq e2
      exact h1 pins s σ H x y v u Q I rx ry ⟨z1, by rw [← z2]; exact hv⟩
    | none =>
      rw [e2] at e
      simp only at e
      split at e
      · rename_i d d' e3 e4
        split at e
        · rename_i hz
          cases e
          exact h2 pins s σ H x y v u Q I rx ry ⟨d, d', dp_toD M e3 hp, dp_toD M e4 hq, hz.1, hz.2, hv⟩
        · cases e
      · cases e
theorem cmpP_eq (hu : X.A.units + 64 < cLine) : OpR X (compareOp .Eq) (rP2 X.K X.mg E fEq) := eq_run (g := id) op_eq (op_eqD hu) fun _ _ _ => rfl
theorem cmpP_ne (hu : X.A.units + 64 < cLine) : OpR X (compareOp .NotEq) (rP2 X.K X.mg E fNe) := eq_run (g := fun b => !b) op_ne (op_neD hu) fun _ _ _ => rfl
theorem flat_of {K : PySem.W.Frag} {H : Hp} {ρ : List Addr} {p : PV} {x : V} (h : Rep K H ρ p x) (e : flatP p = true) : flatV x = true := by
  cases p <;> simp only [Rep] at h <;> first | (subst h; rfl) | cases e
theorem eqF_of {K : PySem.W.Frag} {H : Hp} {ρ : List Addr} {p q : PV} {x y : V} (h : Rep K H ρ p x) (h' : Rep K H ρ q y) (e : flatP p = true) (e' : flatP q = true) : eqF p q = eqV x y := by
  cases p <;> cases q <;> simp only [Rep] at h h' <;> first | (subst h; subst h'; rfl) | exact absurd e Bool.false_ne_true | exact absurd e' Bool.false_ne_true
theorem flats_of {K : PySem.W.Frag} {H : Hp} {ρ : List Addr} : ∀ {l : List PV} {xs : List V}, Reps K H ρ l xs → l.all flatP = true → xs.all flatV = true
  | [], xs, h, _ => by simp only [Reps] at h; subst h; rfl
  | p :: ps, xs, h, e => by
    obtain ⟨y, ys, rfl, h1, h2⟩ := Reps.cons_iff.mp h
    simp only [List.all_cons, Bool.and_eq_true] at e ⊢
    exact ⟨flat_of h1 e.1, flats_of h2 e.2⟩
theorem anyF_of {K : PySem.W.Frag} {H : Hp} {ρ : List Addr} {p : PV} {x : V} (h : Rep K H ρ p x) (e : flatP p = true) : ∀ {l : List PV} {xs : List V}, Reps K H ρ l xs → l.all flatP = true → (l.any fun z => eqF z p) = inV x xs
  | [], xs, h, _ => by simp only [Reps] at h; subst h; rfl
  | q :: ps, xs, h', e' => by
    obtain ⟨y, ys, rfl, h1, h2⟩ := Reps.cons_iff.mp h'
    simp only [List.all_cons, Bool.and_eq_true] at e'
    have ih := anyF_of h e h2 e'.2
    show (eqF q p || ps.any fun z => eqF z p) = inV x (y :: ys)
    rw [ih, eqF_of h1 h e'.1 e]
    rfl
/-- in, within a tuple of data -/
def rInT (K : PySem.W.Frag) (neg : Bool) : R2 := fun x y H Q => ∃ d ds, Dp K H x d ∧ Dp K H y (.tuple ds) ∧ SeqAt.shaped d = true ∧ SeqAt.shaped (.tuple ds) = true ∧ Q (.bl (if neg then !(ds.any fun z => PyData.eqv z d) else ds.any fun z => PyData.eqv z d)) H
theorem in_tupD (hu : X.A.units + 65 < cLine) : OpR X (compareOp .In) (rInT X.K false) := by
  rintro pins s σ H x y v u Q I rx ry ⟨d, ds, k1, k2, z1, z2, hq⟩
  have ⟨_, a1⟩ := Dp.reads I _ _ _ k1 rx
  have ⟨_, a2⟩ := Dp.reads I _ _ _ k2 ry
  exact SeqAt.in_tuple_reads a2 a1 (SeqAt.canLay_of_shaped z2) (SeqAt.canLay_of_shaped z1) (by have := SeqAt.depth_of_shaped z1; omega) ⟨.bl _, H, I, rfl, hq⟩
theorem notIn_tupD (hu : X.A.units + 65 < cLine) : OpR X (compareOp .NotIn) (rInT X.K true) := by
  rintro pins s σ H x y v u Q I rx ry ⟨d, ds, k1, k2, z1, z2, hq⟩
  have ⟨_, a1⟩ := Dp.reads I _ _ _ k1 rx
  have ⟨_, a2⟩ := Dp.reads I _ _ _ k2 ry
  exact SeqAt.notIn_tuple_reads a2 a1 (SeqAt.canLay_of_shaped z2) (SeqAt.canLay_of_shaped z1) (by have := SeqAt.depth_of_shaped z1; omega) ⟨.bl _, H, I, rfl, hq⟩
theorem in_run {op : CmpOp} {neg : Bool} (h0 : OpR X (compareOp op) (fun x y H Q => ∃ (k : Nat) (z : Str), x = .str ⟨#[k]⟩ ∧ y = .str z ∧ Q (.bl (if neg then !decide (k ∈ z.cps.toList) else decide (k ∈ z.cps.toList))) H))
    (h1 : OpR X (compareOp op) (rIn X.K neg))
    (h2 : OpR X (compareOp op) (fun x y H Q => ∃ d ds, Dp X.K H x d ∧ Dp X.K H y (.list ds) ∧ SeqAt.shaped d = true ∧ SeqAt.shaped (.list ds) = true ∧ Q (.bl (if neg then !(ds.any fun z => PyData.eqv z d) else ds.any fun z => PyData.eqv z d)) H))
    (h3 : OpR X (compareOp op) (rInT X.K neg)) {f : Fn}
    (hf : ∀ p q μ, f [p, q] μ = match inR μ p q with | some b => .ok (.bl (if neg then !b else b)) μ | none => .stuck) : OpR X (compareOp op) (rP2 X.K X.mg E f) := by
  intro pins s σ H x y v u Q I rx ry h
  obtain ⟨μ, ρ, p, q, M, hp, hq, h⟩ := h
  rw [hf] at h
  cases e : inR μ p q with
  | none => rw [e] at h; exact h.elim
  | some b =>
    rw [e] at h
    have hv := h.val M rbl
    unfold inR at e
    split at e
    · rename_i z hz
      cases p <;> cases q <;> simp only [strPair, reduceCtorEq, Option.some.injEq] at hz
      rename_i a w
      subst hz
      obtain rfl := vstr hp
      obtain rfl := vstr hq
      unfold inStr at e
      simp only at e
      split at e
      · rename_i k hk
        simp only [Option.some.injEq] at e
        subst e
        refine h0 pins s σ H _ _ v u Q I rx ry ⟨k, w, ?_, rfl, hv⟩
        have : a = ⟨#[k]⟩ := by
          cases a with
          | mk cps =>
            congr 1
            exact Array.toList_inj.mp (by simpa using hk)
        rw [this]
      · cases e
    · unfold inSeq at e
      split at e
      · rename_i l hl
        split at e
        · rename_i hz
          cases e
          obtain ⟨a, xs, rfl, k1, k2⟩ := getL_any M hq hl
          refine h1 pins s σ H x _ v u Q I rx ry ⟨a, xs, rfl, k1, flat_of hp hz.1, flats_of k2 hz.2, ?_⟩
          rw [← anyF_of hp hz.1 k2 hz.2]
          exact hv
        · unfold inDeep at e
          split at e
          · split at e
            · rename_i d es e3 e4
              split at e
              · rename_i hz
                cases e
                exact h2 pins s σ H x y v u Q I rx ry ⟨d, es, dp_toD M e3 hp, dp_toD M e4 hq, hz.1, hz.2, hv⟩
              · cases e
            · cases e
          · split at e
            · rename_i d es e3 e4
              split at e
              · rename_i hz
                cases e
                exact h3 pins s σ H x y v u Q I rx ry ⟨d, es, dp_toD M e3 hp, dp_toD M e4 hq, hz.1, hz.2, hv⟩
              · cases e
            · cases e
          · cases e
      · cases e
theorem cmpP_in (hu : X.A.units + 65 < cLine) : OpR X (compareOp .In) (rP2 X.K X.mg E fIn) :=
  in_run (neg := false) op_in_sign op_in_seq (op_inD hu) (in_tupD hu) fun p q μ => by simp only [fIn, Bool.false_eq_true, if_false]; try rfl
theorem cmpP_notIn (hu : X.A.units + 65 < cLine) : OpR X (compareOp .NotIn) (rP2 X.K X.mg E fNotIn) :=
  in_run (neg := true) op_notIn_sign op_notIn_seq (op_notInD hu) (notIn_tupD hu) fun p q μ => by simp only [fNotIn, if_true]; try rfl
theorem isNon_of {K : PySem.W.Frag} {H : Hp} {ρ : List Addr} {p : PV} {x : V} (h : Rep K H ρ p x) : isNon p = decide (x = .non) := by
  cases p <;> simp only [Rep] at h
  · subst h; rfl
  · subst h; rfl
  · subst h; rfl
  · subst h; rfl
  · obtain ⟨a, xs, rfl, _⟩ := h; rfl
  · obtain ⟨a, _, rfl⟩ := h; rfl
  · subst h; rfl
theorem cmpP_isN : OpR X (compareOp .Is) (rP2 X.K X.mg E fIsN) := by
  intro pins s σ H x y v u Q I rx ry h
  obtain ⟨μ, ρ, p, q, M, hp, hq, h⟩ := h
  cases q <;> first | exact h.elim | skip
  obtain rfl := vnon hq
  have e : fIsN [p, .non] μ = .ok (.bl (isNon p)) μ := by cases p <;> rfl
  rw [e] at h
  exact op_isN pins s σ H _ _ v u Q I rx ry ⟨rfl, by rw [← isNon_of hp]; exact h.val M rbl⟩
theorem cmpP_notN : OpR X (compareOp .IsNot) (rP2 X.K X.mg E fNotN) := by
  intro pins s σ H x y v u Q I rx ry h
  obtain ⟨μ, ρ, p, q, M, hp, hq, h⟩ := h
  cases q <;> first | exact h.elim | skip
  obtain rfl := vnon hq
  have e : fNotN [p, .non] μ = .ok (.bl (!isNon p)) μ := by cases p <;> rfl
  rw [e] at h
  exact op_notN pins s σ H _ _ v u Q I rx ry ⟨rfl, by rw [← isNon_of hp]; exact h.val M rbl⟩
theorem atI_get {K : PySem.W.Frag} {H : Hp} {ρ : List Addr} {l : List PV} {xs : List V} {i : Int} {q : PV} (h : Reps K H ρ l xs) (e : PL.atI l i = some q) : ∃ y, L2.atI xs i = some y ∧ Rep K H ρ q y := by
  unfold PL.atI at e
  unfold L2.atI
  have en : PL.ixN l.length i = L2.ixN xs.length i := by rw [h.length]; rfl
  rw [← en]
  cases z : PL.ixN l.length i with
  | none => rw [z] at e; simp at e
  | some j =>
    rw [z] at e
    simp only [Option.bind_some] at e ⊢
    exact h.get e
theorem ixP : IxR X (rP2 X.K X.mg E fIx) := by
  intro value slice pins s σ H x y v u Q I rx ry h hs
  obtain ⟨μ, ρ, p, q, M, hp, hq, h⟩ := h
  cases q with
  | int i =>
    obtain rfl := vint hq
    have seqs : (match getL μ p with
      | some l => match PL.atI l i with | some q => Res.ok q μ | none => .stuck
      | none => .stuck) = fIx [p, .int i] μ → wpAny (model X.prog X.w) X.A (PyProof.Rows.subscriptTail value slice v u) (EP X pins σ Q) X.xe s := fun e => by
      rw [← e] at h
      split at h
      · rename_i l hl
        split at h
        · rename_i q hq2
          cases p with
          | tup l' =>
            simp only [getL, Option.some.injEq] at hl
            subst hl
            obtain ⟨a, xs, rfl, k1, k2⟩ := rep_tup hp
            obtain ⟨z, z1, z2⟩ := atI_get k2 hq2
            exact ix_tup value slice pins s σ H _ _ v u Q I rx ry ⟨a, xs, i, z, rfl, rfl, k1, z1, h.val M z2⟩ hs
          | ref n =>
            obtain ⟨a, xs, rfl, k1, k2, _⟩ := getL_ref M hp hl
            obtain ⟨z, z1, z2⟩ := atI_get k2 hq2
            exact ix_list value slice pins s σ H _ _ v u Q I rx ry ⟨a, xs, i, z, rfl, rfl, k1, z1, h.val M z2⟩ hs
          | _ => simp [getL] at hl
        · exact h.elim
      · exact h.elim
    cases p with
    | str z =>
      obtain rfl := vstr hp
      simp only [fIx] at h
      split at h
      · rename_i hz
        split at h
        · rename_i k hk
          exact ix_str value slice pins s σ H _ _ v u Q I rx ry ⟨z, i, k, rfl, rfl, by rw [SL_eq]; exact hz, hk, h.val M rstr⟩ hs
        · exact h.elim
      · exact h.elim
    | _ => exact seqs rfl
  | _ => cases p <;> exact h.elim
theorem cut_get {K : PySem.W.Frag} {H : Hp} {ρ : List Addr} {l : List PV} {xs : List V} (lo hi : Option Int) (h : Reps K H ρ l xs) : Reps K H ρ (cut l lo hi) (cutV xs lo hi) := by
  unfold cut cutV
  rw [h.length]
  exact (h.drop _).take _
end
end PL
end
section
set_option autoImplicit false
set_option Elab.async false
set_option linter.all false
set_option maxRecDepth 100000
set_option maxHeartbeats 1000000
/-! The judgements over the pure layer and their rules. -/
namespace PL
open PySem L2
/-! ### readings by pure functions -/
section
variable (K : PySem.W.Frag) (mg : Str → Option Value) (E : XK)
abbrev RB : Hp → List Addr → Bool → Bool → Prop := fun _ _ p b => b = p
abbrev RPs (K : PySem.W.Frag) : Hp → List Addr → List PV → List V → Prop := Reps K
abbrev RU : Hp → List Addr → Unit → Unit → Prop := fun _ _ _ _ => True
def tE (f : Ex) : TE := fun σ H Q => ∃ env μ ρ, EnvOk K H ρ env σ ∧ MemOk K H ρ μ ∧ Post K mg E (RP K) H ρ Q (f env μ)
def tT (f : Ex) : TT := fun σ H Q => ∃ env μ ρ, EnvOk K H ρ env σ ∧ MemOk K H ρ μ ∧ Post K mg E RB H ρ Q ((f env μ).bind asB)
def tA (f : Ag) : TA := fun σ H Q => ∃ env μ ρ, EnvOk K H ρ env σ ∧ MemOk K H ρ μ ∧ Post K mg E (RPs K) H ρ Q (f env μ)
/-- what a pure statement's end asks -/
def PostS (H : Hp) (ρ : List Addr) (D : Ends) : Out → Prop
  | .nx env m => ∀ σ' H' ρ', Lat K H ρ H' ρ' → MemOk K H' ρ' m → EnvOk K H' ρ' env σ' → D.nx σ' H'
  | .bk env m => ∀ σ' H' ρ', Lat K H ρ H' ρ' → MemOk K H' ρ' m → EnvOk K H' ρ' env σ' → D.bk σ' H'
  | .ct env m => ∀ σ' H' ρ', Lat K H ρ H' ρ' → MemOk K H' ρ' m → EnvOk K H' ρ' env σ' → D.ct σ' H'
  | .rt p m => ∀ x H' ρ', Lat K H ρ H' ρ' → MemOk K H' ρ' m → Rep K H' ρ' p x → D.rt x H'
  | .exc x m => Post K mg E RU H ρ (fun _ _ => True) (.exc x m)
  | .stuck => False
def tS (f : Sm) : TS := fun D σ H => ∃ env μ ρ, EnvOk K H ρ env σ ∧ MemOk K H ρ μ ∧ PostS K mg E H ρ D (f env μ)
/-- the slots but those at is are as they were -/
def OutOf (is : List Nat) (σ σ' : L2.St) : Prop := σ'.length = σ.length ∧ ∀ j, j ∉ is → σ'[j]? = σ[j]?
def RG (K : PySem.W.Frag) (is : List Nat) (σ : L2.St) : Hp → List Addr → Env → L2.St → Prop := fun H' ρ' env σ' => EnvOk K H' ρ' env σ' ∧ OutOf is σ σ'
def tG (is : List Nat) (g : Tg) : TG := fun x σ H Q => ∃ env μ ρ p, EnvOk K H ρ env σ ∧ MemOk K H ρ μ ∧ Rep K H ρ p x ∧ Post K mg E (RG K is σ) H ρ Q (g p env μ)
def tGs (is : List Nat) (g : Tgs) : TGs := fun xs σ H Q => ∃ env μ ρ ps, EnvOk K H ρ env σ ∧ MemOk K H ρ μ ∧ Reps K H ρ ps xs ∧ Post K mg E (RG K is σ) H ρ Q (g ps env μ)
/-- an iterator goes through the items while the locks hold -/
structure ItOk (H0 : Hp) (ρ0 : List Addr) (z : Its) (J : L2.It) : Prop where
  go : ∀ H ρ μ i p, Lat K H0 ρ0 H ρ → MemOk K H ρ μ → locked z.lk μ → z.items[i]? = some p → J.go i H ∧ ∀ x H', J.yld i H x H' → Lat K H ρ H' ρ ∧ MemOk K H' ρ μ ∧ Rep K H' ρ p x
  stop : ∀ H ρ μ, Lat K H0 ρ0 H ρ → MemOk K H ρ μ → locked z.lk μ → J.stop z.items.length H
def tI (f : PL.It) : TI := fun σ H R => ∃ env μ ρ, EnvOk K H ρ env σ ∧ MemOk K H ρ μ ∧ Post K mg E (fun H' ρ' z J => ItOk K H' ρ' z J) H ρ R (f env μ)
end
section
variable (X : Cx) (E : XK)
structure PP (e : Expr) (f : Ex) : Prop where pe : PE X e (tE X.K X.mg E f)
structure PPT (e : Expr) (f : Ex) : Prop where pt : PT X e (tT X.K X.mg E f)
structure PPW (e : Expr) (f : Ex) : Prop where pw : PW X e (tT X.K X.mg E f)
structure PPA (es : List Expr) (f : Ag) : Prop where
  pa : PA X es (tA X.K X.mg E f)
  len : ∀ env μ as μ', f env μ = .ok as μ' → as.length = es.length
structure PPs (st : Stmt) (f : Sm) : Prop where ps : PS X st (tS X.K X.mg E f)
structure PPb (st : List Stmt) (f : Sm) : Prop where ps : PSs X st (tS X.K X.mg E f)
structure PPG (e : Expr) (is : List Nat) (g : Tg) : Prop where pg : PG X e (tG X.K X.mg E is g)
structure PPGs (es : List Expr) (is : List Nat) (g : Tgs) : Prop where pg : PGs X es (tGs X.K X.mg E is g)
structure PPI (tg iter : Expr) (f : PL.It) : Prop where pi : PI X tg iter (tI X.K X.mg E f)
end
/-! ### weaker readings -/
section
variable {X : Cx}
theorem PE.imp {e : Expr} {t t' : TE} (h : PE X e t) (i : ∀ σ H Q, t' σ H Q → t σ H Q) : PE X e t' := ⟨fun pins s σ H Q I q => h.run pins s σ H Q I (i σ H Q q)⟩
theorem PT.imp {e : Expr} {t t' : TT} (h : PT X e t) (i : ∀ σ H Q, t' σ H Q → t σ H Q) : PT X e t' := ⟨fun pins s σ H Q I q => h.run pins s σ H Q I (i σ H Q q)⟩
theorem PW.imp {e : Expr} {t t' : TT} (h : PW X e t) (i : ∀ σ H Q, t' σ H Q → t σ H Q) : PW X e t' := ⟨fun wh pins s σ H Q I q => h.run wh pins s σ H Q I (i σ H Q q)⟩
theorem PA.imp {e : List Expr} {t t' : TA} (h : PA X e t) (i : ∀ σ H Q, t' σ H Q → t σ H Q) : PA X e t' := ⟨fun p pins s σ H Q I q => h.run p pins s σ H Q I (i σ H Q q)⟩
theorem PS.imp {e : Stmt} {t t' : TS} (h : PS X e t) (i : ∀ D σ H, t' D σ H → t D σ H) : PS X e t' := ⟨fun pins s σ H D I q => h.run pins s σ H D I (i D σ H q)⟩
theorem PSs.imp {e : List Stmt} {t t' : TS} (h : PSs X e t) (i : ∀ D σ H, t' D σ H → t D σ H) : PSs X e t' := ⟨fun pins s σ H D I q => h.run pins s σ H D I (i D σ H q)⟩
theorem PG.imp {e : Expr} {t t' : TG} (h : PG X e t) (i : ∀ v σ H Q, t' v σ H Q → t v σ H Q) : PG X e t' := ⟨fun pins s σ H v u Q I r q => h.run pins s σ H v u Q I r (i v σ H Q q)⟩
theorem PGs.imp {e : List Expr} {t t' : TGs} (h : PGs X e t) (i : ∀ v σ H Q, t' v σ H Q → t v σ H Q) : PGs X e t' := ⟨fun pins s σ H v u Q I r q => h.run pins s σ H v u Q I r (i v σ H Q q)⟩
theorem PI.imp {tg e : Expr} {t t' : TI} (h : PI X tg e t) (i : ∀ σ H Q, t' σ H Q → t σ H Q) : PI X tg e t' := ⟨fun pins s σ H Q I q => h.run pins s σ H Q I (i σ H Q q)⟩
theorem PI.or {tg e : Expr} {t t' : TI} (h : PI X tg e t) (h' : PI X tg e t') : PI X tg e (fun σ H Q => t σ H Q ∨ t' σ H Q) := ⟨fun pins s σ H Q I q => q.elim (fun q => h.run pins s σ H Q I q) fun q => h'.run pins s σ H Q I q⟩
end
section
variable {K : PySem.W.Frag} {mg : Str → Option Value} {E : XK} {H H1 : Hp} {ρ ρ1 : List Addr} {D : Ends}
theorem PostS.later {o : Out} (h : PostS K mg E H ρ D o) (l : Lat K H ρ H1 ρ1) : PostS K mg E H1 ρ1 D o := by
  cases o with
  | nx env m => exact fun a b c l' => h a b c (l.trans l')
  | bk env m => exact fun a b c l' => h a b c (l.trans l')
  | ct env m => exact fun a b c l' => h a b c (l.trans l')
  | rt env m => exact fun a b c l' => h a b c (l.trans l')
  | exc x m => exact Post.later (K := K) (mg := mg) (E := E) (R := RU) (Q := fun _ _ => True) (r := (.exc x m : Res Unit)) h l
  | stuck => exact h
theorem PostS.of {α β : Type} {R : Hp → List Addr → α → β → Prop} {r : Res α} {k : α → Mem → Out} (h : PostS K mg E H ρ D (.of r k)) :
    Post K mg E R H ρ (fun b H1 => ∃ a m ρ1, r = .ok a m ∧ Lat K H ρ H1 ρ1 ∧ MemOk K H1 ρ1 m ∧ R H1 ρ1 a b ∧ PostS K mg E H1 ρ1 D (k a m)) r := by
  cases r with
  | ok a m => exact fun b H' ρ' l M r => ⟨a, m, ρ', rfl, l, M, r, PostS.later (o := k a m) h l⟩
  | exc x m => exact h
  | stuck => exact h
theorem PostS.then {o : Out} {k : Sm} (h : PostS K mg E H ρ D (o.then k)) :
    PostS K mg E H ρ { D with nx := fun σ' H' => ∃ env m ρ', Lat K H ρ H' ρ' ∧ MemOk K H' ρ' m ∧ EnvOk K H' ρ' env σ' ∧ PostS K mg E H' ρ' D (k env m) } o := by
  cases o with
  | nx env m => exact fun σ' H' ρ' l M e => ⟨env, m, ρ', l, M, e, PostS.later (o := k env m) h l⟩
  | bk env m => exact h
  | ct env m => exact h
  | rt p m => exact h
  | exc x m => exact h
  | stuck => exact h
theorem PostS.imp {D' : Ends} {o : Out} (h : PostS K mg E H ρ D o) (h1 : ∀ σ H, D.nx σ H → D'.nx σ H) (h2 : ∀ x H, D.rt x H → D'.rt x H) (h3 : ∀ σ H, D.bk σ H → D'.bk σ H) (h4 : ∀ σ H, D.ct σ H → D'.ct σ H) : PostS K mg E H ρ D' o := by
  cases o with
  | nx env m => exact fun a b c l M e => h1 _ _ (h a b c l M e)
  | bk env m => exact fun a b c l M e => h3 _ _ (h a b c l M e)
  | ct env m => exact fun a b c l M e => h4 _ _ (h a b c l M e)
  | rt env m => exact fun a b c l M e => h2 _ _ (h a b c l M e)
  | exc x m => exact h
  | stuck => exact h
theorem tE.imp {f : Ex} {σ : L2.St} {Q Q' : VK} (h : tE K mg E f σ H Q) (i : ∀ x H', Q x H' → Q' x H') : tE K mg E f σ H Q' := by
  obtain ⟨env, μ, ρ, e, M, h⟩ := h
  exact ⟨env, μ, ρ, e, M, h.imp i⟩
end
/-! ### expressions -/
section
variable {X : Cx} {E : XK} {a b d e : Expr} {es rest : List Expr} {fa fb fd fe : Ex} {pos : Pos}
theorem pp_v (i : Nat) {x : Str} (hN : X.N[i]? = some x := by rfl) (hv : Vis X.env.scope x := by first | exact Or.inl rfl | exact Or.inr (Or.inl rfl) | exact Or.inr (Or.inr rfl)) (hd : (x == ("__debug__" : Str)) = false := by decide)
    (hcd : (x == ("__classdict__" : Str)) = false := by decide) : PP X E (.Name x pos) (v i) := ⟨by
  refine PE.imp (pe_var (i := i) hN hv hd hcd) fun σ H Q h => ?_
  obtain ⟨env, μ, ρ, e, M, h⟩ := h
  unfold v at h
  split at h
  · rename_i p hp
    obtain ⟨x, h1, h2⟩ := e.at' i p hp
    exact ⟨x, h1, h.val M h2⟩
  · exact h.elim⟩
theorem pp_const {e : Expr} {p : PV} {x : V} (h : PE X e (tC x)) (r : ∀ H ρ, Rep X.K H ρ p x) : PP X E e (c p) := ⟨by
  refine PE.imp h fun σ H Q h => ?_
  obtain ⟨env, μ, ρ, e, M, h⟩ := h
  exact Post.val (R := RP X.K) (show Post X.K X.mg E (RP X.K) H ρ Q (Res.ok p μ) from h) M (r H ρ)⟩
theorem pp_int {i : Int} {j : Nat} : PP X E (.Constant (.int i) j pos) (c (.int i)) := pp_const pe_int fun _ _ => rint
theorem pp_bl {i : Bool} {j : Nat} : PP X E (.Constant (.bool i) j pos) (c (.bl i)) := pp_const pe_bl fun _ _ => rbl
theorem pp_str {i : Str} {j : Nat} : PP X E (.Constant (.str i) j pos) (c (.str i)) := pp_const pe_str fun _ _ => rstr
theorem pp_non {j : Nat} : PP X E (.Constant .none j pos) (c .non) := pp_const pe_non fun _ _ => rnon
/-- a constant of the module -/
theorem pp_glob {x : Str} {p : PV} {w : V} {u : Value} (hm : X.mg x = some u) (r : RelV w u) (h : ∀ H ρ, Rep X.K H ρ p w) (hg : Gl X x := by rfl) (hd : (x == ("__debug__" : Str)) = false := by decide) : PP X E (.Name x pos) (c p) := pp_const (pe_glob hg hm r hd) h
/-- the step from one part to what follows -/
theorem tE_bind {K : PySem.W.Frag} {mg : Str → Option Value} {γ δ : Type} {R' : Hp → List Addr → γ → δ → Prop} {H : Hp} {ρ : List Addr} {Q' : δ → Hp → Prop} {env : Env} {μ : Mem} {σ : L2.St} {k : PV → Mem → Res γ} (eo : EnvOk K H ρ env σ) (M : MemOk K H ρ μ)
    (h : Post K mg E R' H ρ Q' ((fa env μ).bind k)) {Q : VK} (i : ∀ x H1 p m ρ1, fa env μ = .ok p m → Lat K H ρ H1 ρ1 → EnvOk K H1 ρ1 env σ → MemOk K H1 ρ1 m → Rep K H1 ρ1 p x → Post K mg E R' H1 ρ1 Q' (k p m) → Q x H1) : tE K mg E fa σ H Q :=
  ⟨env, μ, ρ, eo, M, (Post.bind (R := RP K) h).imp fun x H1 ⟨p, m, ρ1, e, l, M1, r, q⟩ => i x H1 p m ρ1 e l (eo.mono l) M1 r q⟩
theorem pp_op {op : Operator} {f : Fn} (ho : OpR X (binaryOp op) (rP2 X.K X.mg E f)) (ha : PP X E a fa) (hb : PP X E b fb) : PP X E (.BinOp a op b pos) (app2 f fa fb) := ⟨by
  refine PE.imp (pe_op ho ha.pe hb.pe) fun σ H Q h => ?_
  obtain ⟨env, μ, ρ, eo, M, h⟩ := h
  exact tE_bind eo M h fun x H1 p m ρ1 _ l1 e1 M1 r1 q1 => tE_bind e1 M1 q1 fun y H2 q m2 ρ2 _ l2 e2 M2 r2 q2 => ⟨m2, ρ2, p, q, M2, Rep.mono l2 _ _ r1, r2, q2⟩⟩
theorem pp_cmp {op : CmpOp} {f : Fn} (ho : OpR X (compareOp op) (rP2 X.K X.mg E f)) (ha : PP X E a fa) (hb : PP X E b fb) (hm : behindInMarks op b = false := by first | exact nobehind _ (by decide) (by decide) | rfl | with_unfolding_all rfl) : PP X E (.Compare a [op] [b] pos) (app2 f fa fb) := ⟨by
  refine PE.imp (pe_cmpR ho ha.pe hb.pe hm) fun σ H Q h => ?_
  obtain ⟨env, μ, ρ, eo, M, h⟩ := h
  exact tE_bind eo M h fun x H1 p m ρ1 _ l1 e1 M1 r1 q1 => tE_bind e1 M1 q1 fun y H2 q m2 ρ2 _ l2 e2 M2 r2 q2 => ⟨m2, ρ2, p, q, M2, Rep.mono l2 _ _ r1, r2, q2⟩⟩
theorem post_test {K : PySem.W.Frag} {mg : Str → Option Value} {H : Hp} {ρ : List Addr} {Q : Bool → Hp → Prop} {r : Res PV} (h : Post K mg E RB H ρ Q (r.bind asB)) : Post K mg E (RP K) H ρ (fun x H' => ∃ k, x = .bl k ∧ Q k H') r := by
  cases r with
  | ok p m =>
    cases p with
    | bl b =>
      intro x H' ρ' l M rx
      exact ⟨b, vbl rx, h b H' ρ' l M rfl⟩
    | _ => exact h.elim
  | exc x m => exact h
  | stuck => exact h
theorem tE_test {K : PySem.W.Frag} {mg : Str → Option Value} {f : Ex} {σ : L2.St} {H : Hp} {Q : Bool → Hp → Prop} (h : tT K mg E f σ H Q) : tE K mg E f σ H (fun x H' => ∃ k, x = .bl k ∧ Q k H') := by
  obtain ⟨env, μ, ρ, e, M, h⟩ := h
  exact ⟨env, μ, ρ, e, M, post_test h⟩
/-- a test's outcome, then what follows -/
theorem tT_bind {K : PySem.W.Frag} {mg : Str → Option Value} {γ δ : Type} {R' : Hp → List Addr → γ → δ → Prop} {H : Hp} {ρ : List Addr} {Q' : δ → Hp → Prop} {env : Env} {μ : Mem} {σ : L2.St} {k1 k2 : Mem → Res γ} (eo : EnvOk K H ρ env σ) (M : MemOk K H ρ μ)
    (h : Post K mg E R' H ρ Q' ((fa env μ).bind fun p m => onB p (k1 m) (k2 m))) {Q : Bool → Hp → Prop} (i : ∀ t H1 m ρ1, fa env μ = .ok (.bl t) m → Lat K H ρ H1 ρ1 → EnvOk K H1 ρ1 env σ → MemOk K H1 ρ1 m → Post K mg E R' H1 ρ1 Q' (if t = true then k1 m else k2 m) → Q t H1) : tT K mg E fa σ H Q := by
  refine ⟨env, μ, ρ, eo, M, ?_⟩
  cases e : fa env μ with
  | ok p m =>
    rw [e] at h
    cases p with
    | bl t =>
      intro b H1 ρ1 l M1 rb
      cases rb
      refine i t H1 m ρ1 e l (eo.mono l) M1 ?_
      have h2 : Post K mg E R' H ρ Q' (onB (.bl t) (k1 m) (k2 m)) := h
      rw [onB_bl] at h2
      exact h2.later l
    | _ => exact h.elim
  | exc x m => rw [e] at h; exact h
  | stuck => rw [e] at h; exact h
/-- a value that is a truth value, as a test -/
theorem PP.t (h : PP X E e fe) (he : ∀ whole, isTrue e X.env whole = (do let v ← whole; standAt e.pos; holding [v] (truthy v)) := by intro _; rfl) : PPT X E e fe := ⟨PT.imp (pt_val h.pe he) fun _ _ _ h => tE_test h⟩
theorem ppt_cmp {op : CmpOp} {f : Fn} (ho : OpR X (compareOp op) (rP2 X.K X.mg E f)) (ha : PP X E a fa) (hb : PP X E b fb) (hm : behindInMarks op b = false := by first | exact nobehind _ (by decide) (by decide) | rfl | with_unfolding_all rfl) : PPT X E (.Compare a [op] [b] pos) (app2 f fa fb) := ⟨by
  refine PT.imp (pt_cmpR ho ha.pe hb.pe hm) fun σ H Q h => ?_
  obtain ⟨env, μ, ρ, eo, M, h⟩ := tE_test h
  exact tE_bind eo M h fun x H1 p m ρ1 _ l1 e1 M1 r1 q1 => tE_bind e1 M1 q1 fun y H2 q m2 ρ2 _ l2 e2 M2 r2 q2 => ⟨m2, ρ2, p, q, M2, Rep.mono l2 _ _ r1, r2, q2⟩⟩
theorem chain_read {f g : Fn} {K : PySem.W.Frag} {mg : Str → Option Value} {σ : L2.St} {H : Hp} {Q : VK} (h : tE K mg E (chain f g fa fb fd) σ H Q) : tChain (rP2 K mg E f) (rP2 K mg E g) (tE K mg E fa) (tE K mg E fb) (tE K mg E fd) σ H Q := by
  obtain ⟨env, μ, ρ, eo, M, h⟩ := h
  refine tE_bind eo M h fun x H1 p m ρ1 _ l1 e1 M1 r1 q1 => tE_bind e1 M1 q1 fun y H2 q m2 ρ2 _ l2 e2 M2 r2 q2 => ⟨m2, ρ2, p, q, M2, Rep.mono l2 _ _ r1, r2, ?_⟩
  have q3 := Post.bind (R := RP K) q2
  cases z : f [p, q] m2 with
  | ok t m3 =>
    rw [z] at q3 q2
    cases t with
    | bl t =>
      intro w H3 ρ3 l3 M3 rw3
      obtain rfl := vbl rw3
      refine ⟨t, rfl, ?_⟩
      have q4 : Post K mg E (RP K) H3 ρ3 Q (onB (.bl t) ((fd env m3).bind fun r μ4 => g [q, r] μ4) (.ok (.bl false) m3)) := Post.later (show Post K mg E (RP K) H2 ρ2 Q (onB (.bl t) _ _) from q2) l3
      cases t with
      | true => exact tE_bind (e2.mono l3) M3 q4 fun y4 H4 r m4 ρ4 _ l4 e4 M4 r4 q5 => ⟨m4, ρ4, q, r, M4, Rep.mono (l3.trans l4) _ _ r2, r4, q5⟩
      | false => exact Post.val (show Post K mg E (RP K) H3 ρ3 Q (Res.ok (.bl false) m3) from q4) M3 rbl
    | _ => exact (show False from q2).elim
  | exc x m3 => rw [z] at q2; exact q2
  | stuck => rw [z] at q2; exact q2
theorem pp_chain {op op' : CmpOp} {f g : Fn} (ho : OpR X (compareOp op) (rP2 X.K X.mg E f)) (ho' : OpR X (compareOp op') (rP2 X.K X.mg E g)) (ha : PP X E a fa) (hb : PP X E b fb) (hc : PP X E d fd)
    (hm : lastMarks [op, op'] [b, d] = false := by with_unfolding_all rfl) : PP X E (.Compare a [op, op'] [b, d] pos) (chain f g fa fb fd) := ⟨PE.imp (pe_chain ho ho' ha.pe hb.pe hc.pe hm) fun _ _ _ h => chain_read h⟩
theorem ppt_chain {op op' : CmpOp} {f g : Fn} (ho : OpR X (compareOp op) (rP2 X.K X.mg E f)) (ho' : OpR X (compareOp op') (rP2 X.K X.mg E g)) (ha : PP X E a fa) (hb : PP X E b fb) (hc : PP X E d fd)
    (hm : lastMarks [op, op'] [b, d] = false := by with_unfolding_all rfl) : PPT X E (.Compare a [op, op'] [b, d] pos) (chain f g fa fb fd) := ⟨PT.imp (pt_chain ho ho' ha.pe hb.pe hc.pe hm) fun _ _ _ h => chain_read (tE_test h)⟩
/-! and, or, not -/
theorem pp_one {op : BoolOp} (h : PP X E a fa) : PP X E (.BoolOp op [a] pos) fa := ⟨pe_one h.pe⟩
theorem pp_and (ha : PP X E a fa) (hb : PP X E (.BoolOp .And (b :: rest) pos) fb) : PP X E (.BoolOp .And (a :: b :: rest) pos) (and fa fb) := ⟨by
  refine PE.imp (pe_and ha.pe hb.pe) fun σ H Q h => ?_
  obtain ⟨env, μ, ρ, eo, M, h⟩ := h
  have h2 : tT X.K X.mg E fa σ H (fun c H1 => if c = true then tE X.K X.mg E fb σ H1 Q else Q (.bl false) H1) := tT_bind (k1 := fun m => fb env m) (k2 := fun m => .ok (.bl false) m) eo M h fun t H1 m ρ1 _ l1 e1 M1 q1 => by
    cases t with
    | true => exact ⟨env, m, ρ1, e1, M1, q1⟩
    | false => exact Post.val (show Post X.K X.mg E (RP X.K) H1 ρ1 Q (Res.ok (.bl false) m) from q1) M1 rbl
  exact tE_test h2⟩
theorem pp_or (ha : PP X E a fa) (hb : PP X E (.BoolOp .Or (b :: rest) pos) fb) : PP X E (.BoolOp .Or (a :: b :: rest) pos) (or fa fb) := ⟨by
  refine PE.imp (pe_or ha.pe hb.pe) fun σ H Q h => ?_
  obtain ⟨env, μ, ρ, eo, M, h⟩ := h
  have h2 : tT X.K X.mg E fa σ H (fun c H1 => if c = true then Q (.bl true) H1 else tE X.K X.mg E fb σ H1 Q) := tT_bind (k1 := fun m => .ok (.bl true) m) (k2 := fun m => fb env m) eo M h fun t H1 m ρ1 _ l1 e1 M1 q1 => by
    cases t with
    | false => exact ⟨env, m, ρ1, e1, M1, q1⟩
    | true => exact Post.val (show Post X.K X.mg E (RP X.K) H1 ρ1 Q (Res.ok (.bl true) m) from q1) M1 rbl
  exact tE_test h2⟩
theorem post_notB {K : PySem.W.Frag} {mg : Str → Option Value} {H : Hp} {ρ : List Addr} {Q : VK} {p : PV} {m : Mem} {x : V} (M : MemOk K H ρ m) (r : Rep K H ρ p x) (h : Post K mg E (RP K) H ρ Q (fNot [p] m)) : ∃ c, x = .bl c ∧ Q (.bl (!c)) H := by
  cases p with
  | bl b => exact ⟨b, vbl r, Post.val (show Post K mg E (RP K) H ρ Q (Res.ok (.bl (!b)) m) from h) M rbl⟩
  | _ => exact h.elim
theorem pp_not (ha : PP X E a fa) : PP X E (.UnaryOp .Not a pos) (app1 fNot fa) := ⟨by
  refine PE.imp (pe_not ha.pe) fun σ H Q h => ?_
  obtain ⟨env, μ, ρ, eo, M, h⟩ := h
  exact tE_bind eo M h fun x H1 p m ρ1 _ l1 e1 M1 r1 q1 => post_notB M1 r1 q1⟩
theorem ppt_not (ha : PPT X E a fa) : PPT X E (.UnaryOp .Not a pos) (app1 fNot fa) := ⟨by
  refine PT.imp (pt_not ha.pt) fun σ H Q h => ?_
  obtain ⟨env, μ, ρ, eo, M, h⟩ := h
  refine ⟨env, μ, ρ, eo, M, ?_⟩
  unfold app1 at h
  cases z : fa env μ with
  | ok p m =>
    rw [z] at h
    cases p with
    | bl b =>
      intro b' H1 ρ1 l1 M1 e
      cases e
      exact h (!b) H1 ρ1 l1 M1 rfl
    | _ => exact h.elim
  | exc x m => rw [z] at h; exact h
  | stuck => rw [z] at h; exact h⟩
theorem ppw_and1 (ha : PPT X E a fa) : PPW X E (.BoolOp .And [a] pos) fa := ⟨pw_and1 ha.pt⟩
theorem ppw_or1 (ha : PPT X E a fa) : PPW X E (.BoolOp .Or [a] pos) fa := ⟨pw_or1 ha.pt⟩
theorem bind_onB {α β : Type} (p : PV) (a b : Res α) (k : α → Mem → Res β) : (onB p a b).bind k = onB p (a.bind k) (b.bind k) := by
  cases p with
  | bl t => cases t <;> rfl
  | _ => rfl
theorem bind_bind {α β γ : Type} (r : Res α) (k : α → Mem → Res β) (j : β → Mem → Res γ) : (r.bind k).bind j = r.bind fun a m => (k a m).bind j := by cases r <;> rfl
theorem ppw_and (ha : PPT X E a fa) (hb : PPW X E (.BoolOp .And (b :: rest) pos) fb) : PPW X E (.BoolOp .And (a :: b :: rest) pos) (and fa fb) := ⟨by
  refine PW.imp (pw_and ha.pt hb.pw) fun σ H Q h => ?_
  obtain ⟨env, μ, ρ, eo, M, h⟩ := h
  unfold PL.and at h
  rw [bind_bind] at h
  simp only [bind_onB] at h
  exact tT_bind (k1 := fun m => (fb env m).bind asB) (k2 := fun m => .ok false m) eo M h fun t H1 m ρ1 _ l1 e1 M1 q1 => by
    cases t with
    | true => exact ⟨env, m, ρ1, e1, M1, q1⟩
    | false => exact Post.val (R := RB) (show Post X.K X.mg E RB H1 ρ1 Q (Res.ok false m) from q1) M1 rfl⟩
theorem ppw_or (ha : PPT X E a fa) (hb : PPW X E (.BoolOp .Or (b :: rest) pos) fb) : PPW X E (.BoolOp .Or (a :: b :: rest) pos) (or fa fb) := ⟨by
  refine PW.imp (pw_or ha.pt hb.pw) fun σ H Q h => ?_
  obtain ⟨env, μ, ρ, eo, M, h⟩ := h
  unfold PL.or at h
  rw [bind_bind] at h
  simp only [bind_onB] at h
  exact tT_bind (k1 := fun m => .ok true m) (k2 := fun m => (fb env m).bind asB) eo M h fun t H1 m ρ1 _ l1 e1 M1 q1 => by
    cases t with
    | false => exact ⟨env, m, ρ1, e1, M1, q1⟩
    | true => exact Post.val (R := RB) (show Post X.K X.mg E RB H1 ρ1 Q (Res.ok true m) from q1) M1 rfl⟩
theorem PPW.t (h : PPW X E a fa) : PPT X E a fa := ⟨h.pw.pt⟩
theorem pp_ite (ht : PPT X E e fe) (ha : PP X E a fa) (hb : PP X E b fb) : PP X E (.IfExp e a b pos) (ite fe fa fb) := ⟨by
  refine PE.imp (pe_ifExp ht.pt ha.pe hb.pe) fun σ H Q h => ?_
  obtain ⟨env, μ, ρ, eo, M, h⟩ := h
  exact tT_bind (k1 := fun m => fa env m) (k2 := fun m => fb env m) eo M h fun t H1 m ρ1 _ l1 e1 M1 q1 => by
    cases t with
    | true => exact ⟨env, m, ρ1, e1, M1, q1⟩
    | false => exact ⟨env, m, ρ1, e1, M1, q1⟩⟩
theorem pp_un {op : UnaryOp} {f : Fn} (ho : UnR X (unaryOp op) (rP1 X.K X.mg E f)) (ha : PP X E a fa) : PP X E (.UnaryOp op a pos) (app1 f fa) := ⟨by
  refine PE.imp (pe_un ho ha.pe) fun σ H Q h => ?_
  obtain ⟨env, μ, ρ, eo, M, h⟩ := h
  exact tE_bind eo M h fun x H1 p m ρ1 _ l1 e1 M1 r1 q1 => ⟨m, ρ1, p, M1, r1, q1⟩⟩
/-! argument lists, displays -/
theorem ppa_nil : PPA X E [] an := ⟨by
  refine PA.imp pa_nil fun σ H Q h => ?_
  obtain ⟨env, μ, ρ, eo, M, h⟩ := h
  exact Post.val (R := RPs X.K) (show Post X.K X.mg E (RPs X.K) H ρ Q (Res.ok [] μ) from h) M .nil, fun env μ as μ' e => by cases e; rfl⟩
theorem tA_bind {K : PySem.W.Frag} {mg : Str → Option Value} {γ δ : Type} {R' : Hp → List Addr → γ → δ → Prop} {H : Hp} {ρ : List Addr} {Q' : δ → Hp → Prop} {env : Env} {μ : Mem} {σ : L2.St} {f : Ag} {k : List PV → Mem → Res γ} (eo : EnvOk K H ρ env σ) (M : MemOk K H ρ μ)
    (h : Post K mg E R' H ρ Q' ((f env μ).bind k)) {Q : List V → Hp → Prop} (i : ∀ xs H1 ps m ρ1, f env μ = .ok ps m → Lat K H ρ H1 ρ1 → EnvOk K H1 ρ1 env σ → MemOk K H1 ρ1 m → Reps K H1 ρ1 ps xs → Post K mg E R' H1 ρ1 Q' (k ps m) → Q xs H1) : tA K mg E f σ H Q :=
  ⟨env, μ, ρ, eo, M, (Post.bind (R := RPs K) h).imp fun x H1 ⟨p, m, ρ1, e, l, M1, r, q⟩ => i x H1 p m ρ1 e l (eo.mono l) M1 r q⟩
theorem ppa_cons {f : Ag} (ha : PP X E a fa) (hr : PPA X E es f) (hs : starEach (a :: es) X.env = (false, eval a X.env) :: starEach es X.env := by rfl) : PPA X E (a :: es) (ac fa f) := ⟨by
  refine PA.imp (pa_cons ha.pe hr.pa hs) fun σ H Q h => ?_
  obtain ⟨env, μ, ρ, eo, M, h⟩ := h
  exact tE_bind eo M h fun x H1 p m ρ1 _ l1 e1 M1 r1 q1 => tA_bind e1 M1 q1 fun xs H2 ps m2 ρ2 _ l2 e2 M2 r2 q2 =>
    Post.val (R := RPs X.K) (show Post X.K X.mg E (RPs X.K) H2 ρ2 Q (Res.ok (p :: ps) m2) from q2) M2 (.cons (Rep.mono l2 _ _ r1) r2), fun env μ as μ' e => by
    unfold ac at e
    cases z : fa env μ with
    | ok p m =>
      rw [z] at e
      cases z2 : f env m with
      | ok qs m2 =>
        have e' : (Res.ok (p :: qs) m2 : Res (List PV)) = .ok as μ' := by
          have h3 : ((f env m).bind fun ps μ2 => Res.ok (p :: ps) μ2) = .ok as μ' := e
          rw [z2] at h3
          exact h3
        cases e'
        simp [hr.len _ _ _ _ z2]
      | exc x m2 =>
        have h3 : ((f env m).bind fun ps μ2 => Res.ok (p :: ps) μ2) = .ok as μ' := e
        rw [z2] at h3
        cases h3
      | stuck =>
        have h3 : ((f env m).bind fun ps μ2 => Res.ok (p :: ps) μ2) = .ok as μ' := e
        rw [z2] at h3
        cases h3
    | exc x m => rw [z] at e; cases e
    | stuck => rw [z] at e; cases e⟩
theorem pp_tup {f : Ag} {k : Nat} (h : PPA X E es f) : PP X E (.Tuple es k pos) (app fTup f) := ⟨by
  refine PE.imp (pe_tup h.pa) fun σ H Q h => ?_
  obtain ⟨env, μ, ρ, eo, M, h⟩ := h
  refine tA_bind eo M h fun xs H1 ps m ρ1 _ l1 e1 M1 r1 q1 => ?_
  unfold fTup at q1
  split at q1
  · rename_i hz
    exact ⟨by rw [SL_eq, r1.length]; exact hz, q1.newT M1 r1⟩
  · exact q1.elim⟩
theorem pp_lst {f : Ag} (h : PPA X E es f) : PP X E (.List es pos) (app fLst f) := ⟨by
  refine PE.imp (pe_lst h.pa) fun σ H Q h => ?_
  obtain ⟨env, μ, ρ, eo, M, h⟩ := h
  refine tA_bind eo M h fun xs H1 ps m ρ1 _ l1 e1 M1 r1 q1 => ?_
  unfold fLst at q1
  split at q1
  · rename_i hz
    exact ⟨by rw [SL_eq, r1.length]; exact hz, q1.newL M1 r1⟩
  · exact q1.elim⟩
/-! places and slices -/
theorem pp_ix (ha : PP X E a fa) (hb : PP X E b fb) (hs : PlainIx b := by intro _ _; rfl) : PP X E (.Subscript a b pos) (app2 fIx fa fb) := ⟨by
  refine PE.imp (pe_ix (ixP (E := E)) ha.pe hb.pe hs) fun σ H Q h => ?_
  obtain ⟨env, μ, ρ, eo, M, h⟩ := h
  exact tE_bind eo M h fun x H1 p m ρ1 _ l1 e1 M1 r1 q1 => tE_bind e1 M1 q1 fun y H2 q m2 ρ2 _ l2 e2 M2 r2 q2 => ⟨m2, ρ2, p, q, M2, Rep.mono l2 _ _ r1, r2, q2⟩⟩
def rSlP (K : PySem.W.Frag) (mg : Str → Option Value) (E : XK) : V → Option Int → Option Int → Hp → VK → Prop := fun x lo hi H Q => ∃ μ ρ p ql qh, MemOk K H ρ μ ∧ Rep K H ρ p x ∧ optI ql = some lo ∧ optI qh = some hi ∧ Post K mg E (RP K) H ρ Q (fSl [p, ql, qh] μ)
theorem sIx_eq (n d : Nat) (o : Option Int) : PL.sIx n d o = HT.sIx n d o := by cases o <;> rfl
theorem slP : SlR X (rSlP X.K X.mg E) := by
  intro pins s σ H x v vl vu lo hi sl Q I rx hs pl pu h
  obtain ⟨μ, ρ, p, ql, qh, M, hp, e1, e2, h⟩ := h
  simp only [fSl, e1, e2] at h
  cases p with
  | tup l =>
    obtain ⟨a, xs, rfl, k1, k2⟩ := rep_tup hp
    refine sl_tupA pins s σ H _ v vl vu lo hi sl Q I rx hs pl pu ⟨a, xs, rfl, k1, fun hw => ?_, fun _ => h.newT M (cut_get lo hi k2)⟩
    refine h.val M ?_
    show Rep _ _ _ _ _
    simp only [Rep]
    refine ⟨a, xs, rfl, k1, ?_⟩
    have e : cut l lo hi = l := by
      unfold cut
      rw [← k2.length, sIx_eq, sIx_eq, hw.1, hw.2, List.drop_zero, Nat.sub_zero]
      exact List.take_of_length_le (by rw [k2.length]; exact Nat.le_refl _)
    rw [e]
    exact k2
  | ref n =>
    simp only at h
    split at h
    · rename_i l hl
      obtain ⟨a, xs, rfl, k1, k2, _⟩ := getL_ref M hp hl
      exact sl_list pins s σ H _ v vl vu lo hi sl Q I rx hs pl pu ⟨a, xs, rfl, k1, h.newL M (cut_get lo hi k2)⟩
    · exact h.elim
  | str z =>
    obtain rfl := vstr hp
    simp only at h
    split at h
    · rename_i hz
      refine sl_str pins s σ H _ v vl vu lo hi sl Q I rx hs pl pu ⟨z, rfl, by rw [SL_eq]; exact hz, ?_⟩
      have hh := h.val M rstr
      have e : cutS z lo hi = ⟨(cut z.cps.toList lo hi).toArray⟩ := by
        unfold cutS cut
        have ez : z.cps.toList.length = z.length := by cases z; simp [Str.length]
        rw [ez, sIx_eq, sIx_eq]
      rw [e]
      exact hh
    · exact h.elim
  | _ => exact h.elim
/-- an optional part of a slice -/
structure PPO (X : Cx) (E : XK) (e : Option Expr) (f : Ex) : Prop where
  po : L2.PO X e (fun σ H Q => ∃ env μ ρ, EnvOk X.K H ρ env σ ∧ MemOk X.K H ρ μ ∧ Post X.K X.mg E (fun _ _ q o => optI q = some o) H ρ Q ((f env μ).bind onPart))
theorem PO.imp {e : Option Expr} {t t' : TO} (h : L2.PO X e t) (i : ∀ σ H Q, t' σ H Q → t σ H Q) : L2.PO X e t' := ⟨fun pins s σ H Q I q => h.run pins s σ H Q I (i σ H Q q)⟩
theorem ppo_none : PPO X E none (c .non) := ⟨by
  refine PO.imp po_none fun σ H Q h => ?_
  obtain ⟨env, μ, ρ, eo, M, h⟩ := h
  exact Post.val (R := fun _ _ q o => optI q = some o) (show Post X.K X.mg E (fun _ _ q o => optI q = some o) H ρ Q (Res.ok PV.non μ) from h) M rfl⟩
theorem ppo_some (h : PP X E e fe) : PPO X E (some e) (app1 fPart fe) := ⟨by
  refine PO.imp (po_some h.pe) fun σ H Q h => ?_
  obtain ⟨env, μ, ρ, eo, M, h⟩ := h
  unfold app1 at h
  rw [bind_bind] at h
  refine tE_bind eo M h fun x H1 p m ρ1 _ l1 e1 M1 r1 q1 => ?_
  cases p with
  | int i => exact ⟨i, vint r1, Post.val (R := fun _ _ q o => optI q = some o) (show Post X.K X.mg E (fun _ _ q o => optI q = some o) H1 ρ1 Q (Res.ok (PV.int i) m) from q1) M1 rfl⟩
  | _ => exact q1.elim⟩
theorem pp_sl {lo hi : Option Expr} {fl fh : Ex} {p2 : Pos} (ha : PP X E a fa) (hl : PPO X E lo fl) (hh : PPO X E hi fh) : PP X E (.Subscript a (.Slice lo hi none p2) pos) (sl fa fl fh) := ⟨by
  refine PE.imp (pe_slice (slP (E := E)) ha.pe hl.po hh.po) fun σ H Q h => ?_
  obtain ⟨env, μ, ρ, eo, M, h⟩ := h
  refine tE_bind eo M h fun x H1 p m ρ1 _ l1 e1 M1 r1 q1 => ⟨env, m, ρ1, e1, M1, (Post.bind (R := fun _ _ q o => optI q = some o) q1).imp fun lo H2 h2 => ?_⟩
  obtain ⟨ql, m2, ρ2, _, l2, M2, eql, q2⟩ := h2
  refine ⟨env, m2, ρ2, e1.mono l2, M2, (Post.bind (R := fun _ _ q o => optI q = some o) q2).imp fun hi H3 h3 => ?_⟩
  obtain ⟨qh, m3, ρ3, _, l3, M3, eqh, q3⟩ := h3
  exact ⟨m3, ρ3, p, ql, qh, M3, Rep.mono (l2.trans l3) _ _ r1, eql, eqh, q3⟩⟩
/-! t[::-1] of tuples and lists -/
theorem fm_congr {α β : Type} {f g : α → Option β} : ∀ l : List α, (∀ x ∈ l, f x = g x) → l.filterMap f = l.filterMap g
  | [], _ => rfl
  | x :: xs, h => by
    rw [List.filterMap_cons, List.filterMap_cons, h x List.mem_cons_self, fm_congr xs fun y hy => h y (List.mem_cons_of_mem _ hy)]
section
open PySem.Spec PyProof.Rows HT
section
variable {prog : Program} {w : World} {A : Around} {Ex : Value → Shared → Prop} {s : Shared}
theorem sliceApplied_rev {sl : Addr} {vs : Value} {n : Nat} {Q : Int × Int × Nat → Shared → Prop} (hs : s.heap.IsSliceOf sl .none .none vs) (ps : IsPart vs (some (-1)))
    (h : Q ((n : Int) - 1, -1, n) s) : wpAny (model prog w) A (Builtin.Slice.sliceApplied (.ref sl) (pure (n : Int))) Q Ex s := by
  obtain ⟨os, hos, hcs, hds⟩ := id hs
  unfold Builtin.Slice.sliceApplied Builtin.Slice.sliceFields
  refine wpAny_bind (wpAny_bind (wpAny_field hos hds (x := .none) rfl (wpAny_bind (wpAny_field hos hds (x := .none) rfl (wpAny_bind (wpAny_field hos hds (x := vs) rfl (wpAny_pure ?_)))))))
  refine wpAny_bind (HT.slicePart_ ps ?_)
  show wpAny _ _ (if ((-1 : Int) == 0) = true then _ else _) _ _ s
  rw [if_neg (by decide)]
  refine wpAny_bind (HT.slicePart_ .none (wpAny_bind (HT.slicePart_ .none (wpAny_bind (wpAny_pure ?_)))))
  have e : Builtin.Slice.slicePlaces ((n : Int) - 1) (-1) (-1) = n := by
    unfold Builtin.Slice.slicePlaces
    have h1 : ¬ ((-1 : Int) > 0) := by omega
    simp only [h1, if_false]
    have h2 : (- -1 : Int) = 1 := by decide
    rw [h2, Int.ediv_one]
    split <;> omega
  show wpAny _ _ (pure ((n : Int) - 1, (-1 : Int), Builtin.Slice.slicePlaces ((n : Int) - 1) (-1) (-1))) _ _ s
  rw [e]
  exact wpAny_pure h
theorem pick_rev (xs : Array Value) : ((List.range xs.size).filterMap fun (m : Nat) => xs[(((xs.size : Int) - 1) + (m : Int) * (-1)).toNat]?).toArray = xs.toList.reverse.toArray := by
  have e : (List.range xs.size).filterMap (fun (m : Nat) => xs[(((xs.size : Int) - 1) + (m : Int) * (-1)).toNat]?) = ((List.range xs.size).map fun k => xs.size - 1 - k).filterMap (xs[·]?) := by
    rw [List.filterMap_map]
    apply fm_congr
    intro m hm
    have := List.mem_range.mp hm
    have e : (((xs.size : Int) - 1) + (m : Int) * (-1)).toNat = xs.size - 1 - m := by omega
    rw [e]; rfl
  rw [e, PySem.W.krv_range, List.filterMap_reverse, PySem.W.krv_all]
theorem getItem_tuple_rev {t sl : Addr} {items : Array Value} {vs : Value} {Q : Value → Shared → Prop} (ht : IsTup s.heap t items) (hs : s.heap.IsSliceOf sl .none .none vs) (ps : IsPart vs (some (-1)))
    (h : Q (.ref s.heap.objs.size) { s with heap := s.heap.push { cls := .type "tuple", data := .seq items.toList.reverse.toArray } })
    (hsz : items.size ≤ sizeLine) : wpAny (model prog w) A (getItem (.ref t) (.ref sl)) Q Ex s := by
  have htake : sizeOk (.seq items.toList.reverse.toArray) := by
    show items.toList.reverse.toArray.size ≤ sizeLine
    rw [List.size_toArray, List.length_reverse, Array.length_toList]
    exact hsz
  obtain ⟨os, hos, hcs, hds⟩ := id hs
  have hTs : s.TypeIs (.ref sl) "slice" := ⟨os, hos, hcs⟩
  unfold getItem
  try with_reducible refine wpAny_holding ?_
  first | refine wpAny_bind (wpAny_pure ?_) | skip
  refine wpAny_bind (wpAny_sequenceKey ht.typeIs (by decide) ?_)
  refine wpAny_bind (wpAny_callSpecial?_slot (name := Str.ofString "__getitem__") ht.typeIs PyProof.Rows.slot_tuple_getitem
    (wpAny_call_entry PyProof.Rows.slot_tuple_getitem ht.typeIs entry_tuple_getitem ?_ (args_tuple_getitem _ _)))
  show wpAny _ _ (Builtin.Tuple.tupleItemsOf (.ref t) >>= _) _ _ s
  refine wpAny_bind (tupleItemsOf_ ht ?_)
  refine wpAny_bind (wpAny_typeOf hTs ?_)
  rw [if_pos (by decide)]
  refine wpAny_bind (sliceApplied_rev hs ps ?_)
  have hno : ¬ ((((items.size : Int) - 1) == 0 && (-1 : Int) == 1 && items.size == items.size) = true) := by
    intro q
    rw [Bool.and_eq_true, Bool.and_eq_true] at q
    exact absurd q.1.2 (by decide)
  show wpAny _ _ (if ((((items.size : Int) - 1) == 0 && (-1 : Int) == 1 && items.size == items.size) = true) then _ else _) _ _ s
  rw [if_neg hno, pick_rev]
  first
    | exact wpAny_bind (m := Builtin.Tuple.tupleExact _) (wpAny_newObj_type (wpAny_pure ⟨_, rfl, wpAny_pure h⟩) htake)
    | exact wpAny_bind (m := Builtin.Tuple.tupleExact _) (wpAny_newObj_type (wpAny_bind (wpAny_pure (wpAny_pure ⟨_, rfl, wpAny_pure h⟩))) htake)
    | exact wpAny_bind (wpAny_bind (m := Builtin.Tuple.tupleExact _) (wpAny_newObj_type (wpAny_pure (wpAny_pure ⟨_, rfl, wpAny_pure h⟩)) htake))
    | exact wpAny_bind (wpAny_bind (m := Builtin.Tuple.tupleExact _) (wpAny_newObj_type (wpAny_pure ⟨_, rfl, wpAny_pure h⟩) htake))
end
def tRevA (K : PySem.W.Frag) (te : L2.TE) : L2.TE := fun σ H Q => te σ H fun x H1 => ∃ a xs, x = .ref a ∧
  ((SqL K H1 a xs ∧ ∀ p, H1 p = none → Q (.ref p) (upd H1 p (.lst xs.reverse))) ∨ (SqT K H1 a xs ∧ ∀ p, H1 p = none → Q (.ref p) (upd H1 p (.tup xs.reverse))))
theorem pe_revA {e : Expr} {te : L2.TE} {k : Nat} {p1 p2 p3 pos : Pos} (he : PE X e te) : PE X (.Subscript e (.Slice none none (some (.UnaryOp .USub (.Constant (.int 1) k p1) p2)) p3) pos) (tRevA X.K te) := by
  refine ⟨fun pins s σ H Q I h => ?_⟩
  refine Subscript_ (thn (he.run pins s σ H _ I h) fun v s1 ⟨x, H1, I1, r1, q1⟩ => ?_)
  obtain ⟨a, xs, ex, hx⟩ := q1
  subst ex
  cases r1
  have hst : L2.PO X (some (.UnaryOp .USub (.Constant (.int 1) k p1) p2)) (tPart (tUn (rU fun i => .int (-i)) (tC (.int 1)))) := po_some (pe_un un_neg pe_int)
  refine wpAny_Slice (thn (po_none.run pins s1 σ H1 (fun o H2 => o = none ∧ H2 = H1) I1 ⟨rfl, rfl⟩) fun vl s2 ⟨l, H2, I2, pl, el, e2⟩ => ?_)
  subst el e2
  refine thn (po_none.run pins s2 σ H2 (fun o H3 => o = none ∧ H3 = H2) I2 ⟨rfl, rfl⟩) fun vu s3 ⟨u, H3, I3, pu, eu, e3⟩ => ?_
  subst eu e3
  refine thn (hst.run pins s3 σ H3 (fun o H4 => o = some (-1) ∧ H4 = H3) I3 ⟨1, rfl, -1, rfl, rfl, rfl⟩) fun vs s4 ⟨o, H4, I4, ps, eo, e4⟩ => ?_
  subst eo e4
  have I5 : Inv X pins σ H4 { s4 with heap := s4.heap.push { cls := .type "slice", data := .fields #[vl, vu, vs] } } := I4.kept (t' := s4.toks) fun b ob q => Heap.get?_push_of_some _ q
  rcases hx with ⟨hx, q⟩ | ⟨hx, q⟩
  · obtain ⟨its, r, ht, hz⟩ := I5.list hx
    have hlen := r.length
    show wpAny (model X.prog X.w) X.A (subscriptTail e (.Slice none none (some (.UnaryOp .USub (.Constant (.int 1) k p1) p2)) p3) (.ref a) (.ref s4.heap.objs.size)) (EP X pins σ Q) X.xe { s4 with heap := s4.heap.push { cls := .type "slice", data := .fields #[vl, vu, vs] } }
    refine tail_any (ops := [.ref a, .ref s4.heap.objs.size]) ht.isList.typeIs (PySem.slot_list_getitem.lookup) ?_ (by with_unfolding_all rfl)
    refine wpAny_getItem_list_slice ht.isList (Heap.IsSliceOf.new _ vl vu vs) pl pu ps (by decide) ?_ (by rw [List.size_toArray]; omega)
    rw [PySem.W.krv_pick]
    refine ⟨.ref _, _, I5.laid (t' := s4.toks) (o := .lst xs.reverse) (fun b ob q => Heap.get?_push_of_some _ q) (Nat.le_refl _) ?_, rfl, q _ (I5.hok.fresh (Nat.le_refl _))⟩
    exact ⟨by rw [List.length_reverse]; exact hz, _, 0, r.reverse, Heap.get?_push_size _ rfl⟩
  · obtain ⟨its, r, ht, hz⟩ := I5.tuple hx
    have hlen := r.length
    cases pl
    cases pu
    show wpAny (model X.prog X.w) X.A (subscriptTail e (.Slice none none (some (.UnaryOp .USub (.Constant (.int 1) k p1) p2)) p3) (.ref a) (.ref s4.heap.objs.size)) (EP X pins σ Q) X.xe { s4 with heap := s4.heap.push { cls := .type "slice", data := .fields #[.none, .none, vs] } }
    refine tail_any (ops := [.ref a, .ref s4.heap.objs.size]) ht.typeIs (PyProof.Rows.slot_tuple_getitem.lookup) ?_ (by with_unfolding_all rfl)
    refine getItem_tuple_rev ht (Heap.IsSliceOf.new _ .none .none vs) ps ?_ (by rw [List.size_toArray]; omega)
    refine ⟨.ref _, _, I5.laid (t' := s4.toks) (o := .tup xs.reverse) (fun b ob q => Heap.get?_push_of_some _ q) (Nat.le_refl _) ?_, rfl, q _ (I5.hok.fresh (Nat.le_refl _))⟩
    exact ⟨by rw [List.length_reverse]; exact hz, _, r.reverse, IsTup.new _ _⟩
end
theorem pp_revL {k : Nat} {p1 p2 p3 : Pos} (ha : PP X E a fa) : PP X E (.Subscript a (.Slice none none (some (.UnaryOp .USub (.Constant (.int 1) k p1) p2)) p3) pos)
    (app1 fRevL fa) := ⟨by
  refine PE.imp (pe_revA ha.pe) fun σ H Q h => ?_
  obtain ⟨env, μ, ρ, eo, M, h⟩ := h
  refine tE_bind eo M h fun x H1 p m ρ1 _ l1 e1 M1 r1 q1 => ?_
  cases p with
  | ref n =>
    simp only [fRevL, fRev] at q1
    split at q1
    · rename_i l hl
      obtain ⟨a, xs, rfl, k1, k2, _⟩ := getL_ref M1 r1 hl
      exact ⟨a, xs, rfl, .inl ⟨k1, q1.newL M1 k2.reverse⟩⟩
    · exact q1.elim
  | tup l =>
    obtain ⟨a, xs, rfl, k1, k2⟩ := rep_tup r1
    simp only [fRevL] at q1
    exact ⟨a, xs, rfl, .inr ⟨k1, q1.newT M1 k2.reverse⟩⟩
  | _ => exact q1.elim⟩
/-! calls of built-ins by name -/
theorem pp_callB {x : Str} {id : String} {f : Fn} {g : Ag} {p : Pos} (hc : CallR X (.builtin id) (rPn X.K X.mg E f)) (hm : X.mg x = none) (hv : bootBuiltins x = some (.builtin id)) (ha : PPA X E (e :: es) g) (hg : Gl X x := by rfl) (hn : x ≠ "__name__" := by decide) (hdb : (x == ("__debug__" : Str)) = false := by decide)
    (he : starEach (e :: es) X.env = (false, eval e X.env) :: starEach es X.env := by rfl) (hpl : (backTo pos (starEach es X.env)).any (·.1) = false := by rfl) : PP X E (.Call (.Name x p) (e :: es) [] pos) (app f g) := ⟨by
  refine PE.imp (pe_callB hc hg hm hv ha.pa hn hdb he hpl) fun σ H Q h => ?_
  obtain ⟨env, μ, ρ, eo, M, h⟩ := h
  exact tA_bind eo M h fun xs H1 ps m ρ1 _ l1 e1 M1 r1 q1 => ⟨m, ρ1, ps, M1, r1, q1⟩⟩
theorem pp_callTy {x : Str} {id : String} {f : Fn} {g : Ag} {p : Pos} (hc : CallR X (.type id) (rPn X.K X.mg E f)) (hm : X.mg x = none) (hv : bootBuiltins x = some (.type id)) (ha : PPA X E (e :: es) g) (hg : Gl X x := by rfl) (hn : x ≠ "__name__" := by decide) (hdb : (x == ("__debug__" : Str)) = false := by decide)
    (he : starEach (e :: es) X.env = (false, eval e X.env) :: starEach es X.env := by rfl) (hpl : (backTo pos (starEach es X.env)).any (·.1) = false := by rfl) : PP X E (.Call (.Name x p) (e :: es) [] pos) (app f g) := ⟨by
  refine PE.imp (pe_callTy hc hg hm hv ha.pa hn hdb he hpl) fun σ H Q h => ?_
  obtain ⟨env, μ, ρ, eo, M, h⟩ := h
  exact tA_bind eo M h fun xs H1 ps m ρ1 _ l1 e1 M1 r1 q1 => ⟨m, ρ1, ps, M1, r1, q1⟩⟩
/-- o.m(..), a method of a built-in type -/
def Kd.ty : Kd → String
  | .list => "list"
  | .str => "str"
  | .dict => "dict"
theorem isKd_ty {K : PySem.W.Frag} {H : Hp} {ρ : List Addr} {μ : Mem} {p : PV} {x : V} {k : Kd} (M : MemOk K H ρ μ) (r : Rep K H ρ p x) (h : isKd k μ p = true) : tyV K k.ty x H := by
  cases k with
  | str =>
    cases p <;> simp only [isKd, Bool.false_eq_true] at h
    obtain rfl := vstr r
    rfl
  | list =>
    cases p <;> simp only [isKd, Bool.false_eq_true] at h
    split at h
    · rename_i e
      obtain ⟨a, xs, _, rfl, g3, _⟩ := mem_lst M r e
      exact Or.inl ⟨rfl, xs, SqL.of g3⟩
    · cases h
  | dict =>
    cases p <;> simp only [isKd, Bool.false_eq_true] at h
    split at h
    · rename_i e
      obtain ⟨a, h1, rfl⟩ := rep_ref M r
      obtain ⟨xs, h3, _⟩ := M.at' _ _ a e h1
      exact Or.inr (Or.inr (Or.inl ⟨rfl, .inl ⟨xs, h3⟩⟩))
    · cases h
theorem mth_read {k : Kd} {f : Fn} {g : Ag} {K : PySem.W.Frag} {mg : Str → Option Value} {σ : L2.St} {H : Hp} {Q : VK} (h : tE K mg E (mth k f fa g) σ H Q) : tBM K k.ty (rPm K mg E f) (tE K mg E fa) (tA K mg E g) σ H Q := by
  obtain ⟨env, μ, ρ, eo, M, h⟩ := h
  refine tE_bind eo M h fun x H1 p m ρ1 _ l1 e1 M1 r1 q1 => ?_
  split at q1
  · rename_i hk
    exact ⟨isKd_ty M1 r1 hk, tA_bind e1 M1 q1 fun xs H2 ps m2 ρ2 _ l2 e2 M2 r2 q2 => ⟨m2, ρ2, p, ps, M2, Rep.mono l2 _ _ r1, r2, q2⟩⟩
  · exact q1.elim
theorem pp_bm {o : Expr} {fo : Ex} {name : Str} {id : String} {k : Kd} {f : Fn} {g : Ag} {apos : Pos} (pa : PlainAttrs k.ty) (slot : Slot k.ty name id) (hty : typeOf (.builtin id) = pure (.type "method_descriptor")) (hm : MtR X id (rPm X.K X.mg E f)) (ho : PP X E o fo) (ha : PPA X E (e :: es) g)
    (hbase : attributeBase o name X.env (eval o X.env) = eval o X.env := by rfl)
    (hfew : ((backTo pos (starEach (e :: es) X.env)).all (fun x => !x.1) && (backToKw pos (keywordEach [] X.env)).all (fun x => x.1.isSome)
      && decide ((e :: es).length + ([] : List Keyword).length + (if ([] : List Keyword).isEmpty then 0 else 1) < 30)) = true := by rfl)
    (hline : (apos.endLine == pos.line) = true := by rfl) (hs : starEach (e :: es) X.env = (false, eval e X.env) :: starEach es X.env := by rfl) (hplain : (backTo pos (starEach es X.env)).any (·.1) = false := by rfl) :
    PP X E (.Call (.Attribute o name apos) (e :: es) [] pos) (mth k f fo g) := ⟨PE.imp (L2.pe_bm pa slot hty hm ho.pe ha.pa hbase hfew hline hs hplain) fun _ _ _ h => mth_read h⟩
theorem pp_bm0 {o : Expr} {fo : Ex} {name : Str} {id : String} {k : Kd} {f : Fn} {apos : Pos} (pa : PlainAttrs k.ty) (slot : Slot k.ty name id) (hty : typeOf (.builtin id) = pure (.type "method_descriptor")) (hm : MtR X id (rPm X.K X.mg E f)) (ho : PP X E o fo)
    (hbase : attributeBase o name X.env (eval o X.env) = eval o X.env := by rfl) (hline : (apos.endLine == pos.line) = true := by rfl) :
    PP X E (.Call (.Attribute o name apos) [] [] pos) (mth k f fo an) := ⟨PE.imp (L2.pe_bm0 pa slot hty hm ho.pe hbase hline) fun σ H Q h => by
      obtain ⟨env, μ, ρ, eo, M, h⟩ := h
      refine tE_bind eo M h fun x H1 p m ρ1 _ l1 e1 M1 r1 q1 => ?_
      split at q1
      · rename_i hk
        exact ⟨isKd_ty M1 r1 hk, ⟨m, ρ1, p, [], M1, r1, .nil, q1⟩⟩
      · exact q1.elim⟩
theorem mtP_append : MtR X "list.append" (rPm X.K X.mg E fAppend) := by
  intro pins s σ H x xs v us Q I rx rxs h
  obtain ⟨μ, ρ, p, ps, M, hp, hps, h⟩ := h
  cases p with
  | ref n =>
    match ps, hps with
    | [q], hps =>
      obtain ⟨y, rfl, r⟩ := reps1 hps
      simp only [fAppend, push1] at h
      cases e : μ[n]? with
      | none => rw [e] at h; exact h.elim
      | some o =>
        rw [e] at h
        cases o with
        | lst l =>
          simp only at h
          by_cases hz : l.length < SL
          · rw [if_pos hz] at h
            obtain ⟨a, ys, g1, rfl, g3, g4⟩ := mem_lst M hp e
            exact mt_append pins s σ H _ _ v us Q I rx rxs ⟨a, ys, y, rfl, rfl, g3, by rw [SL_eq, g4.length]; exact hz, h.write M e g1 (g4.append (.cons r .nil)) rnon⟩
          · rw [if_neg hz] at h; exact h.elim
        | _ => exact h.elim
    | [], _ => exact h.elim
    | _ :: _ :: _, _ => exact h.elim
  | _ => exact h.elim
theorem mtP_extend : MtR X "list.extend" (rPm X.K X.mg E fExtend) := by
  intro pins s σ H x xs v us Q I rx rxs h
  obtain ⟨μ, ρ, p, ps, M, hp, hps, h⟩ := h
  cases p with
  | ref n =>
    match ps, hps with
    | [.ref k], hps =>
      obtain ⟨y, rfl, r⟩ := reps1 hps
      simp only [fExtend] at h
      split at h
      · rename_i l l' e e'
        split at h
        · rename_i hz
          obtain ⟨a, ys, g1, rfl, g3, g4⟩ := mem_lst M hp e
          obtain ⟨b, zs, k1, rfl, k3, k4⟩ := mem_lst M r e'
          exact mt_extend pins s σ H _ _ v us Q I rx rxs ⟨a, b, ys, zs, rfl, rfl, g3, k3, by rw [SL_eq, g4.length, k4.length]; exact hz, h.write M e g1 (g4.append k4) rnon⟩
        · exact h.elim
      · exact h.elim
    | [], _ => exact h.elim
    | .non :: _, _ => exact h.elim
    | .bl _ :: _, _ => exact h.elim
    | .int _ :: _, _ => exact h.elim
    | .str _ :: _, _ => exact h.elim
    | .tup _ :: _, _ => exact h.elim
    | .cst _ :: _, _ => exact h.elim
    | .ref _ :: _ :: _, _ => exact h.elim
  | _ => exact h.elim
theorem mtP_pop : MtR X "list.pop" (rPm X.K X.mg E fPop) := by
  intro pins s σ H x xs v us Q I rx rxs h
  obtain ⟨μ, ρ, p, ps, M, hp, hps, h⟩ := h
  cases p with
  | ref n =>
    match ps, hps with
    | [], hps =>
      simp only [Reps] at hps
      subst hps
      simp only [fPop] at h
      split at h
      · rename_i l e
        split at h
        · rename_i q hq
          obtain ⟨a, ys, g1, rfl, g3, g4⟩ := mem_lst M hp e
          obtain ⟨y, y1, y2⟩ := g4.get hq
          exact mt_pop pins s σ H _ _ v us Q I rx rxs ⟨a, ys, y, rfl, rfl, g3, by rw [g4.length]; exact y1, h.write M e g1 g4.dropLast y2⟩
        · exact h.elim
      · exact h.elim
    | [.int i], hps =>
      obtain ⟨w, rfl, r⟩ := reps1 hps
      obtain rfl := vint r
      simp only [fPop] at h
      split at h
      · rename_i l e
        split at h
        · rename_i hz
          split at h
          · rename_i k hk
            split at h
            · rename_i q hq
              obtain ⟨a, ys, g1, rfl, g3, g4⟩ := mem_lst M hp e
              obtain ⟨y, y1, y2⟩ := g4.get hq
              exact mt_popAt pins s σ H _ _ v us Q I rx rxs ⟨a, ys, i, k, y, rfl, rfl, g3, hz.1, hz.2, (ixN_seq (show L2.ixN ys.length i = some k by rw [g4.length]; exact hk)).1, y1, h.write M e g1 (g4.erase k) y2⟩
            · exact h.elim
          · exact h.elim
        · exact h.elim
      · exact h.elim
    | .non :: _, _ => exact h.elim
    | .bl _ :: _, _ => exact h.elim
    | .ref _ :: _, _ => exact h.elim
    | .str _ :: _, _ => exact h.elim
    | .tup _ :: _, _ => exact h.elim
    | .cst _ :: _, _ => exact h.elim
    | .int _ :: _ :: _, _ => exact h.elim
  | _ => exact h.elim
theorem pp_append {o : Expr} {fo : Ex} {g : Ag} {apos : Pos} (ho : PP X E o fo) (ha : PPA X E (e :: es) g) (hbase : attributeBase o "append" X.env (eval o X.env) = eval o X.env := by rfl)
    (hfew : ((backTo pos (starEach (e :: es) X.env)).all (fun x => !x.1) && (backToKw pos (keywordEach [] X.env)).all (fun x => x.1.isSome)
      && decide ((e :: es).length + ([] : List Keyword).length + (if ([] : List Keyword).isEmpty then 0 else 1) < 30)) = true := by rfl)
    (hline : (apos.endLine == pos.line) = true := by rfl) (hs : starEach (e :: es) X.env = (false, eval e X.env) :: starEach es X.env := by rfl) (hplain : (backTo pos (starEach es X.env)).any (·.1) = false := by rfl) :
    PP X E (.Call (.Attribute o "append" apos) (e :: es) [] pos) (mth .list fAppend fo g) :=
  pp_bm (k := .list) PySem.F.plainAttrs_list PySem.F.slot_list_append PySem.F.type_list_append mtP_append ho ha hbase hfew hline hs hplain
theorem pp_extend {o : Expr} {fo : Ex} {g : Ag} {apos : Pos} (ho : PP X E o fo) (ha : PPA X E (e :: es) g) (hbase : attributeBase o "extend" X.env (eval o X.env) = eval o X.env := by rfl)
    (hfew : ((backTo pos (starEach (e :: es) X.env)).all (fun x => !x.1) && (backToKw pos (keywordEach [] X.env)).all (fun x => x.1.isSome)
      && decide ((e :: es).length + ([] : List Keyword).length + (if ([] : List Keyword).isEmpty then 0 else 1) < 30)) = true := by rfl)
    (hline : (apos.endLine == pos.line) = true := by rfl) (hs : starEach (e :: es) X.env = (false, eval e X.env) :: starEach es X.env := by rfl) (hplain : (backTo pos (starEach es X.env)).any (·.1) = false := by rfl) :
    PP X E (.Call (.Attribute o "extend" apos) (e :: es) [] pos) (mth .list fExtend fo g) :=
  pp_bm (k := .list) PySem.F.plainAttrs_list PySem.F.slot_list_extend PySem.F.type_list_extend mtP_extend ho ha hbase hfew hline hs hplain
theorem pp_popAt {o : Expr} {fo : Ex} {g : Ag} {apos : Pos} (ho : PP X E o fo) (ha : PPA X E (e :: es) g) (hbase : attributeBase o "pop" X.env (eval o X.env) = eval o X.env := by rfl)
    (hfew : ((backTo pos (starEach (e :: es) X.env)).all (fun x => !x.1) && (backToKw pos (keywordEach [] X.env)).all (fun x => x.1.isSome)
      && decide ((e :: es).length + ([] : List Keyword).length + (if ([] : List Keyword).isEmpty then 0 else 1) < 30)) = true := by rfl)
    (hline : (apos.endLine == pos.line) = true := by rfl) (hs : starEach (e :: es) X.env = (false, eval e X.env) :: starEach es X.env := by rfl) (hplain : (backTo pos (starEach es X.env)).any (·.1) = false := by rfl) :
    PP X E (.Call (.Attribute o "pop" apos) (e :: es) [] pos) (mth .list fPop fo g) :=
  pp_bm (k := .list) PySem.F.plainAttrs_list PySem.F.slot_list_pop PySem.F.type_list_pop mtP_pop ho ha hbase hfew hline hs hplain
theorem pp_pop {o : Expr} {fo : Ex} {apos : Pos} (ho : PP X E o fo) (hbase : attributeBase o "pop" X.env (eval o X.env) = eval o X.env := by rfl) (hline : (apos.endLine == pos.line) = true := by rfl) :
    PP X E (.Call (.Attribute o "pop" apos) [] [] pos) (mth .list fPop fo an) :=
  pp_bm0 (k := .list) PySem.F.plainAttrs_list PySem.F.slot_list_pop PySem.F.type_list_pop mtP_pop ho hbase hline
end
end PL
end
section
set_option autoImplicit false
set_option Elab.async false
set_option linter.all false
set_option maxRecDepth 100000
set_option maxHeartbeats 1000000
/-! Built-ins by values; statements; loops; comprehensions; defs. -/
namespace PL
open PySem L2
section
variable {X : Cx} {E : XK}
theorem crP_len : CallR X (.builtin "len") (rPn X.K X.mg E fLen) := by
  intro pins s σ H xs us Q I rs h
  obtain ⟨μ, ρ, ps, M, hp, h⟩ := h
  match ps, hp with
  | [p], hp =>
    obtain ⟨x, rfl, r⟩ := reps1 hp
    have seqs : (match getL μ p with | some l => Res.ok (.int l.length) μ | none => .stuck) = fLen [p] μ → wpAny (model X.prog X.w) X.A (call (.builtin "len") us) (EP X pins σ Q) X.xe s := fun e => by
      rw [← e] at h
      split at h
      · rename_i l hl
        obtain ⟨a, ys, rfl, k1, k2⟩ := getL_any M r hl
        exact call_len_seq pins s σ H _ us Q I rs ⟨a, ys, rfl, k1, by rw [k2.length]; exact h.val M rint⟩
      · exact h.elim
    cases p with
    | str z =>
      obtain rfl := vstr r
      simp only [fLen] at h
      split at h
      · rename_i hz
        exact call_len_str pins s σ H _ us Q I rs ⟨z, rfl, by rw [SL_eq]; exact hz, h.val M rint⟩
      · exact h.elim
    | _ => exact seqs rfl
  | [], _ => exact h.elim
  | p :: _ :: _, _ => cases p <;> exact h.elim
theorem crP_int : CallR X (.type "int") (rPn X.K X.mg E fInt) := by
  intro pins s σ H xs us Q I rs h
  obtain ⟨μ, ρ, ps, M, hp, h⟩ := h
  match ps, hp with
  | [p], hp =>
    obtain ⟨x, rfl, r⟩ := reps1 hp
    cases p with
    | int i =>
      obtain rfl := vint r
      exact call_int1 pins s σ H _ us Q I rs (.inl ⟨i, rfl, h.val M rint⟩)
    | bl b =>
      obtain rfl := vbl r
      exact call_int1 pins s σ H _ us Q I rs (.inr ⟨b, rfl, h.val M rint⟩)
    | _ => exact h.elim
  | [], _ => exact h.elim
  | p :: _ :: _, _ => cases p <;> exact h.elim
theorem crP_abs : CallR X (.builtin "abs") (rPn X.K X.mg E fAbs) := by
  intro pins s σ H xs us Q I rs h
  obtain ⟨μ, ρ, ps, M, hp, h⟩ := h
  match ps, hp with
  | [p], hp =>
    obtain ⟨x, rfl, r⟩ := reps1 hp
    cases p with
    | int i =>
      obtain rfl := vint r
      exact call_abs pins s σ H _ us Q I rs ⟨i, rfl, h.val M rint⟩
    | _ => exact h.elim
  | [], _ => exact h.elim
  | p :: _ :: _, _ => cases p <;> exact h.elim
theorem maxL_spec : ∀ (l : List Int) (m : Int), (maxL m l = m ∨ maxL m l ∈ l) ∧ m ≤ maxL m l ∧ ∀ y ∈ l, y ≤ maxL m l
  | [], m => by simp [maxL]
  | x :: xs, m => by
    unfold maxL
    by_cases h : x > m
    · rw [if_pos h]
      obtain ⟨h1, h2, h3⟩ := maxL_spec xs x
      refine ⟨.inr ?_, by omega, fun y hy => ?_⟩
      · rcases h1 with h1 | h1
        · rw [h1]; exact List.mem_cons_self
        · exact List.mem_cons_of_mem _ h1
      · rcases List.mem_cons.mp hy with rfl | hy
        · exact h2
        · exact h3 y hy
    · rw [if_neg h]
      obtain ⟨h1, h2, h3⟩ := maxL_spec xs m
      refine ⟨?_, h2, fun y hy => ?_⟩
      · rcases h1 with h1 | h1
        · exact .inl h1
        · exact .inr (List.mem_cons_of_mem _ h1)
      · rcases List.mem_cons.mp hy with rfl | hy
        · omega
        · exact h3 y hy
theorem minL_spec : ∀ (l : List Int) (m : Int), (minL m l = m ∨ minL m l ∈ l) ∧ minL m l ≤ m ∧ ∀ y ∈ l, minL m l ≤ y
  | [], m => by simp [minL]
  | x :: xs, m => by
    unfold minL
    by_cases h : x < m
    · rw [if_pos h]
      obtain ⟨h1, h2, h3⟩ := minL_spec xs x
      refine ⟨.inr ?_, by omega, fun y hy => ?_⟩
      · rcases h1 with h1 | h1
        · rw [h1]; exact List.mem_cons_self
        · exact List.mem_cons_of_mem _ h1
      · rcases List.mem_cons.mp hy with rfl | hy
        · exact h2
        · exact h3 y hy
    · rw [if_neg h]
      obtain ⟨h1, h2, h3⟩ := minL_spec xs m
      refine ⟨?_, h2, fun y hy => ?_⟩
      · rcases h1 with h1 | h1
        · exact .inl h1
        · exact .inr (List.mem_cons_of_mem _ h1)
      · rcases List.mem_cons.mp hy with rfl | hy
        · omega
        · exact h3 y hy
theorem crP_max (hc : X.calm = true) : CallR X (.builtin "max") (rPn X.K X.mg E fMax) := by
  intro pins s σ H xs us Q I rs h
  obtain ⟨μ, ρ, ps, M, hp, h⟩ := h
  match ps, hp with
  | [.int i, .int j], hp =>
    obtain ⟨x, y, rfl, r1, r2⟩ := reps2 hp
    obtain rfl := vint r1
    obtain rfl := vint r2
    exact call_max2 hc pins s σ H _ us Q I rs ⟨i, j, rfl, h.val M rint⟩
  | [.ref n], hp =>
    obtain ⟨x, rfl, r⟩ := reps1 hp
    simp only [fMax] at h
    split at h
    · rename_i i is e
      cases e2 : getL μ (.ref n) with
      | none => rw [e2] at e; simp at e
      | some l =>
        rw [e2] at e
        obtain ⟨a, ys, rfl, k1, k2, _⟩ := getL_ref M r e2
        obtain rfl := intsOf_map (show intsOf l = some (i :: is) from e) k2
        refine cr_max hc pins s σ H _ us Q I rs ⟨a, i :: is, rfl, k1, Nat.succ_pos _, fun m m1 m2 => ?_⟩
        obtain ⟨h1, h2, h3⟩ := maxL_spec is i
        have e3 : m = maxL i is := by
          have g1 : maxL i is ≤ m := by
            rcases h1 with h1 | h1
            · rw [h1]; exact m2 i List.mem_cons_self
            · exact m2 _ (List.mem_cons_of_mem _ h1)
          have g2 : m ≤ maxL i is := by
            rcases List.mem_cons.mp m1 with rfl | m1
            · exact h2
            · exact h3 m m1
          omega
        rw [e3]
        exact h.val M rint
    · exact h.elim
  | [], _ => exact h.elim
  | .non :: _, _ => exact h.elim
  | .bl _ :: _, _ => exact h.elim
  | .str _ :: _, _ => exact h.elim
  | .tup _ :: _, _ => exact h.elim
  | .cst _ :: _, _ => exact h.elim
  | [.int _], _ => exact h.elim
  | .int _ :: .non :: _, _ => exact h.elim
  | .int _ :: .bl _ :: _, _ => exact h.elim
  | .int _ :: .str _ :: _, _ => exact h.elim
  | .int _ :: .tup _ :: _, _ => exact h.elim
  | .int _ :: .cst _ :: _, _ => exact h.elim
  | .int _ :: .ref _ :: _, _ => exact h.elim
  | .int _ :: .int _ :: _ :: _, _ => exact h.elim
  | .ref _ :: _ :: _, _ => exact h.elim
theorem crP_min (hc : X.calm = true) : CallR X (.builtin "min") (rPn X.K X.mg E fMin) := by
  intro pins s σ H xs us Q I rs h
  obtain ⟨μ, ρ, ps, M, hp, h⟩ := h
  match ps, hp with
  | [.int i, .int j], hp =>
    obtain ⟨x, y, rfl, r1, r2⟩ := reps2 hp
    obtain rfl := vint r1
    obtain rfl := vint r2
    exact call_min2 hc pins s σ H _ us Q I rs ⟨i, j, rfl, h.val M rint⟩
  | [.ref n], hp =>
    obtain ⟨x, rfl, r⟩ := reps1 hp
    simp only [fMin] at h
    split at h
    · rename_i i is e
      cases e2 : getL μ (.ref n) with
      | none => rw [e2] at e; simp at e
      | some l =>
        rw [e2] at e
        obtain ⟨a, ys, rfl, k1, k2, _⟩ := getL_ref M r e2
        obtain rfl := intsOf_map (show intsOf l = some (i :: is) from e) k2
        refine cr_min hc pins s σ H _ us Q I rs ⟨a, i :: is, rfl, k1, Nat.succ_pos _, fun m m1 m2 => ?_⟩
        obtain ⟨h1, h2, h3⟩ := minL_spec is i
        have e3 : m = minL i is := by
          have g1 : m ≤ minL i is := by
            rcases h1 with h1 | h1
            · rw [h1]; exact m2 i List.mem_cons_self
            · exact m2 _ (List.mem_cons_of_mem _ h1)
          have g2 : minL i is ≤ m := by
            rcases List.mem_cons.mp m1 with rfl | m1
            · exact h2
            · exact h3 m m1
          omega
        rw [e3]
        exact h.val M rint
    · exact h.elim
  | [], _ => exact h.elim
  | .non :: _, _ => exact h.elim
  | .bl _ :: _, _ => exact h.elim
  | .str _ :: _, _ => exact h.elim
  | .tup _ :: _, _ => exact h.elim
  | .cst _ :: _, _ => exact h.elim
  | [.int _], _ => exact h.elim
  | .int _ :: .non :: _, _ => exact h.elim
  | .int _ :: .bl _ :: _, _ => exact h.elim
  | .int _ :: .str _ :: _, _ => exact h.elim
  | .int _ :: .tup _ :: _, _ => exact h.elim
  | .int _ :: .cst _ :: _, _ => exact h.elim
  | .int _ :: .ref _ :: _, _ => exact h.elim
  | .int _ :: .int _ :: _ :: _, _ => exact h.elim
  | .ref _ :: _ :: _, _ => exact h.elim
/-- a call with one list of ints -/
theorem one_ints {id : String} {f : Fn} {g : List Int → PV} (hf : ∀ n μ, f [.ref n] μ = match (getL μ (.ref n)).bind intsOf with | some is => .ok (g is) μ | _ => .stuck) (hn : ∀ ps μ, (∀ n, ps ≠ [.ref n]) → f ps μ = .stuck)
    (run : ∀ (pins : List (Addr × Obj)) (s : Shared) (σ : L2.St) (H : Hp) (us : List Value) (Q : VK) (a : Addr) (is : List Int), Inv X pins σ H s → Vals [V.ref a] us → SqL X.K H a (is.map V.int) → (∀ x, (∀ ρ, Rep X.K H ρ (g is) x) → Q x H) → wpAny (model X.prog X.w) X.A (call (.builtin id) us) (EP X pins σ Q) X.xe s) :
    CallR X (.builtin id) (rPn X.K X.mg E f) := by
  intro pins s σ H xs us Q I rs h
  obtain ⟨μ, ρ, ps, M, hp, h⟩ := h
  by_cases hps : ∃ n, ps = [.ref n]
  · obtain ⟨n, rfl⟩ := hps
    obtain ⟨x, rfl, r⟩ := reps1 hp
    rw [hf] at h
    split at h
    · rename_i is e
      cases e2 : getL μ (.ref n) with
      | none => rw [e2] at e; simp at e
      | some l =>
        rw [e2] at e
        obtain ⟨a, ys, rfl, k1, k2, _⟩ := getL_ref M r e2
        obtain rfl := intsOf_map (show intsOf l = some is from e) k2
        exact run pins s σ H us Q a is I rs k1 fun x hx => h.val M (hx ρ)
    · exact h.elim
  · rw [hn ps μ fun n e => hps ⟨n, e⟩] at h
    exact h.elim
theorem not_one {ps : List PV} (h : ∀ n, ps ≠ [.ref n]) : ps = [] ∨ (∃ p, ps = [p] ∧ ∀ n, p ≠ .ref n) ∨ ∃ p q r, ps = p :: q :: r := by
  match ps, h with
  | [], _ => exact .inl rfl
  | [p], h => exact .inr (.inl ⟨p, rfl, fun n e => h n (by rw [e])⟩)
  | p :: q :: r, _ => exact .inr (.inr ⟨p, q, r, rfl⟩)
theorem crP_sum (hc : X.calm = true) : CallR X (.builtin "sum") (rPn X.K X.mg E fSum) := by
  refine one_ints (g := fun is => .int is.sum) (fun _ _ => rfl) (fun ps μ hn => ?_) fun pins s σ H us Q a is I rs hs hq => cr_sum hc pins s σ H _ us Q I rs ⟨a, is, rfl, hs, hq _ fun _ => rint⟩
  rcases not_one hn with rfl | ⟨p, rfl, h⟩ | ⟨p, q, r, rfl⟩
  · rfl
  · cases p <;> first | rfl | exact absurd rfl (h _)
  · cases p <;> rfl
theorem bools_run {id : String} {f : Fn} {g : List Bool → Bool} (hf : ∀ n μ, f [.ref n] μ = match (getL μ (.ref n)).bind boolsOf with | some is => .ok (.bl (g is)) μ | _ => .stuck) (hn : ∀ ps μ, (∀ n, ps ≠ [.ref n]) → f ps μ = .stuck)
    (run : CallR X (.builtin id) (fun vs H Q => ∃ (a : Addr) (bs : List Bool), vs = [V.ref a] ∧ SqL X.K H a (bs.map V.bl) ∧ Q (.bl (g bs)) H)) : CallR X (.builtin id) (rPn X.K X.mg E f) := by
  intro pins s σ H xs us Q I rs h
  obtain ⟨μ, ρ, ps, M, hp, h⟩ := h
  by_cases hps : ∃ n, ps = [.ref n]
  · obtain ⟨n, rfl⟩ := hps
    obtain ⟨x, rfl, r⟩ := reps1 hp
    rw [hf] at h
    split at h
    · rename_i is e
      cases e2 : getL μ (.ref n) with
      | none => rw [e2] at e; simp at e
      | some l =>
        rw [e2] at e
        obtain ⟨a, ys, rfl, k1, k2, _⟩ := getL_ref M r e2
        obtain rfl := boolsOf_map (show boolsOf l = some is from e) k2
        exact run pins s σ H _ us Q I rs ⟨a, is, rfl, k1, h.val M rbl⟩
    · exact h.elim
  · rw [hn ps μ fun n e => hps ⟨n, e⟩] at h
    exact h.elim
theorem crP_all (hc : X.calm = true) : CallR X (.builtin "all") (rPn X.K X.mg E fAll) := by
  refine bools_run (g := fun bs => bs.all id) (fun _ _ => rfl) (fun ps μ hn => ?_) (cr_all hc)
  rcases not_one hn with rfl | ⟨p, rfl, h⟩ | ⟨p, q, r, rfl⟩
  · rfl
  · cases p <;> first | rfl | exact absurd rfl (h _)
  · cases p <;> rfl
theorem crP_any (hc : X.calm = true) : CallR X (.builtin "any") (rPn X.K X.mg E fAny) := by
  refine bools_run (g := fun bs => bs.any id) (fun _ _ => rfl) (fun ps μ hn => ?_) (cr_any hc)
  rcases not_one hn with rfl | ⟨p, rfl, h⟩ | ⟨p, q, r, rfl⟩
  · rfl
  · cases p <;> first | rfl | exact absurd rfl (h _)
  · cases p <;> rfl
theorem crP_tuple : CallR X (.type "tuple") (rPn X.K X.mg E fTuple) := by
  intro pins s σ H xs us Q I rs h
  obtain ⟨μ, ρ, ps, M, hp, h⟩ := h
  match ps, hp with
  | [p], hp =>
    obtain ⟨x, rfl, r⟩ := reps1 hp
    simp only [fTuple] at h
    split at h
    · rename_i l hl
      cases p with
      | tup l' =>
        simp only [getL, Option.some.injEq] at hl
        subst hl
        obtain ⟨a, ys, e, k1, k2⟩ := rep_tup r
        subst e
        exact call_tuple_of pins s σ H _ us Q I rs ⟨a, ys, rfl, .inr ⟨k1, h.val M r⟩⟩
      | ref n =>
        obtain ⟨a, ys, rfl, k1, k2, _⟩ := getL_ref M r hl
        exact call_tuple_of pins s σ H _ us Q I rs ⟨a, ys, rfl, .inl ⟨k1, h.newT M k2⟩⟩
      | _ => simp [getL] at hl
    · exact h.elim
  | [], _ => exact h.elim
  | p :: _ :: _, _ => cases p <;> exact h.elim
theorem crP_list : CallR X (.type "list") (rPn X.K X.mg E fList) := by
  intro pins s σ H xs us Q I rs h
  obtain ⟨μ, ρ, ps, M, hp, h⟩ := h
  match ps, hp with
  | [p], hp =>
    obtain ⟨x, rfl, r⟩ := reps1 hp
    simp only [fList] at h
    split at h
    · rename_i l hl
      obtain ⟨a, ys, rfl, k1, k2⟩ := getL_any M r hl
      exact call_list_of pins s σ H _ us Q I rs ⟨a, ys, rfl, k1, h.newL M k2⟩
    · exact h.elim
  | [], _ => exact h.elim
  | p :: _ :: _, _ => cases p <;> exact h.elim
theorem crP_str : CallR X (.type "str") (rPn X.K X.mg E fStr) := by
  intro pins s σ H xs us Q I rs h
  obtain ⟨μ, ρ, ps, M, hp, h⟩ := h
  match ps, hp with
  | [p], hp =>
    obtain ⟨x, rfl, r⟩ := reps1 hp
    cases p with
    | int i =>
      obtain rfl := vint r
      simp only [fStr] at h
      split at h
      · rename_i hz
        exact call_str_int pins s σ H _ us Q I rs ⟨i, rfl, hz, h.val M rstr⟩
      · exact h.elim
    | non =>
      obtain rfl := vnon r
      have hv := h.val M rstr
      obtain ⟨u, rfl, rx⟩ := vals1 rs
      cases rx
      exact PySem.P.str_of_none ⟨.str _, H, I.tok _, ⟨_, rfl⟩, hv⟩
    | _ => exact h.elim
  | [], _ => exact h.elim
  | p :: _ :: _, _ => cases p <;> exact h.elim
/-! repr of data -/
mutual
theorem dp_noDict {K : PySem.W.Frag} {H : Hp} : ∀ {x : V} {d : PyData}, Dp K H x d → d.hasDict = false
  | _, _, .non => by simp only [PyData.hasDict]
  | _, _, .bl _ => by simp only [PyData.hasDict]
  | _, _, .int _ => by simp only [PyData.hasDict]
  | _, _, .str _ => by simp only [PyData.hasDict]
  | _, _, .lst _ h => by simp only [PyData.hasDict]; exact dps_noDict h
  | _, _, .tup _ h => by simp only [PyData.hasDict]; exact dps_noDict h
theorem dps_noDict {K : PySem.W.Frag} {H : Hp} : ∀ {x : List V} {d : List PyData}, DpAll K H x d → PyData.hasDictAll d = false
  | _, _, .nil => by simp only [PyData.hasDictAll]
  | _, _, .cons h t => by simp only [PyData.hasDictAll, dp_noDict h, dps_noDict t, Bool.or_self]
end
/-! lists of data and of empty dicts -/
section
variable {pins : List (Addr × Obj)} {σ : L2.St} {H : Hp} {s : Shared} {ρ : List Addr} {μ : Mem}
/-- what repr reads of an item -/
structure Itm (P : Program) (w : World) (h : Heap) (u : Value) (d : PyData) : Prop where
  rd : ∃ as, Reads h u d as
  rp : d.showable = true → d.shown.length ≤ sizeLine → ∃ bs, ReadAtMost h d.depth bs ∧ ReprK P w bs h d.depth u d.shown
theorem itm_of (M : MemOk X.K H ρ μ) (I : Inv X pins σ H s) {p : PV} {y : V} {u : Value} {d : PyData} (e : toI μ p = some d) (r : Rep X.K H ρ p y) (ru : RelV y u) : Itm X.prog X.w s.heap u d := by
  unfold toI at e
  cases q : toD μ p with
  | some d' =>
    rw [q] at e
    cases e
    have dp := dp_toD M q r
    have ⟨as, rd⟩ := Dp.reads I _ _ _ dp ru
    exact ⟨⟨as, rd⟩, fun a1 a2 => ReprK.of_reads rd a1 (PyData.noDict_hsm (dp_noDict dp)) a2⟩
  | none =>
    rw [q] at e
    cases p <;> simp only [reduceCtorEq] at e
    rename_i n
    split at e
    · rename_i q2
      cases e
      obtain ⟨a, h1, rfl⟩ := rep_ref M r
      obtain ⟨xs, h3, h4⟩ := M.at' n _ a q2 h1
      simp only [RepK] at h4
      subst h4
      cases ru
      obtain ⟨_, ns, vs, kv, o, es, ep, q1, q2, q3, _, q5, _⟩ := L2.dk_of I.hok h3
      cases kv
      have hes : es.toList = [] := by
        cases hh : es.toList with
        | nil => rfl
        | cons a l => rw [hh] at q5; nomatch q5
      have rd : Reads s.heap (.ref a) (.dict []) (a :: [] ++ []) := .dict q1 q2.1 q3 (by rw [hes]; exact .nil) (by rw [hes]; exact .nil)
      exact ⟨⟨_, rd⟩, fun a1 a2 => ReprK.of_reads rd a1 (fun _ hm => by
        simp only [List.append_nil, List.mem_singleton] at hm
        rw [← hm] at ns
        exact absurd ns (by simp)) a2⟩
    · cases e
theorem itms_of (M : MemOk X.K H ρ μ) (I : Inv X pins σ H s) : ∀ {l : List PV} {ys : List V} {us : List Value} {ds : List PyData}, toIs μ l = some ds → Reps X.K H ρ l ys → Vals ys us → (∃ as, ReadsAll s.heap us ds as) ∧ (PyData.showableAll ds = true → (∀ t ∈ PyData.shownAll ds, t.length ≤ sizeLine) → ∃ bs, ReadAtMost s.heap (PyData.depthAll ds) bs ∧ ReprAllK X.prog X.w bs s.heap (PyData.depthAll ds) us (PyData.shownAll ds))
  | [], ys, us, ds, e, r, v => by
    simp only [toIs, Option.some.injEq] at e
    subst e
    simp only [Reps] at r
    subst r
    cases v
    exact ⟨⟨_, .nil⟩, fun _ _ => ⟨[], (fun _ h => nomatch h), by simp only [PyData.shownAll]; exact .nil⟩⟩
  | p :: ps, ys, us, ds, e, r, v => by
    obtain ⟨y, zs, rfl, r1, r2⟩ := Reps.cons_iff.mp r
    cases v with
    | cons v1 v2 =>
      simp only [toIs] at e
      cases q1 : toI μ p with
      | none => rw [q1] at e; simp at e
      | some d =>
        cases q2 : toIs μ ps with
        | none => rw [q1, q2] at e; simp at e
        | some es =>
          rw [q1, q2] at e
          simp only [Option.bind_some, Option.map_some, Option.some.injEq] at e
          subst e
          obtain ⟨⟨as, j1⟩, j2⟩ := itm_of M I q1 r1 v1
          obtain ⟨⟨bs, k1⟩, k2⟩ := itms_of M I q2 r2 v2
          refine ⟨⟨_, .cons j1 k1⟩, fun sh sz => ?_⟩
          simp only [PyData.showableAll, Bool.and_eq_true] at sh
          simp only [PyData.shownAll, List.mem_cons, forall_eq_or_imp] at sz
          obtain ⟨cs, x1, x2⟩ := j2 sh.1 sz.1
          obtain ⟨gs, y1, y2⟩ := k2 sh.2 sz.2
          refine ⟨cs ++ gs, ?_, ?_⟩
          · have l1 := Nat.le_max_left d.depth (PyData.depthAll es)
            have l2 := Nat.le_max_right d.depth (PyData.depthAll es)
            simp only [PyData.depthAll]
            exact (x1.mono l1).append (y1.mono l2)
          · have l1 := Nat.le_max_left d.depth (PyData.depthAll es)
            have l2 := Nat.le_max_right d.depth (PyData.depthAll es)
            have m1 : ∀ b ∈ cs, b ∈ cs ++ gs := fun b hb => by simp [hb]
            have m2 : ∀ b ∈ gs, b ∈ cs ++ gs := fun b hb => by simp [hb]
            simp only [PyData.depthAll, PyData.shownAll]
            exact .cons ((x2.more m1).level_le l1) (y2.more_le m2 l2)
theorem repr_items (M : MemOk X.K H ρ μ) (I : Inv X pins σ H s) (hg : X.A.guards = some []) (hu : X.A.units + 65 < cLine) {n : Nat} {y : V} {u : Value} {d : PyData} (e : toX μ (.ref n) = some d) (r : Rep X.K H ρ (.ref n) y) (ru : RelV y u) (z1 : d.showable = true) (z2 : d.shown.length ≤ sizeLine) (z3 : d.depth ≤ 64) {Q : Value → Shared → Prop} {E : Value → Shared → Prop}
    (hQ : ∀ h' t tk, (∀ b o, s.heap.get? b = some o → h'.get? b = some o) → Q (.str d.shown t) { s with heap := h', toks := tk }) : wpAny (model X.prog X.w) X.A (call (.builtin "repr") [u]) Q E s := by
  unfold toX at e
  simp only at e
  split at e
  · rename_i l q
    cases q2 : toIs μ l with
    | none => rw [q2] at e; simp at e
    | some ds =>
      rw [q2] at e
      simp only [Option.map_some, Option.some.injEq] at e
      subst e
      obtain ⟨a, ys, _, rfl, h2, h3⟩ := mem_lst M r q
      cases ru
      obtain ⟨its, rv, ⟨o, k, o1, o2, _, o3⟩, _⟩ := I.list (SqL.of h2)
      obtain ⟨⟨as, j1⟩, j2⟩ := itms_of M I q2 h3 rv
      have zl : (listText (PyData.shownAll ds)).length ≤ sizeLine := by simpa only [PyData.shown] using z2
      obtain ⟨bs, b1, b2⟩ := j2 (by simpa [PyData.showable] using z1) (fun t ht => Nat.le_trans (listText_mem_le ht) zl)
      have top : Reads s.heap (.ref a) (.list ds) (a :: as) := .list o1 o2 o3 j1
      have free : a ∉ bs := not_mem_of_deeper top (by simp only [PyData.depth]; omega) b1
      simp only [PyData.depth] at z3
      simp only [PyData.shown] at hQ
      refine call_repr_slot (by omega) ⟨o, o1, o2⟩ F.slot_list_repr.toG ?_
      cases its with
      | nil =>
        have j3 : ReadsAll s.heap [] ds as := j1
        cases j3
        simp only [PyData.shownAll, listText_nil] at hQ
        exact call_list_repr_empty ⟨o, o1, o2⟩ o1 o3 ⟨_, _, rfl, hQ s.heap _ _ fun _ _ e => e⟩
      | cons x xs =>
        exact call_list_reprK o1 o2 o3 free (by simpa using b2.length_eq) (fun i z ez => b2.item i z (by simpa using ez)) hg (fun b _ => Clear.nil b) (by show X.A.units + 1 + _ < cLine; omega) (fun _ _ e => e) (fun h' t tk hk => ⟨_, _, rfl, hQ h' t tk hk⟩) zl
  · rename_i q
    simp only [Option.some.injEq] at e
    subst e
    obtain ⟨a, h1, rfl⟩ := rep_ref M r
    obtain ⟨xs, h3, h4⟩ := M.at' n _ a q h1
    simp only [RepK] at h4
    subst h4
    cases ru
    obtain ⟨_, ns, vs, kv, o, es, ep, q1, q2, q3, _, q5, _⟩ := L2.dk_of I.hok h3
    cases kv
    have hes : es.toList = [] := by
      cases hh : es.toList with
      | nil => rfl
      | cons a l => rw [hh] at q5; nomatch q5
    have rd : Reads s.heap (.ref a) (.dict []) (a :: [] ++ []) := .dict q1 q2.1 q3 (by rw [hes]; exact .nil) (by rw [hes]; exact .nil)
    exact PySem.repr_of_reads' rd z1 (fun _ hm => by
        simp only [List.append_nil, List.mem_singleton] at hm
        rw [← hm] at ns
        exact absurd ns (by simp)) hg (by omega) (fun _ _ e => e) (fun h' t tk hk => hQ h' t tk hk) z2
  · cases e
end
theorem crP_repr (hg : X.A.guards = some []) (hu : X.A.units + 65 < cLine) : CallR X (.builtin "repr") (rPn X.K X.mg E fRepr) := by
  intro pins s σ H xs us Q I rs h
  obtain ⟨μ, ρ, ps, M, hp, h⟩ := h
  match ps, hp with
  | [p], hp =>
    obtain ⟨x, rfl, r⟩ := reps1 hp
    simp only [fRepr] at h
    split at h
    · rename_i d hd
      split at h
      · rename_i hz
        obtain ⟨z1, z2, z3⟩ := hz
        have hv := h.val M rstr
        have dp := dp_toD M hd r
        obtain ⟨u, rfl, rx⟩ := vals1 rs
        have sz : d.shown.length ≤ sizeLine := by rw [SL_eq]; exact z2
        cases dp with
        | non => cases rx; exact PySem.P.repr_of_none ⟨.str _, H, I.tok _, ⟨_, rfl⟩, hv⟩
        | bl b =>
          cases rx
          refine PySem.P.repr_of_bool ⟨.str _, H, I.tok _, ⟨_, rfl⟩, ?_⟩
          exact hv
        | int i =>
          obtain ⟨t, rfl⟩ := rx
          refine PySem.P.repr_of_int (by simpa [PyData.showable] using z1) ⟨.str _, H, I.tok _, ⟨_, rfl⟩, ?_⟩
          exact hv
        | str y =>
          obtain ⟨t, rfl⟩ := rx
          refine PySem.P.repr_of_str ⟨.str _, H, I.tok _, ⟨_, rfl⟩, ?_⟩ (by simpa [PyData.shown] using sz)
          exact hv
        | @lst a ys ds h1 h2 =>
          obtain ⟨as, rd⟩ := Dp.reads I _ _ u (.lst h1 h2) rx
          cases rx
          have hnd : PyData.hasDict (.list ds) = false := dp_noDict (.lst h1 h2)
          exact PySem.repr_of_reads' rd z1 (PySem.PyData.noDict_hsm hnd) hg (by omega) (fun _ _ e => e) (fun h' u tk hk => ⟨.str _, H, I.kept (t' := tk) hk, ⟨u, rfl⟩, hv⟩) sz
        | @tup a ys ds h1 h2 =>
          obtain ⟨as, rd⟩ := Dp.reads I _ _ u (.tup h1 h2) rx
          cases rx
          have hnd : PyData.hasDict (.tuple ds) = false := dp_noDict (.tup h1 h2)
          exact PySem.repr_of_reads' rd z1 (PySem.PyData.noDict_hsm hnd) hg (by omega) (fun _ _ e => e) (fun h' u tk hk => ⟨.str _, H, I.kept (t' := tk) hk, ⟨u, rfl⟩, hv⟩) sz
      · exact h.elim
    · split at h
      · rename_i n d hn hd
        split at h
        · rename_i hz
          obtain ⟨z1, z2, z3⟩ := hz
          have hv := h.val M rstr
          obtain ⟨u, rfl, rx⟩ := vals1 rs
          have sz : d.shown.length ≤ sizeLine := by rw [SL_eq]; exact z2
          exact repr_items M I hg hu hd r rx z1 sz z3 (fun h' u tk hk => ⟨.str _, H, I.kept (t' := tk) hk, ⟨u, rfl⟩, hv⟩)
        · exact h.elim
      · exact h.elim
  | [], _ => exact h.elim
  | p :: _ :: _, _ => cases p <;> exact h.elim
theorem kitb {K : PySem.W.Frag} {a b : String} {r : Bool} (h : kitB a b = some r) : PySem.W.kitOne K (.type a) (.type b) = some r := kit_ty h
def Ty.nm : Ty → String
  | .int => "int" | .bool => "bool" | .str => "str" | .tuple => "tuple" | .list => "list" | .dict => "dict"
theorem isTy_run {K : PySem.W.Frag} {H : Hp} {ρ : List Addr} {μ : Mem} {t : Ty} {p : PV} {x : V} {b : Bool} (M : MemOk K H ρ μ) (r : Rep K H ρ p x) (h : isTy μ t p = some b) : ∃ T, TyX K H x (.type T) ∧ kitB T t.nm = some b := by
  cases p with
  | non => obtain rfl := vnon r; refine ⟨"NoneType", .base .non, ?_⟩; cases t <;> simp only [isTy, Option.some.injEq, reduceCtorEq] at h <;> subst h <;> decide +kernel
  | bl y => obtain rfl := vbl r; refine ⟨"bool", .base (.bl y), ?_⟩; cases t <;> simp only [isTy, Option.some.injEq, reduceCtorEq] at h <;> subst h <;> decide +kernel
  | int y => obtain rfl := vint r; refine ⟨"int", .base (.int y), ?_⟩; cases t <;> simp only [isTy, Option.some.injEq, reduceCtorEq] at h <;> subst h <;> decide +kernel
  | str y => obtain rfl := vstr r; refine ⟨"str", .base (.str y), ?_⟩; cases t <;> simp only [isTy, Option.some.injEq, reduceCtorEq] at h <;> subst h <;> decide +kernel
  | cst a => cases t <;> simp [isTy] at h
  | tup l =>
    obtain ⟨a, xs, rfl, k1, k2⟩ := rep_tup r
    refine ⟨"tuple", ?_, ?_⟩
    · rcases k1 with (k1 | ⟨o, k1⟩) | ⟨o, its, n, k1, k3, _⟩
      · exact .base (.tup k1)
      · exact .fTuple k1
      · exact .kTuple k1 k3
    · cases t <;> simp only [isTy, Option.some.injEq, reduceCtorEq] at h <;> subst h <;> decide +kernel
  | ref n =>
    have h' : (match μ[n]? with
      | some (.lst _) => some t.isL
      | some (.dct _) => some t.isD
      | _ => none) = some b := by cases t <;> exact h
    split at h'
    · rename_i l e
      obtain ⟨a, xs, _, rfl, g3, _⟩ := mem_lst M r e
      refine ⟨"list", .base (.lst g3), ?_⟩
      cases h'
      cases t <;> decide +kernel
    · rename_i l e
      obtain ⟨a, h1, rfl⟩ := rep_ref M r
      obtain ⟨xs, h3, _⟩ := M.at' _ _ a e h1
      refine ⟨"dict", .base (.dK h3), ?_⟩
      cases h'
      cases t <;> decide +kernel
    · cases h'
/-- isinstance(x, T) -/
theorem pp_isi {t : Ty} {e : Expr} {fe : Ex} {x nm : Str} {p p2 pos : Pos} (ha : PP X E e fe) (hm : X.mg x = none) (hm2 : X.mg nm = none) (hx : bootBuiltins x = some (.builtin "isinstance")) (hnm : bootBuiltins nm = some (.type t.nm))
    (hg : Gl X x := by rfl) (hg2 : Gl X nm := by rfl) (hn : x ≠ "__name__" := by decide) (hdb : (x == ("__debug__" : Str)) = false := by decide) (hn2 : nm ≠ "__name__" := by decide) (hdb2 : (nm == ("__debug__" : Str)) = false := by decide)
    (he : starEach [e, .Name nm p2] X.env = (false, eval e X.env) :: starEach [.Name nm p2] X.env := by rfl) (hpl : (backTo pos (starEach [.Name nm p2] X.env)).any (·.1) = false := by rfl) (he2 : starEach [.Name nm p2] X.env = (false, eval (.Name nm p2) X.env) :: starEach [] X.env := by rfl) :
    PP X E (.Call (.Name x p) [e, .Name nm p2] [] pos) (app1 (fIsi t) fe) := ⟨by
  refine PE.imp (pe_callB call_isi hg hm hx (pa_cons ha.pe (pa_cons (pe_bltn (v := .ty t.nm) hg2 hm2 hnm rfl hn2 hdb2) pa_nil he2) he) hn hdb he hpl) fun σ H Q h => ?_
  obtain ⟨env, μ, ρ, eo, M, h⟩ := h
  refine tE_bind eo M h fun x H1 p m ρ1 _ l1 e1 M1 r1 q1 => ?_
  simp only [fIsi] at q1
  split at q1
  · rename_i b hb
    obtain ⟨T, h1, h2⟩ := isTy_run M1 r1 hb
    exact ⟨x, .ty t.nm, .type T, .type t.nm, b, rfl, .ty _, h1, kit_ty h2, q1.val M1 rbl⟩
  · exact q1.elim⟩
end
/-! ### targets -/
section
variable {X : Cx} {E : XK} {e : Expr} {es : List Expr} {fe : Ex} {pos : Pos}
theorem EnvOk.set {K : PySem.W.Frag} {H : Hp} {ρ : List Addr} {env : Env} {σ : L2.St} {i : Nat} {p : PV} {x : V} (e : EnvOk K H ρ env σ) (r : Rep K H ρ p x) : EnvOk K H ρ (env.set i (some p)) (σ.set i (some x)) := by
  refine ⟨by simp [e.len], fun j q h => ?_⟩
  have hl := e.len
  by_cases hj : i = j
  · subst hj
    have hi : i < env.length := by
      have := (List.getElem?_eq_some_iff.mp h).1
      simpa using this
    rw [List.getElem?_set_self hi] at h
    rw [List.getElem?_set_self (by omega)]
    cases h
    exact ⟨x, rfl, r⟩
  · rw [List.getElem?_set_ne hj] at h
    rw [List.getElem?_set_ne hj]
    exact e.at' j q h
theorem OutOf.refl (is : List Nat) (σ : L2.St) : OutOf is σ σ := ⟨rfl, fun _ _ => rfl⟩
theorem OutOf.trans {is js : List Nat} {σ σ1 σ2 : L2.St} (a : OutOf is σ σ1) (b : OutOf js σ1 σ2) : OutOf (is ++ js) σ σ2 :=
  ⟨b.1.trans a.1, fun j h => by
    simp only [List.mem_append, not_or] at h
    exact (b.2 j h.2).trans (a.2 j h.1)⟩
theorem ppg_n (i : Nat) {x : Str} (hN : X.N.Nodup) (hi : X.N[i]? = some x := by rfl) (hx : Loc X.env.scope x := by first | exact Or.inl rfl | exact Or.inr rfl) (hf : X.fn x = true ∨ X.env.scope.names.lookup x = some .local := by first | exact Or.inl rfl | exact Or.inr rfl) : PPG X E (.Name x pos) [i] (tn i) := ⟨by
  refine PG.imp (pg_name (i := i) hN hi hx hf) fun x σ H Q h => ?_
  obtain ⟨env, μ, ρ, p, eo, M, r, h⟩ := h
  exact Post.val (R := RG X.K [i] σ) (show Post X.K X.mg E (RG X.K [i] σ) H ρ Q (Res.ok (env.set i (some p)) μ) from h) M ⟨eo.set r, by simp, fun j hj => List.getElem?_set_ne (by simpa using Ne.symm (by simpa using hj))⟩⟩
theorem ppgs_nil : PPGs X E [] [] t0 := ⟨by
  refine PGs.imp pgs_nil fun xs σ H Q h => ?_
  obtain ⟨env, μ, ρ, ps, eo, M, r, h⟩ := h
  match ps, r with
  | [], r =>
    simp only [Reps] at r
    subst r
    exact ⟨rfl, Post.val (R := RG X.K [] σ) (show Post X.K X.mg E (RG X.K [] σ) H ρ Q (Res.ok env μ) from h) M ⟨eo, .refl _ _⟩⟩
  | _ :: _, _ => exact h.elim⟩
theorem ppgs_cons {g : Tg} {gs : Tgs} {is js : List Nat} (h1 : PPG X E e is g) (h2 : PPGs X E es js gs) (hs : (assignEach (e :: es) X.env).map (·.2) = assign e X.env :: (assignEach es X.env).map (·.2) := by rfl) : PPGs X E (e :: es) (is ++ js) (tc g gs) := ⟨by
  refine PGs.imp (pgs_cons h1.pg h2.pg hs) fun xs σ H Q h => ?_
  obtain ⟨env, μ, ρ, ps, eo, M, r, h⟩ := h
  match ps, r with
  | [], r => exact h.elim
  | p :: qs, r =>
    obtain ⟨y, ys, rfl, r1, r2⟩ := Reps.cons_iff.mp r
    refine ⟨y, ys, rfl, env, μ, ρ, p, eo, M, r1, ?_⟩
    refine (Post.bind (R := RG X.K is σ) h).imp fun σ' H1 ⟨env1, m, ρ1, _, l1, M1, ⟨e1, o1⟩, q1⟩ => ?_
    exact ⟨env1, m, ρ1, qs, e1, M1, Reps.mono l1 _ _ r2, q1.rel fun H' ρ' env2 σ2 ⟨g1, g2⟩ => ⟨g1, o1.trans g2⟩⟩⟩
section
variable {prog : Program} {w : World} {A : Around} {Ex : Value → Shared → Prop} {s : Shared}
theorem draw_list {it t : Addr} {items : Array Value} (hne : t ≠ it) : ∀ (n i : Nat) (s : Shared) (Q : List Value → Shared → Prop), s.heap.IsListIter it t i → s.heap.IsList t items → i + n ≤ items.size →
    (∀ h', h'.IsListIter it t (i + n) → Heap.SameBut it s.heap h' → Q ((items.toList.drop i).take n) { s with heap := h' }) → wpAny (model prog w) A (draw (.ref it) n) Q Ex s
  | 0, i, s, Q, hit, _, _, hQ => by
    show wpAny _ _ (pure []) Q Ex s
    exact wpAny_pure (by simpa using hQ s.heap hit (Heap.SameBut.refl ..))
  | n + 1, i, s, Q, hit, ht, hle, hQ => by
    have hlt : i < items.size := by omega
    show wpAny _ _ (pyNext (.ref it) >>= _) Q Ex s
    refine wpAny_bind (wpAny_pyNext_list_item hit ht (x := items[i]) (by simp [hlt]) fun h₁ hit₁ hs₁ => ?_)
    refine wpAny_bind (wpAny_holding (draw_list hne n (i + 1) _ _ hit₁ (ht.extBut hs₁.extBut hne) (by omega) fun h₂ hit₂ hs₂ => wpAny_pure ?_))
    have hd : items.toList.drop i = items[i] :: items.toList.drop (i + 1) := by simp [List.drop_eq_getElem_cons, hlt]
    have := hQ h₂ (by rw [show i + (n + 1) = i + 1 + n by omega]; exact hit₂) (hs₁.trans hs₂)
    rw [hd, List.take_succ_cons] at this
    exact this
theorem unpackItems_list {t : Addr} {items : Array Value} {Q : List Value → Shared → Prop} (hh : A.handled = none) (ht : s.heap.IsList t items)
    (hQ : ∀ h', Heap.ExtBut s.heap.objs.size s.heap h' → Q items.toList { s with heap := h' }) : wpAny (model prog w) A (unpackItems (.ref t) items.size none) Q Ex s := by
  have hlt : t ≠ s.heap.objs.size := by obtain ⟨o, ho, _⟩ := ht; exact Nat.ne_of_lt (Heap.lt_size ho)
  unfold unpackItems
  refine wpAny_bind ?_
  · unfold notIterableAtAll
    refine wpAny_bind (wpAny_specialOf ht.typeIs slot_list_iter.lookup ?_)
    refine wpAny_pure ?_
    simp only [Bool.false_eq_true, if_false]
    refine wpAny_bind (wpAny_holding (wpAny_pyIter_list ht ?_))
    refine wpAny_bind (wpAny_holding (draw_list hlt items.size 0 _ _ ⟨_, Heap.get?_push_size _ rfl, rfl, rfl⟩ (ht.push _) (by omega) fun h₁ hit₁ hs₁ => ?_))
    have hall : List.take items.size (List.drop 0 items.toList) = items.toList := by
      rw [List.drop_zero]; exact List.take_of_length_le (by simp)
    rw [hall]
    rw [if_neg (by simp)]
    have ht₁ : h₁.IsList t items := (ht.push _).extBut hs₁.extBut hlt
    refine wpAny_bind (wpAny_holding (wpAny_pyNext_list_end hh hit₁ ht₁ (by simp) fun h₂ he₂ => ?_))
    simp only [Option.isSome_none, Bool.false_eq_true, if_false]
    refine wpAny_pure (hQ h₂ fun b o hb e => he₂ b o hb (hs₁.extBut b o hb (Heap.get?_push_of_some _ e)))
theorem assign_Tuple_list {env : PySem.Env} {elts : List Expr} {x1} {pos : Pos} {t : Addr} {items : Array Value} {Q : Unit → Shared → Prop} (hh : A.handled = none) (ht : s.heap.IsList t items)
    (hn : (assignEach elts env).length = items.size) (hstar : (assignEach elts env).findIdx? (·.1) = none)
    (h : ∀ h', Heap.ExtBut s.heap.objs.size s.heap h' → wpAny (model prog w) A (assignInOrder ((assignEach elts env).map (·.2)) items.toList) Q Ex { s with heap := h' }) :
    wpAny (model prog w) A (assign (.Tuple elts x1 pos) env (.ref t)) Q Ex s := by
  rw [PyProof.Rows.assign_Tuple]
  refine wpAny_bind (wpAny_standAt ?_)
  unfold unpack
  rw [hn, hstar]
  exact wpAny_bind (wpAny_holding (unpackItems_list hh ht h))
end
/-- (a, b, ..) = a tuple or a list of that length -/
def gTupL (K : PySem.W.Frag) (n : Nat) (t : L2.TGs) : L2.TG := fun v σ H Q => ∃ a xs, v = .ref a ∧ (SqT K H a xs ∨ SqL K H a xs) ∧ xs.length = n ∧ t xs σ H Q
theorem pg_tupL {es : List Expr} {k : Nat} {t : L2.TGs} {n : Nat} (hc : X.calm = true) (h : PGs X es t)
    (hn : (assignEach es X.env).length = n := by rfl) (hst : (assignEach es X.env).findIdx? (·.1) = none := by rfl) : PG X (.Tuple es k pos) (gTupL X.K n t) := by
  refine ⟨fun pins s σ H v u Q I r hw => ?_⟩
  obtain ⟨a, xs, e1, hq, hl, hw⟩ := hw
  subst e1
  cases r
  rcases hq with hq | hq
  · obtain ⟨its, rv, ht, hz⟩ := I.tuple hq
    refine PyProof.Rows.assign_Tuple_tuple (I.ok.hd hc) ht (by simp [hn, ← hl, rv.length]) hst fun h' hx => ?_
    have I1 : Inv X pins σ H { s with heap := h' } := I.kept (t' := s.toks) fun b o e => hx b o (Nat.ne_of_lt (Heap.lt_size e)) e
    exact h.run pins _ σ H xs _ Q I1 (by simpa using rv) hw
  · obtain ⟨its, rv, ht, hz⟩ := I.list hq
    refine assign_Tuple_list (I.ok.hd hc) ht.isList (by simp [hn, ← hl, rv.length]) hst fun h' hx => ?_
    have I1 : Inv X pins σ H { s with heap := h' } := I.kept (t' := s.toks) fun b o e => hx b o (Nat.ne_of_lt (Heap.lt_size e)) e
    exact h.run pins _ σ H xs _ Q I1 (by simpa using rv) hw
theorem ppg_tup {n k : Nat} {gs : Tgs} {is : List Nat} (hc : X.calm = true) (h : PPGs X E es is gs) (hn : (assignEach es X.env).length = n := by rfl) (hst : (assignEach es X.env).findIdx? (·.1) = none := by rfl) : PPG X E (.Tuple es k pos) is (tt n gs) := ⟨by
  refine PG.imp (pg_tupL (n := n) hc h.pg hn hst) fun x σ H Q h => ?_
  obtain ⟨env, μ, ρ, p, eo, M, r, h⟩ := h
  cases p with
  | tup l =>
    obtain ⟨a, xs, rfl, k1, k2⟩ := rep_tup r
    simp only [tt] at h
    split at h
    · rename_i hl
      exact ⟨a, xs, rfl, .inl k1, by rw [k2.length]; exact hl, env, μ, ρ, l, eo, M, k2, h⟩
    · exact h.elim
  | ref m =>
    simp only [tt] at h
    split at h
    · rename_i l e
      split at h
      · rename_i hl
        obtain ⟨a, xs, g1, rfl, g3, g4⟩ := mem_lst M r e
        exact ⟨a, xs, rfl, .inr (SqL.of g3), by rw [g4.length]; exact hl, env, μ, ρ, l, eo, M, g4, h⟩
      · exact h.elim
    · exact h.elim
  | _ => exact h.elim⟩
theorem psetP : PSet X (fun o i v H Q => ∃ μ ρ p q r, MemOk X.K H ρ μ ∧ Rep X.K H ρ p o ∧ Rep X.K H ρ q i ∧ Rep X.K H ρ r v ∧ Post X.K X.mg E (RP X.K) H ρ (fun _ H' => Q H') (fSet [p, q, r] μ)) := by
  intro pins s σ H o i v ov iv u Q I ro ri rv h
  obtain ⟨μ, ρ, p, q, r, M, hp, hq, hr, h⟩ := h
  cases p with
  | ref n =>
    cases q with
    | int j =>
      obtain rfl := vint hq
      simp only [fSet] at h
      split at h
      · rename_i l e
        split at h
        · rename_i k hk
          obtain ⟨a, xs, g1, rfl, g3, g4⟩ := mem_lst M hp e
          exact set_list pins s σ H _ _ v ov iv u Q I ro ri rv ⟨a, xs, j, k, rfl, rfl, g3, by rw [g4.length]; exact hk, h.write M e g1 (g4.set k hr) rnon⟩
        · exact h.elim
      · exact h.elim
    | _ => exact h.elim
  | _ => cases q <;> exact h.elim
theorem ppg_sub {o i : Expr} {fo fi : Ex} (ho : PP X E o fo) (hi : PP X E i fi) (ha : ∀ v, assign (.Subscript o i pos) X.env v = (do
      let ov ← holding [v] (eval o X.env)
      let iv ← holding [v, ov] (eval i X.env)
      standAt pos
      holding [v, ov, iv] (setItem ov iv v)
      release [v, ov, iv] []) := by intro _; rfl) : PPG X E (.Subscript o i pos) [] (tsub fSet fo fi) := ⟨by
  refine PG.imp (pg_sub ho.pe hi.pe (psetP (E := E)) ha) fun x σ H Q h => ?_
  obtain ⟨env, μ, ρ, p, eo, M, r, h⟩ := h
  refine tE_bind eo M h fun y H1 q m ρ1 _ l1 e1 M1 r1 q1 => tE_bind e1 M1 q1 fun z H2 w m2 ρ2 _ l2 e2 M2 r2 q2 => ⟨m2, ρ2, q, w, p, M2, Rep.mono l2 _ _ r1, r2, Rep.mono (l1.trans l2) _ _ r, ?_⟩
  refine (Post.bind (R := RP X.K) q2).imp fun _ H3 ⟨_, m3, ρ3, _, l3, M3, _, q3⟩ => ?_
  exact Post.val (R := RG X.K [] σ) (show Post X.K X.mg E (RG X.K [] σ) H3 ρ3 Q (Res.ok env m3) from q3) M3 ⟨e2.mono l3, .refl _ _⟩⟩
end
/-! ### statements -/
section
variable {X : Cx} {E : XK} {a b e : Expr} {st : Stmt} {sts rest : List Stmt} {fa fb fe : Ex} {fs gs : Sm} {pos : Pos}
theorem tE_of {K : PySem.W.Frag} {mg : Str → Option Value} {H : Hp} {ρ : List Addr} {D : Ends} {env : Env} {μ : Mem} {σ : L2.St} {k : PV → Mem → Out} (eo : EnvOk K H ρ env σ) (M : MemOk K H ρ μ)
    (h : PostS K mg E H ρ D (.of (fa env μ) k)) {Q : VK} (i : ∀ x H1 p m ρ1, fa env μ = .ok p m → Lat K H ρ H1 ρ1 → EnvOk K H1 ρ1 env σ → MemOk K H1 ρ1 m → Rep K H1 ρ1 p x → PostS K mg E H1 ρ1 D (k p m) → Q x H1) : tE K mg E fa σ H Q :=
  ⟨env, μ, ρ, eo, M, (PostS.of (R := RP K) h).imp fun x H1 ⟨p, m, ρ1, e, l, M1, r, q⟩ => i x H1 p m ρ1 e l (eo.mono l) M1 r q⟩
theorem tT_of {K : PySem.W.Frag} {mg : Str → Option Value} {H : Hp} {ρ : List Addr} {D : Ends} {env : Env} {μ : Mem} {σ : L2.St} {k1 k2 : Mem → Out} (eo : EnvOk K H ρ env σ) (M : MemOk K H ρ μ)
    (h : PostS K mg E H ρ D (.of (fa env μ) fun p m => onS p (k1 m) (k2 m))) {Q : Bool → Hp → Prop} (i : ∀ t H1 m ρ1, fa env μ = .ok (.bl t) m → Lat K H ρ H1 ρ1 → EnvOk K H1 ρ1 env σ → MemOk K H1 ρ1 m → PostS K mg E H1 ρ1 D (if t = true then k1 m else k2 m) → Q t H1) : tT K mg E fa σ H Q := by
  refine ⟨env, μ, ρ, eo, M, ?_⟩
  cases e : fa env μ with
  | ok p m =>
    rw [e] at h
    cases p with
    | bl t =>
      intro b H1 ρ1 l M1 rb
      cases rb
      refine i t H1 m ρ1 e l (eo.mono l) M1 ?_
      have h2 : PostS K mg E H ρ D (onS (.bl t) (k1 m) (k2 m)) := h
      rw [onS_bl] at h2
      exact h2.later l
    | _ => exact h.elim
  | exc x m => rw [e] at h; exact h
  | stuck => rw [e] at h; exact h
theorem ps_nxt {K : PySem.W.Frag} {mg : Str → Option Value} {H : Hp} {ρ : List Addr} {D : Ends} {env : Env} {μ : Mem} {σ : L2.St} (h : PostS K mg E H ρ D (.nx env μ)) (M : MemOk K H ρ μ) (eo : EnvOk K H ρ env σ) : D.nx σ H := h σ H ρ (.refl K H ρ) M eo
theorem ppb_nil : PPb X E [] skip := ⟨PSs.imp pss_nil fun D σ H h => by
  obtain ⟨env, μ, ρ, eo, M, h⟩ := h
  exact ps_nxt (E := E) (mg := X.mg) h M eo⟩
theorem ppb_cons (h1 : PPs X E st fs) (h2 : PPb X E rest gs) : PPb X E (st :: rest) (seq fs gs) := ⟨PSs.imp (pss_cons h1.ps h2.ps) fun D σ H h => by
  obtain ⟨env, μ, ρ, eo, M, h⟩ := h
  refine ⟨env, μ, ρ, eo, M, (PostS.then h).imp (fun σ' H' ⟨env1, m, ρ1, l, M1, e1, q⟩ => ⟨env1, m, ρ1, e1, M1, q⟩) (fun _ _ q => q) (fun _ _ q => q) fun _ _ q => q⟩⟩
theorem ppb_one (h1 : PPs X E st fs) : PPb X E [st] fs := ⟨pss_one h1.ps⟩
theorem pps_pass : PPs X E (.Pass pos) skip := ⟨PS.imp ps_pass fun D σ H h => by
  obtain ⟨env, μ, ρ, eo, M, h⟩ := h
  exact ps_nxt (E := E) (mg := X.mg) h M eo⟩
theorem pps_brk : PPs X E (.Break pos) brk := ⟨PS.imp ps_break fun D σ H h => by
  obtain ⟨env, μ, ρ, eo, M, h⟩ := h
  exact (show ∀ σ' H' ρ', Lat X.K H ρ H' ρ' → MemOk X.K H' ρ' μ → EnvOk X.K H' ρ' env σ' → D.bk σ' H' from h) σ H ρ (.refl _ _ _) M eo⟩
theorem pps_cnt : PPs X E (.Continue pos) cnt := ⟨PS.imp ps_continue fun D σ H h => by
  obtain ⟨env, μ, ρ, eo, M, h⟩ := h
  exact (show ∀ σ' H' ρ', Lat X.K H ρ H' ρ' → MemOk X.K H' ρ' μ → EnvOk X.K H' ρ' env σ' → D.ct σ' H' from h) σ H ρ (.refl _ _ _) M eo⟩
theorem pps_exp (h : PP X E e fe) (hs : swapsWith e none pos.line X.env = pure false := by rfl) : PPs X E (.Expr e pos) (exp fe) := ⟨PS.imp (ps_expr h.pe hs) fun D σ H h => by
  obtain ⟨env, μ, ρ, eo, M, h⟩ := h
  exact tE_of eo M h fun x H1 p m ρ1 _ l1 e1 M1 r1 q1 => ps_nxt (E := E) (mg := X.mg) q1 M1 e1⟩
theorem pps_ret (h : PP X E e fe) : PPs X E (.Return (some e) pos) (ret fe) := ⟨PS.imp (ps_ret h.pe) fun D σ H h => by
  obtain ⟨env, μ, ρ, eo, M, h⟩ := h
  exact tE_of eo M h fun x H1 p m ρ1 _ l1 e1 M1 r1 q1 => (show ∀ x H' ρ', Lat X.K H1 ρ1 H' ρ' → MemOk X.K H' ρ' m → Rep X.K H' ρ' p x → D.rt x H' from q1) x H1 ρ1 (.refl _ _ _) M1 r1⟩
theorem pps_if (h : PPT X E e fe) (h1 : PPb X E sts fs) (h2 : PPb X E rest gs) : PPs X E (.If e sts rest pos) (cond fe fs gs) := ⟨PS.imp (ps_if h.pt h1.ps h2.ps) fun D σ H h => by
  obtain ⟨env, μ, ρ, eo, M, h⟩ := h
  exact tT_of (k1 := fun m => fs env m) (k2 := fun m => gs env m) eo M h fun t H1 m ρ1 _ l1 e1 M1 q1 => by
    cases t with
    | true => exact ⟨env, m, ρ1, e1, M1, q1⟩
    | false => exact ⟨env, m, ρ1, e1, M1, q1⟩⟩
theorem asg_read {g : Tg} {is : List Nat} {K : PySem.W.Frag} {mg : Str → Option Value} {D : Ends} {σ : L2.St} {H : Hp} (h : tS K mg E (asg g fe) D σ H) : tAsg (tE K mg E fe) (tG K mg E is g) D σ H := by
  obtain ⟨env, μ, ρ, eo, M, h⟩ := h
  refine tE_of eo M h fun x H1 p m ρ1 _ l1 e1 M1 r1 q1 => ⟨env, m, ρ1, p, e1, M1, r1, ?_⟩
  refine (PostS.of (R := RG K is σ) q1).imp fun σ' H2 ⟨env2, m2, ρ2, _, l2, M2, ⟨e2, _⟩, q2⟩ => ?_
  exact ps_nxt (E := E) (mg := mg) q2 M2 e2
theorem pps_asg {g : Tg} {is : List Nat} (h : PP X E e fe) (hg : PPG X E a is g) (hs : swapsWithSole [a] e pos.line X.env = pure false := by rfl) (hw : swappedStores [a] e X.env = pure none := by rfl) (h1 : (assignEach [a] X.env).map (·.2) = [assign a X.env] := by rfl) : PPs X E (.Assign [a] e pos) (asg g fe) :=
  ⟨PS.imp (ps_asg h.pe hg.pg hs hw h1) fun _ _ _ h => asg_read h⟩
theorem pps_set (i : Nat) {x : Str} {pos' : Pos} (hN : X.N.Nodup) (h : PP X E e fe) (hi : X.N[i]? = some x := by rfl) (hx : Loc X.env.scope x := by first | exact Or.inl rfl | exact Or.inr rfl) (hs : swapsWith e (some (.Name x pos')) pos.line X.env = pure false := by rfl)
    (hf : X.fn x = true ∨ X.env.scope.names.lookup x = some .local := by first | exact Or.inl rfl | exact Or.inr rfl) : PPs X E (.Assign [.Name x pos'] e pos) (setv i fe) := ⟨PS.imp (ps_set (i := i) hN hi hx h.pe hs hf) fun D σ H h => by
  obtain ⟨env, μ, ρ, eo, M, h⟩ := h
  exact tE_of eo M h fun x H1 p m ρ1 _ l1 e1 M1 r1 q1 => ps_nxt (E := E) (mg := X.mg) q1 M1 (e1.set r1)⟩
theorem pps_par (i j : Nat) {x y : Str} {px py pt : Pos} {kt k2 : Nat} {pt2 : Pos} (hc : X.calm = true) (hN : X.N.Nodup) (hij : i ≠ j) (ha : PP X E a fa) (hb : PP X E b fb) (hi : X.N[i]? = some x := by rfl) (hj : X.N[j]? = some y := by rfl)
    (hx : X.env.scope.names.lookup x = some .local := by rfl) (hy : X.env.scope.names.lookup y = some .local := by rfl)
    (hw : swappedStores [.Tuple [.Name x px, .Name y py] kt pt] (.Tuple [a, b] k2 pt2) X.env = pure (some [x, y]) := by rfl)
    (hs : swapsWithSole [.Tuple [.Name x px, .Name y py] kt pt] (.Tuple [a, b] k2 pt2) pos.line X.env = pure false := by rfl)
    (hs1 : starEach [a, b] X.env = (false, eval a X.env) :: starEach [b] X.env := by rfl) (hs2 : starEach [b] X.env = (false, eval b X.env) :: starEach [] X.env := by rfl) :
    PPs X E (.Assign [.Tuple [.Name x px, .Name y py] kt pt] (.Tuple [a, b] k2 pt2) pos) (par i j fa fb) := ⟨PS.imp (ps_par (i := i) (j := j) hc hN hi hj hij hx hy (pa_cons ha.pe (pa_cons hb.pe pa_nil hs2) hs1) hw hs) fun D σ H h => by
  obtain ⟨env, μ, ρ, eo, M, h⟩ := h
  exact tE_of eo M h fun x H1 p m ρ1 _ l1 e1 M1 r1 q1 => tE_of e1 M1 q1 fun y H2 q m2 ρ2 _ l2 e2 M2 r2 q2 => ⟨x, y, rfl, ps_nxt (E := E) (mg := X.mg) q2 M2 ((e2.set (Rep.mono l2 _ _ r1)).set r2)⟩⟩
end
end PL
end
section
set_option autoImplicit false
set_option Elab.async false
set_option linter.all false
set_option maxRecDepth 100000
set_option maxHeartbeats 1000000
/-! Loops, comprehensions, defs and their calls. -/
namespace PL
open PySem L2
section
variable {X : Cx} {E : XK} {a b d e tg iter : Expr} {st : Stmt} {sts rest : List Stmt} {fa fb fd fe : Ex} {fs gs : Sm} {pos : Pos}
theorem pps_par3 (i j l : Nat) {x y z : Str} {px py pz pt : Pos} {kt k2 : Nat} {pt2 : Pos} (hc : X.calm = true) (hN : X.N.Nodup) (hij : i ≠ j) (hil : i ≠ l) (hjl : j ≠ l) (ha : PP X E a fa) (hb : PP X E b fb) (hd : PP X E d fd) (hi : X.N[i]? = some x := by rfl) (hj : X.N[j]? = some y := by rfl) (hl : X.N[l]? = some z := by rfl)
    (hx : X.env.scope.names.lookup x = some .local := by rfl) (hy : X.env.scope.names.lookup y = some .local := by rfl) (hz : X.env.scope.names.lookup z = some .local := by rfl)
    (hw : swappedStores [.Tuple [.Name x px, .Name y py, .Name z pz] kt pt] (.Tuple [a, b, d] k2 pt2) X.env = pure (some [x, y, z]) := by rfl)
    (hs : swapsWithSole [.Tuple [.Name x px, .Name y py, .Name z pz] kt pt] (.Tuple [a, b, d] k2 pt2) pos.line X.env = pure false := by rfl)
    (hs1 : starEach [a, b, d] X.env = (false, eval a X.env) :: starEach [b, d] X.env := by rfl) (hs2 : starEach [b, d] X.env = (false, eval b X.env) :: starEach [d] X.env := by rfl) (hs3 : starEach [d] X.env = (false, eval d X.env) :: starEach [] X.env := by rfl) :
    PPs X E (.Assign [.Tuple [.Name x px, .Name y py, .Name z pz] kt pt] (.Tuple [a, b, d] k2 pt2) pos) (par3 i j l fa fb fd) := ⟨PS.imp (ps_par3 (i := i) (j := j) (l := l) hc hN hi hj hl hij hil hjl hx hy hz (pa_cons ha.pe (pa_cons hb.pe (pa_cons hd.pe pa_nil hs3) hs2) hs1) hw hs) fun D σ H h => by
  obtain ⟨env, μ, ρ, eo, M, h⟩ := h
  exact tE_of eo M h fun x H1 p m ρ1 _ l1 e1 M1 r1 q1 => tE_of e1 M1 q1 fun y H2 q m2 ρ2 _ l2 e2 M2 r2 q2 => tE_of e2 M2 q2 fun z H3 w m3 ρ3 _ l3 e3 M3 r3 q3 =>
    ⟨x, y, z, rfl, ps_nxt (E := E) (mg := X.mg) q3 M3 (((e3.set (Rep.mono (l2.trans l3) _ _ r1)).set (Rep.mono l3 _ _ r2)).set r3)⟩⟩
/-! ### while -/
theorem pps_while (hp : PassesOwn (model X.prog X.w) X.A X.env X.xe) (ht : PPT X E e fe) (hb : PPb X E sts fs) : PPs X E (.While e sts [] pos) (whileS fe fs) := ⟨PS.imp (ps_while hp ht.pt hb.ps) fun D σ H h => by
  obtain ⟨env, μ, ρ, eo, M, h⟩ := h
  refine ⟨fun m σ H => ∃ env μ ρ, EnvOk X.K H ρ env σ ∧ MemOk X.K H ρ μ ∧ PostS X.K X.mg E H ρ D (whileN fe fs m env μ), ⟨fuel, env, μ, ρ, eo, M, h⟩, ?_⟩
  rintro m σ1 H1 ⟨env1, μ1, ρ1, e1, M1, h1⟩
  cases m with
  | zero => exact h1.elim
  | succ m =>
    refine tT_of (k1 := fun μ1 => match fs env1 μ1 with | .nx e m' => whileN fe fs m e m' | .ct e m' => whileN fe fs m e m' | .bk e m' => .nx e m' | o => o) (k2 := fun μ1 => .nx env1 μ1) e1 M1 h1 fun t H2 μ2 ρ2 _ l2 e2 M2 q2 => ?_
    cases t with
    | false => exact ps_nxt (E := E) (mg := X.mg) q2 M2 e2
    | true =>
      refine ⟨fun σ' H' => ∃ env μ ρ, EnvOk X.K H' ρ env σ' ∧ MemOk X.K H' ρ μ ∧ PostS X.K X.mg E H' ρ D (whileN fe fs m env μ), fun σ' H' hh => ⟨m, Nat.lt_succ_self m, hh⟩, env1, μ2, ρ2, e2, M2, ?_⟩
      have q3 : PostS X.K X.mg E H2 ρ2 D (match fs env1 μ2 with | .nx e m' => whileN fe fs m e m' | .ct e m' => whileN fe fs m e m' | .bk e m' => .nx e m' | o => o) := q2
      cases z : fs env1 μ2 with
      | nx e3 m3 => rw [z] at q3; exact fun σ' H' ρ' l M' eo' => ⟨e3, m3, ρ', eo', M', PostS.later q3 l⟩
      | ct e3 m3 => rw [z] at q3; exact fun σ' H' ρ' l M' eo' => ⟨e3, m3, ρ', eo', M', PostS.later q3 l⟩
      | bk e3 m3 => rw [z] at q3; exact q3
      | rt p m3 => rw [z] at q3; exact q3
      | exc x m3 => rw [z] at q3; exact q3
      | stuck => rw [z] at q3; exact q3⟩
/-! ### for -/
theorem pps_for {it : PL.It} {g : Tg} {is : List Nat} (hp : PassesOwn (model X.prog X.w) X.A X.env X.xe) (hc : X.calm = true) (hi : PPI X E tg iter it) (hg : PPG X E tg is g) (hb : PPb X E sts fs) (hs : ∀ x, foldedSetIterable iter X.env x = pure x := by intro _; rfl) :
    PPs X E (.For tg iter sts [] pos) (forS it g fs) := ⟨PS.imp (ps_for hp hc hi.pi hg.pg hb.ps hs) fun D σ H h => by
  obtain ⟨env, μ, ρ, eo, M, h⟩ := h
  refine ⟨env, μ, ρ, eo, M, (PostS.of (R := fun H' ρ' z J => ItOk X.K H' ρ' z J) h).imp fun J H1 ⟨z, m1, ρ1, _, l1, M1, hJ, q1⟩ => ?_⟩
  refine ⟨fun i n σ H => n = z.items.length - i ∧ i ≤ z.items.length ∧ ∃ env μ ρ, Lat X.K H1 ρ1 H ρ ∧ EnvOk X.K H ρ env σ ∧ MemOk X.K H ρ μ ∧ PostS X.K X.mg E H ρ D (forN z.lk g fs (z.items.drop i) env μ), ⟨_, rfl, Nat.zero_le _, env, m1, ρ1, .refl _ _ _, eo.mono l1, M1, q1⟩, ?_⟩
  rintro i n σ2 H2 ⟨rfl, hi, env2, μ2, ρ2, l2, e2, M2, q2⟩
  by_cases hlt : i < z.items.length
  · have hd : z.items.drop i = z.items[i] :: z.items.drop (i + 1) := List.drop_eq_getElem_cons hlt
    rw [hd] at q2
    unfold forN at q2
    split at q2
    · rename_i hlk
      obtain ⟨go, yld⟩ := hJ.go H2 ρ2 μ2 i z.items[i] l2 M2 hlk (List.getElem?_eq_getElem hlt)
      refine .inr ⟨go, fun σ' H' => ∃ env μ ρ, Lat X.K H1 ρ1 H' ρ ∧ EnvOk X.K H' ρ env σ' ∧ MemOk X.K H' ρ μ ∧ PostS X.K X.mg E H' ρ D (forN z.lk g fs (z.items.drop (i + 1)) env μ), fun σ' H' hh => ⟨z.items.length - (i + 1), by omega, rfl, hlt, hh⟩, fun x H3 hy => ?_⟩
      obtain ⟨l3, M3, r3⟩ := yld x H3 hy
      refine ⟨env2, μ2, ρ2, z.items[i], e2.mono l3, M3, r3, ?_⟩
      refine (PostS.of (R := RG X.K is σ2) (q2.later l3)).imp fun σ4 H4 ⟨env4, μ4, ρ4, _, l4, M4, ⟨e4, _⟩, q4⟩ => ?_
      refine ⟨env4, μ4, ρ4, e4, M4, ?_⟩
      have l5 : Lat X.K H1 ρ1 H4 ρ4 := (l2.trans l3).trans l4
      cases zz : fs env4 μ4 with
      | nx e5 m5 => rw [zz] at q4; exact fun σ' H' ρ' l M' eo' => ⟨e5, m5, ρ', l5.trans l, eo', M', PostS.later q4 l⟩
      | ct e5 m5 => rw [zz] at q4; exact fun σ' H' ρ' l M' eo' => ⟨e5, m5, ρ', l5.trans l, eo', M', PostS.later q4 l⟩
      | bk e5 m5 => rw [zz] at q4; exact q4
      | rt p m5 => rw [zz] at q4; exact q4
      | exc x m5 => rw [zz] at q4; exact q4
      | stuck => rw [zz] at q4; exact q4
    · exact q2.elim
  · have e : i = z.items.length := by omega
    subst e
    rw [List.drop_eq_nil_of_le (Nat.le_refl _)] at q2
    unfold forN at q2
    split at q2
    · rename_i hlk
      exact .inl ⟨hJ.stop H2 ρ2 μ2 l2 M2 hlk, ps_nxt (E := E) (mg := X.mg) q2 M2 e2⟩
    · exact q2.elim⟩
/-! what a for walks -/
theorem itOk_tup {K : PySem.W.Frag} {H : Hp} {ρ : List Addr} {l : List PV} {a : Addr} {xs : List V} (s : SqT K H a xs) (r : Reps K H ρ l xs) : ItOk K H ρ ⟨l, []⟩ (Itt K a) where
  go := fun H1 ρ1 μ1 i p l1 M1 _ hi => by
    obtain ⟨x, h1, h2⟩ := r.get hi
    refine ⟨⟨xs, x, l1.keep.1 a xs s, h1⟩, fun y H' hy => ?_⟩
    obtain ⟨rfl, hy⟩ := hy
    have := hy xs (l1.keep.1 a xs s)
    rw [h1] at this
    cases this
    exact ⟨.refl _ _ _, M1, Rep.mono l1 _ _ h2⟩
  stop := fun H1 ρ1 μ1 l1 M1 _ => ⟨xs, l1.keep.1 a xs s, by rw [r.length]; exact Nat.le_refl _⟩
theorem lock_seq {K : PySem.W.Frag} {H0 H : Hp} {ρ0 ρ : List Addr} {μ : Mem} {n : Nat} {a : Addr} {l : List PV} (ha : ρ0[n]? = some a) (L : Lat K H0 ρ0 H ρ) (M : MemOk K H ρ μ) (lk : μ[n]? = some (.lst l) ∨ μ[n]? = some (.ro l)) : ∃ xs, SqL K H a xs ∧ Reps K H ρ l xs := by
  rcases lk with h | h
  · obtain ⟨xs, h1, h2⟩ := M.at' n _ a h (L.get ha)
    exact ⟨xs, SqL.of h1, h2⟩
  · obtain ⟨xs, h1, h2⟩ := M.at' n _ a h (L.get ha)
    exact ⟨xs, h1.seq, h2⟩
theorem itOk_lst {K : PySem.W.Frag} {H : Hp} {ρ : List Addr} {l : List PV} {a : Addr} {n : Nat} (ha : ρ[n]? = some a) : ItOk K H ρ ⟨l, [(n, l)]⟩ (Itl K a) where
  go := fun H1 ρ1 μ1 i p l1 M1 lk hi => by
    obtain ⟨xs, h1, h2⟩ := lock_seq ha l1 M1 (lk (n, l) (by simp))
    obtain ⟨x, h3, h4⟩ := h2.get hi
    refine ⟨⟨xs, x, h1, h3⟩, fun y H' hy => ?_⟩
    obtain ⟨rfl, hy⟩ := hy
    have := hy xs h1
    rw [h3] at this
    cases this
    exact ⟨.refl _ _ _, M1, h4⟩
  stop := fun H1 ρ1 μ1 l1 M1 lk => by
    obtain ⟨xs, h1, h2⟩ := lock_seq ha l1 M1 (lk (n, l) (by simp))
    exact ⟨xs, h1, by rw [h2.length]; exact Nat.le_refl _⟩
theorem ppi_val (h : PP X E iter fe) : PPI X E tg iter (iVal fe) := ⟨PI.imp (PI.or (pi_list (tg := tg) h.pe) (pi_tup (tg := tg) h.pe)) fun σ H R hh => by
  obtain ⟨env, μ, ρ, eo, M, hh⟩ := hh
  cases z : fe env μ with
  | ok p m =>
    have hz : Post X.K X.mg E (fun H' ρ' z J => ItOk X.K H' ρ' z J) H ρ R (itsOf p m) := by
      unfold iVal at hh
      rw [z] at hh
      exact hh
    cases p with
    | tup l =>
      refine .inr ⟨env, μ, ρ, eo, M, ?_⟩
      rw [z]
      intro x H1 ρ1 l1 M1 r1
      obtain ⟨a, xs, rfl, k1, k2⟩ := rep_tup r1
      exact ⟨a, rfl, ⟨xs, k1⟩, hz (Itt X.K a) H1 ρ1 l1 M1 (itOk_tup k1 k2)⟩
    | ref n =>
      simp only [itsOf] at hz
      split at hz
      · rename_i l hl
        refine .inl ⟨env, μ, ρ, eo, M, ?_⟩
        rw [z]
        intro x H1 ρ1 l1 M1 r1
        obtain ⟨a, xs, rfl, k1, k2, _⟩ := getL_ref M1 r1 hl
        obtain ⟨b, hb, e⟩ := rep_ref M1 r1
        cases e
        exact ⟨a, rfl, ⟨xs, k1⟩, hz (Itl X.K a) H1 ρ1 l1 M1 (itOk_lst hb)⟩
      · exact hz.elim
    | _ => exact hz.elim
  | exc x m =>
    unfold iVal at hh
    rw [z] at hh
    exact .inl ⟨env, μ, ρ, eo, M, by rw [z]; exact hh⟩
  | stuck =>
    unfold iVal at hh
    rw [z] at hh
    exact hh.elim⟩
theorem rangeL_len (i : Int) (n : Nat) : (rangeL i n).length = n := by simp [rangeL]
theorem itOk_rng {K : PySem.W.Frag} {H : Hp} {ρ : List Addr} (i : Int) (n : Nat) : ItOk K H ρ ⟨rangeL i n, []⟩ (Itr i n) where
  go := fun H1 ρ1 μ1 k p l1 M1 _ hi => by
    have hk : k < n := by
      have := (List.getElem?_eq_some_iff.mp hi).1
      rw [rangeL_len] at this
      exact this
    refine ⟨hk, fun y H' hy => ?_⟩
    obtain ⟨rfl, rfl⟩ := hy
    have : p = .int (i + (k : Int)) := by
      simp only [rangeL, List.getElem?_map] at hi
      rw [List.getElem?_range hk] at hi
      simpa using hi.symm
    subst this
    exact ⟨.refl _ _ _, M1, rint⟩
  stop := fun H1 ρ1 μ1 l1 M1 _ => by
    show n ≤ (rangeL i n).length
    rw [rangeL_len]
    exact Nat.le_refl _
theorem pa1 {K : PySem.W.Frag} {mg : Str → Option Value} {σ : L2.St} {H : Hp} {Q : List V → Hp → Prop} (h : tE K mg E fe σ H (fun x H1 => Q [x] H1)) : tCons (tE K mg E fe) tNil σ H Q := h
theorem ppi_rng1 {p : Pos} (hm : X.mg "range" = none) (h : PP X E a fa) (hg : Gl X "range" := by rfl) (hs : starEach [a] X.env = [(false, eval a X.env)] := by rfl) : PPI X E tg (.Call (.Name "range" p) [a] [] pos) (iRng1 fa) :=
  ⟨PI.imp (pi_range1 (tg := tg) hg hm (pa_cons h.pe pa_nil (by rw [hs]; rfl)) hs) fun σ H R hh => by
  obtain ⟨env, μ, ρ, eo, M, hh⟩ := hh
  refine tE_bind eo M hh fun x H1 p m ρ1 _ l1 e1 M1 r1 q1 => ?_
  cases p with
  | int j =>
    obtain rfl := vint r1
    simp only at q1
    split at q1
    · rename_i hz
      exact ⟨j, rfl, hz.1, hz.2, q1 (Itr 0 j.toNat) H1 ρ1 (.refl _ _ _) M1 (itOk_rng 0 _)⟩
    · exact q1.elim
  | _ => exact q1.elim⟩
theorem ppi_rng2 {p : Pos} (hm : X.mg "range" = none) (h : PP X E a fa) (h' : PP X E b fb) (hg : Gl X "range" := by rfl) (hs : starEach [a, b] X.env = [(false, eval a X.env), (false, eval b X.env)] := by rfl) (hs2 : starEach [b] X.env = [(false, eval b X.env)] := by rfl) :
    PPI X E tg (.Call (.Name "range" p) [a, b] [] pos) (iRng2 fa fb) := ⟨PI.imp (pi_range2 (tg := tg) hg hm (pa_cons h.pe (pa_cons h'.pe pa_nil (by rw [hs2]; rfl)) (by rw [hs, hs2])) hs hs2) fun σ H R hh => by
  obtain ⟨env, μ, ρ, eo, M, hh⟩ := hh
  refine tE_bind eo M hh fun x H1 p m ρ1 _ l1 e1 M1 r1 q1 => tE_bind e1 M1 q1 fun y H2 q m2 ρ2 _ l2 e2 M2 r2 q2 => ?_
  cases p with
  | int i =>
    cases q with
    | int j =>
      obtain rfl := vint r1
      obtain rfl := vint r2
      simp only at q2
      split at q2
      · rename_i hz
        exact ⟨i, j, rfl, ⟨hz.1.1, hz.1.2, hz.2.1, hz.2.2⟩, q2 (Itr i (j - i).toNat) H2 ρ2 (.refl _ _ _) M2 (itOk_rng i _)⟩
      · exact q2.elim
    | _ => exact q2.elim
  | _ => cases q <;> exact q2.elim⟩
theorem zipL_get : ∀ {l k : List PV} {i : Nat} {p : PV}, (zipL l k)[i]? = some p → ∃ x y, l[i]? = some x ∧ k[i]? = some y ∧ p = .tup [x, y]
  | [], k, i, p, h => by simp [zipL] at h
  | _ :: _, [], i, p, h => by simp [zipL] at h
  | x :: l, y :: k, 0, p, h => by simp [zipL] at h; exact ⟨x, y, rfl, rfl, h.symm⟩
  | x :: l, y :: k, i + 1, p, h => by
    simp only [zipL, List.getElem?_cons_succ] at h ⊢
    exact zipL_get h
theorem zipL_len : ∀ (l k : List PV), (zipL l k).length = min l.length k.length
  | [], k => by simp [zipL]
  | _ :: _, [] => by simp [zipL]
  | x :: l, y :: k => by simp only [zipL, List.length_cons, zipL_len l k]; omega
theorem enumL_get : ∀ {l : List PV} {k i : Nat} {p : PV}, (enumL k l)[i]? = some p → ∃ x, l[i]? = some x ∧ p = .tup [.int ((k + i : Nat) : Int), x]
  | [], k, i, p, h => by simp [enumL] at h
  | x :: l, k, 0, p, h => by simp [enumL] at h; exact ⟨x, rfl, h.symm⟩
  | x :: l, k, i + 1, p, h => by
    simp only [enumL, List.getElem?_cons_succ] at h ⊢
    obtain ⟨y, h1, h2⟩ := enumL_get h
    exact ⟨y, h1, by rw [h2, show k + 1 + i = k + (i + 1) by omega]⟩
theorem enumL_len : ∀ (l : List PV) (k : Nat), (enumL k l).length = l.length
  | [], k => rfl
  | x :: l, k => by simp [enumL, enumL_len l]
theorem rep_pair {K : PySem.W.Frag} {H : Hp} {ρ : List Addr} {T : Addr} {p q : PV} {x y : V} (L : Lat K H ρ (upd H T (.tup [x, y])) ρ) (h1 : Rep K H ρ p x) (h2 : Rep K H ρ q y) : Rep K (upd H T (.tup [x, y])) ρ (.tup [p, q]) (.ref T) := by
  simp only [Rep]
  exact ⟨T, [x, y], rfl, SqT.of upd_same, .cons (Rep.mono L _ _ h1) (.cons (Rep.mono L _ _ h2) .nil)⟩
theorem itOk_zipT {K : PySem.W.Frag} {H : Hp} {ρ : List Addr} {l k : List PV} {a b : Addr} {xs ys : List V} (s : SqT K H a xs) (r : Reps K H ρ l xs) (s' : SqT K H b ys) (r' : Reps K H ρ k ys) : ItOk K H ρ ⟨zipL l k, []⟩ (RZ.ItzT K a b) where
  go := fun H1 ρ1 μ1 i p l1 M1 _ hi => by
    obtain ⟨p1, p2, g1, g2, rfl⟩ := zipL_get hi
    obtain ⟨x, h1, h2⟩ := r.get g1
    obtain ⟨y, h3, h4⟩ := r'.get g2
    have t1 := l1.keep.1 a xs s
    have t2 := l1.keep.1 b ys s'
    refine ⟨⟨xs, ys, x, y, t1, t2, h1, h3⟩, fun z H' hy => ?_⟩
    obtain ⟨T, x', y', rfl, hT, rfl, e1, e2⟩ := hy
    have e1 := e1 xs t1
    have e2 := e2 ys t2
    rw [h1] at e1
    rw [h3] at e2
    cases e1
    cases e2
    have q := M1.other (ho := .tup [x, y]) hT
    exact ⟨q.2, q.1, rep_pair q.2 (Rep.mono l1 _ _ h2) (Rep.mono l1 _ _ h4)⟩
  stop := fun H1 ρ1 μ1 l1 M1 _ => ⟨xs, ys, l1.keep.1 a xs s, l1.keep.1 b ys s', by
    show xs.length ≤ (zipL l k).length ∨ ys.length ≤ (zipL l k).length
    rw [zipL_len, r.length, r'.length]
    omega⟩
theorem itOk_zipL {K : PySem.W.Frag} {H : Hp} {ρ : List Addr} {l k : List PV} {a b : Addr} {n m : Nat} (ha : ρ[n]? = some a) (hb : ρ[m]? = some b) : ItOk K H ρ ⟨zipL l k, [(n, l), (m, k)]⟩ (Itz K a b) where
  go := fun H1 ρ1 μ1 i p l1 M1 lk hi => by
    obtain ⟨p1, p2, g1, g2, rfl⟩ := zipL_get hi
    obtain ⟨xs, s1, r⟩ := lock_seq ha l1 M1 (lk (n, l) (by simp))
    obtain ⟨ys, s2, r'⟩ := lock_seq hb l1 M1 (lk (m, k) (by simp))
    obtain ⟨x, h1, h2⟩ := r.get g1
    obtain ⟨y, h3, h4⟩ := r'.get g2
    refine ⟨⟨xs, ys, x, y, s1, s2, h1, h3⟩, fun z H' hy => ?_⟩
    obtain ⟨T, x', y', rfl, hT, rfl, e1, e2⟩ := hy
    have e1 := e1 xs s1
    have e2 := e2 ys s2
    rw [h1] at e1
    rw [h3] at e2
    cases e1
    cases e2
    have q := M1.other (ho := .tup [x, y]) hT
    exact ⟨q.2, q.1, rep_pair q.2 h2 h4⟩
  stop := fun H1 ρ1 μ1 l1 M1 lk => by
    obtain ⟨xs, s1, r⟩ := lock_seq ha l1 M1 (lk (n, l) (by simp))
    obtain ⟨ys, s2, r'⟩ := lock_seq hb l1 M1 (lk (m, k) (by simp))
    refine ⟨xs, ys, s1, s2, ?_⟩
    have e1 : xs.length = l.length := r.length
    have e2 : ys.length = k.length := r'.length
    show xs.length ≤ (zipL l k).length ∨ ys.length ≤ (zipL l k).length
    rw [zipL_len, e1, e2]
    omega
theorem itOk_enumL {K : PySem.W.Frag} {H : Hp} {ρ : List Addr} {l : List PV} {a : Addr} {n : Nat} (ha : ρ[n]? = some a) : ItOk K H ρ ⟨enumL 0 l, [(n, l)]⟩ (Ite K a) where
  go := fun H1 ρ1 μ1 i p l1 M1 lk hi => by
    obtain ⟨p1, g1, rfl⟩ := enumL_get hi
    obtain ⟨xs, s1, r⟩ := lock_seq ha l1 M1 (lk (n, l) (by simp))
    obtain ⟨x, h1, h2⟩ := r.get g1
    refine ⟨⟨xs, x, s1, h1⟩, fun z H' hy => ?_⟩
    obtain ⟨T, x', rfl, hT, rfl, e1⟩ := hy
    have e1 := e1 xs s1
    rw [h1] at e1
    cases e1
    have q := M1.other (ho := .tup [.int (i : Nat), x]) hT
    refine ⟨q.2, q.1, rep_pair q.2 ?_ h2⟩
    rw [Nat.zero_add]
    exact rint
  stop := fun H1 ρ1 μ1 l1 M1 lk => by
    obtain ⟨xs, s1, r⟩ := lock_seq ha l1 M1 (lk (n, l) (by simp))
    refine ⟨xs, s1, ?_⟩
    show xs.length ≤ (enumL 0 l).length
    rw [enumL_len, r.length]
    exact Nat.le_refl _
theorem ppi_zip {elts : List Expr} {kk : Nat} {tpos p : Pos} (hm : X.mg "zip" = none) (h : PP X E a fa) (h' : PP X E b fb) (hg : Gl X "zip" := by rfl)
    (hs : starEach [a, b] X.env = (false, eval a X.env) :: starEach [b] X.env := by rfl) (hs2 : starEach [b] X.env = (false, eval b X.env) :: starEach [] X.env := by rfl) (hpl : (backTo pos (starEach [b] X.env)).any (·.1) = false := by rfl) :
    PPI X E (.Tuple elts kk tpos) (.Call (.Name "zip" p) [a, b] [] pos) (iZip fa fb) := ⟨PI.imp (RZ.pi_zipA hg hm (pa_cons h.pe (pa_cons h'.pe pa_nil hs2) hs) hs hpl) fun σ H R hh => by
  obtain ⟨env, μ, ρ, eo, M, hh⟩ := hh
  refine tE_bind eo M hh fun x H1 p m ρ1 _ l1 e1 M1 r1 q1 => tE_bind e1 M1 q1 fun y H2 q m2 ρ2 _ l2 e2 M2 r2 q2 => ?_
  cases p with
  | tup l =>
    cases q with
    | tup k =>
      obtain ⟨a, xs, rfl, k1, k2⟩ := rep_tup (Rep.mono l2 _ _ r1)
      obtain ⟨b, ys, rfl, k3, k4⟩ := rep_tup r2
      exact ⟨a, b, xs, ys, rfl, .inr ⟨k1, k3, q2 (RZ.ItzT X.K a b) H2 ρ2 (.refl _ _ _) M2 (itOk_zipT k1 k2 k3 k4)⟩⟩
    | _ => exact q2.elim
  | ref n =>
    cases q with
    | ref k =>
      simp only at q2
      split at q2
      · rename_i l l' g1 g2
        obtain ⟨a, xs, rfl, k1, k2, _⟩ := getL_ref M2 (Rep.mono l2 _ _ r1) g1
        obtain ⟨b, ys, rfl, k3, k4, _⟩ := getL_ref M2 r2 g2
        obtain ⟨a', ha, e⟩ := rep_ref M2 (Rep.mono l2 _ _ r1)
        cases e
        obtain ⟨b', hb, e⟩ := rep_ref M2 r2
        cases e
        exact ⟨a, b, xs, ys, rfl, .inl ⟨k1, k3, q2 (Itz X.K a b) H2 ρ2 (.refl _ _ _) M2 (itOk_zipL ha hb)⟩⟩
      · exact q2.elim
    | _ => exact q2.elim
  | _ => cases q <;> exact q2.elim⟩
end
/-! ### comprehensions -/
section
variable {X : Cx} {E : XK} {tg iter elt : Expr} {ifs : List Expr} {scope : Scope} {pos : Pos}
structure PPTs (X : Cx) (E : XK) (ifs : List Expr) (f : Ex) : Prop where
  pt : PTs X ifs (tT X.K X.mg E f)
theorem ppts_nil : PPTs X E [] yes := ⟨⟨fun pins s σ H Q I h => pts_nil.run pins s σ H Q I (by
  obtain ⟨env, μ, ρ, eo, M, h⟩ := h
  exact Post.val (R := RB) (show Post X.K X.mg E RB H ρ Q (Res.ok true μ) from h) M rfl)⟩⟩
theorem ppts_one {e : Expr} {f : Ex} (h : PPT X E e f) : PPTs X E [e] f := ⟨pts_one h.pt⟩
theorem wipe_len (env : Env) : ∀ vs : List Nat, (PL.wipe env vs).length = env.length
  | [] => rfl
  | v :: vs => by unfold PL.wipe; rw [List.length_set, wipe_len env vs]
theorem EnvOk.wipe {K : PySem.W.Frag} {H : Hp} {ρ : List Addr} {env : Env} {σ : L2.St} (e : EnvOk K H ρ env σ) : ∀ vs : List Nat, EnvOk K H ρ (PL.wipe env vs) (L2.wipe σ vs)
  | [] => e
  | v :: vs => by
    have ih := EnvOk.wipe e vs
    refine ⟨by unfold PL.wipe L2.wipe; simp [ih.len], fun i p h => ?_⟩
    unfold PL.wipe at h
    unfold L2.wipe
    by_cases hv : v = i
    · subst hv
      by_cases hl : v < (PL.wipe env vs).length
      · rw [List.getElem?_set_self hl] at h; cases h
      · rw [List.getElem?_eq_none (by simpa using hl)] at h; cases h
    · rw [List.getElem?_set_ne hv] at h
      rw [List.getElem?_set_ne hv]
      exact ih.at' i p h
theorem wipe_at {α : Type} : ∀ (σ : List (Option α)) (vs : List Nat) (w : List (Option α) → List Nat → List (Option α)), (∀ σ, w σ [] = σ) → (∀ σ v vs, w σ (v :: vs) = (w σ vs).set v none) → ∀ j, (w σ vs)[j]? = if j ∈ vs ∧ j < σ.length then some none else σ[j]?
  | σ, [], w, h1, h2, j => by rw [h1]; simp
  | σ, v :: vs, w, h1, h2, j => by
    have ih := wipe_at σ vs w h1 h2
    have hl : ∀ us : List Nat, (w σ us).length = σ.length := fun us => by
      induction us with
      | nil => rw [h1]
      | cons u us ih => rw [h2, List.length_set, ih]
    rw [h2]
    by_cases e : v = j
    · subst e
      by_cases hv : v < σ.length
      · rw [List.getElem?_set_self (by rw [hl]; exact hv), if_pos ⟨by simp, hv⟩]
      · rw [List.getElem?_eq_none (by rw [List.length_set, hl]; omega), if_neg (fun z => hv z.2), List.getElem?_eq_none (by omega)]
    · rw [List.getElem?_set_ne e, ih j]
      by_cases hj : j ∈ vs ∧ j < σ.length
      · rw [if_pos hj, if_pos ⟨List.mem_cons_of_mem _ hj.1, hj.2⟩]
      · rw [if_neg hj, if_neg (fun z => hj ⟨(List.mem_cons.mp z.1).resolve_left (Ne.symm e), z.2⟩)]
theorem wipe_out {is vs : List Nat} {σ σ2 : L2.St} (h : OutOf is (L2.wipe σ vs) σ2) (hs : ∀ i ∈ is, i ∈ vs) : L2.wipe σ2 vs = L2.wipe σ vs := by
  have W := fun (σ : L2.St) j => wipe_at σ vs L2.wipe (fun _ => rfl) (fun _ _ _ => rfl) j
  have hl : σ2.length = σ.length := by rw [h.1, L2.wipe_length]
  apply List.ext_getElem?
  intro j
  rw [W, W]
  by_cases hj : j ∈ vs ∧ j < σ.length
  · rw [if_pos (by rw [hl]; exact hj), if_pos hj]
  · rw [if_neg (by rw [hl]; exact hj), if_neg hj]
    by_cases hv : j ∈ vs
    · have : σ.length ≤ j := by
        by_cases z : j < σ.length
        · exact absurd ⟨hv, z⟩ hj
        · omega
      rw [List.getElem?_eq_none (by omega), List.getElem?_eq_none this]
    · rw [h.2 j (fun z => hv (hs j z)), W, if_neg (fun z => hv z.1)]
theorem lc_read {K : PySem.W.Frag} {mg : Str → Option Value} {it : PL.It} {g : Tg} {is vs : List Nat} {ft fe : Ex} (hs : ∀ i ∈ is, i ∈ vs) {σ : L2.St} {H : Hp} {Q : VK} (h : tE K mg E (lc it g ft fe vs) σ H Q) :
    tLc (tI K mg E it) (tG K mg E is g) (tT K mg E ft) (tE K mg E fe) vs σ H Q := by
  obtain ⟨env, μ, ρ, eo, M, h⟩ := h
  refine ⟨env, μ, ρ, eo, M, (Post.bind (R := fun H' ρ' z J => ItOk K H' ρ' z J) h).imp fun J H1 ⟨z, m1, ρ1, _, l1, M1, hJ, q1⟩ => ?_⟩
  intro D hD
  obtain ⟨M1', L1'⟩ := M1.push (ho := .lst []) (o := .lst []) hD fun H' ρ' L e => ⟨[], e, .nil⟩
  have hn : (ρ1 ++ [D])[m1.length]? = some D := by rw [← M1.len, List.getElem?_append_right (Nat.le_refl _)]; simp
  refine ⟨fun i n H => n = z.items.length - i ∧ i ≤ z.items.length ∧ ∃ μ ρ, Lat K (upd H1 D (.lst [])) (ρ1 ++ [D]) H ρ ∧ EnvOk K H ρ env σ ∧ MemOk K H ρ μ ∧ Post K mg E (RP K) H ρ Q ((lcN z.lk g ft fe vs m1.length env (z.items.drop i) μ).bind fun _ μ2 => .ok (.ref m1.length) μ2),
    ⟨_, rfl, Nat.zero_le _, _, _, .refl _ _ _, eo.mono (l1.trans L1'), M1', q1.later L1'⟩, ?_⟩
  rintro i n H2 ⟨rfl, hi, μ2, ρ2, l2, e2, M2, q2⟩
  have nx : ∀ (H' : Hp) (μ' : Mem) (ρ' : List Addr), i < z.items.length → Lat K H2 ρ2 H' ρ' → MemOk K H' ρ' μ' → Post K mg E (RP K) H' ρ' Q ((lcN z.lk g ft fe vs m1.length env (z.items.drop (i + 1)) μ').bind fun _ μ2 => .ok (.ref m1.length) μ2) →
      ∃ μ ρ, Lat K (upd H1 D (.lst [])) (ρ1 ++ [D]) H' ρ ∧ EnvOk K H' ρ env σ ∧ MemOk K H' ρ μ ∧ Post K mg E (RP K) H' ρ Q ((lcN z.lk g ft fe vs m1.length env (z.items.drop (i + 1)) μ).bind fun _ μ2 => .ok (.ref m1.length) μ2) := fun H' μ' ρ' _ l M' q => ⟨μ', ρ', l2.trans l, e2.mono l, M', q⟩
  by_cases hlt : i < z.items.length
  · have hd : z.items.drop i = z.items[i] :: z.items.drop (i + 1) := List.drop_eq_getElem_cons hlt
    rw [hd] at q2
    unfold lcN at q2
    split at q2
    · rename_i hlk
      obtain ⟨go, yld⟩ := hJ.go H2 ρ2 μ2 i z.items[i] (L1'.trans l2) M2 hlk (List.getElem?_eq_getElem hlt)
      refine .inr ⟨go, fun H' => ∃ μ ρ, Lat K (upd H1 D (.lst [])) (ρ1 ++ [D]) H' ρ ∧ EnvOk K H' ρ env σ ∧ MemOk K H' ρ μ ∧ Post K mg E (RP K) H' ρ Q ((lcN z.lk g ft fe vs m1.length env (z.items.drop (i + 1)) μ).bind fun _ μ2 => .ok (.ref m1.length) μ2), fun H' hh => ⟨z.items.length - (i + 1), by omega, rfl, hlt, hh⟩, fun x H3 hy => ?_⟩
      obtain ⟨l3, M3, r3⟩ := yld x H3 hy
      refine ⟨PL.wipe env vs, μ2, ρ2, z.items[i], (e2.mono l3).wipe vs, M3, r3, ?_⟩
      rw [bind_bind] at q2
      refine (Post.bind (R := RG K is (L2.wipe σ vs)) (q2.later l3)).imp fun σ4 H4 ⟨env4, μ4, ρ4, _, l4, M4, ⟨e4, o4⟩, q4⟩ => ?_
      refine ⟨wipe_out o4 hs, ?_⟩
      rw [bind_bind] at q4
      simp only [bind_onB] at q4
      refine tT_bind (R' := RP K) (k1 := fun m => (((fe env4 m).bind fun q μ3 => match push1 m1.length q μ3 with
        | some μ4 => lcN z.lk g ft fe vs m1.length env (z.items.drop (i + 1)) μ4
        | none => .stuck).bind fun _ μ2 => Res.ok (PV.ref m1.length) μ2)) (k2 := fun m => (lcN z.lk g ft fe vs m1.length env (z.items.drop (i + 1)) m).bind fun _ μ2 => Res.ok (PV.ref m1.length) μ2) e4 M4 q4 fun t H5 μ5 ρ5 _ l5 e5 M5 q5 => ?_
      cases t with
      | false => exact nx H5 μ5 ρ5 hlt ((l3.trans l4).trans l5) M5 q5
      | true =>
        rw [if_pos rfl, bind_bind] at q5
        refine tE_bind e5 M5 q5 fun y H6 q μ6 ρ6 _ l6 e6 M6 r6 q6 => ?_
        have la : Lat K H2 ρ2 H6 ρ6 := ((l3.trans l4).trans l5).trans l6
        unfold push1 at q6
        cases e : μ6[m1.length]? with
        | none => rw [e] at q6; exact q6.elim
        | some o =>
          rw [e] at q6
          cases o with
          | lst acc =>
            simp only at q6
            by_cases hz : acc.length < SL
            · rw [if_pos hz] at q6
              have hn6 : ρ6[m1.length]? = some D := (l2.trans la).get hn
              obtain ⟨ys, k1, k2⟩ := M6.at' _ _ _ e hn6
              have L0 : Lat K H6 ρ6 (upd H6 D (.lst (ys ++ [y]))) ρ6 := ⟨⟨[], by simp⟩, .upd (fun xs q => by rw [k1] at q; cases q) fun ob xs q => by rw [k1] at q; cases q⟩
              obtain ⟨M7, L7⟩ := M6.set (ho := .lst (ys ++ [y])) (u := .lst (acc ++ [q])) e hn6 rfl ⟨ys ++ [y], upd_same, Reps.mono L0 _ _ (k2.append (.cons r6 .nil))⟩
              exact ⟨ys, k1, by rw [SL_eq, k2.length]; exact hz, nx _ _ ρ6 hlt (la.trans L7) M7 (Post.later q6 L7)⟩
            · rw [if_neg hz] at q6; exact q6.elim
          | _ => exact q6.elim
    · exact q2.elim
  · have e : i = z.items.length := by omega
    subst e
    rw [List.drop_eq_nil_of_le (Nat.le_refl _)] at q2
    unfold lcN at q2
    split at q2
    · rename_i hlk
      refine .inl ⟨hJ.stop H2 ρ2 μ2 (L1'.trans l2) M2 hlk, ?_⟩
      refine Post.val (R := RP K) (show Post K mg E (RP K) H2 ρ2 Q (Res.ok (.ref m1.length) μ2) from q2) M2 ?_
      show Rep K H2 ρ2 (.ref m1.length) (.ref D)
      simp only [Rep]
      exact ⟨D, l2.get hn, rfl⟩
    · exact q2.elim
/-- [elt for tg in iter if ..] as a value -/
theorem pp_lc {it : PL.It} {g : Tg} {is : List Nat} {ft fe : Ex} {own : List (Str × Nat)} (hc : X.calm = true) (hN : X.N.Nodup) (hi : PPI X E tg iter it) (ok : BlkOk X.N X.env.scope scope own)
    (hg : ∀ (s : Shared) (H : Hp) (C : Addr) (cl : List (Str × Addr)) (fp : List Addr), PPG (X.blk s H scope (compEnvC scope cl C X.env) fp) E tg is g) (ht : ∀ (s : Shared) (H : Hp) (C : Addr) (cl : List (Str × Addr)) (fp : List Addr), PPTs (X.blk s H scope (compEnvC scope cl C X.env) fp) E ifs ft)
    (he : ∀ (s : Shared) (H : Hp) (C : Addr) (cl : List (Str × Addr)) (fp : List Addr), PP (X.blk s H scope (compEnvC scope cl C X.env) fp) E elt fe) (hw : ∀ i ∈ is, i ∈ own.map (·.2) := by decide) (hs : ∀ x, foldedSetIterable iter X.env x = pure x := by intro _; rfl) :
    PP X E (.ListComp elt [⟨tg, iter, ifs, 0⟩] scope pos) (lc it g ft fe (own.map (·.2))) :=
  ⟨PE.imp (pe_lc hc hN hi.pi ok (fun s H C cl fp => (hg s H C cl fp).pg) (fun s H C cl fp => (ht s H C cl fp).pt) (fun s H C cl fp => (he s H C cl fp).pe) hs) fun _ _ _ h => lc_read hw h⟩
/-- name = [..] on one line -/
theorem pps_setLc (i : Nat) {y : Str} {py spos : Pos} {it : PL.It} {g : Tg} {is : List Nat} {ft fe : Ex} {own : List (Str × Nat)} (hc : X.calm = true) (hN : X.N.Nodup) (hi : PPI X E tg iter it) (ok : BlkOk X.N X.env.scope scope own)
    (hg : ∀ (s : Shared) (H : Hp) (C : Addr) (cl : List (Str × Addr)) (fp : List Addr), PPG (X.blk s H scope (compEnvC scope cl C X.env) fp) E tg is g) (ht : ∀ (s : Shared) (H : Hp) (C : Addr) (cl : List (Str × Addr)) (fp : List Addr), PPTs (X.blk s H scope (compEnvC scope cl C X.env) fp) E ifs ft)
    (he : ∀ (s : Shared) (H : Hp) (C : Addr) (cl : List (Str × Addr)) (fp : List Addr), PP (X.blk s H scope (compEnvC scope cl C X.env) fp) E elt fe) (hsw : swapsWith (.ListComp elt [⟨tg, iter, ifs, 0⟩] scope pos) (some (.Name y py)) spos.line X.env = pure true) (hy : X.N[i]? = some y := by rfl) (hyl : X.env.scope.names.lookup y = some .local := by rfl)
    (hw : ∀ i ∈ is, i ∈ own.map (·.2) := by decide) (hs : ∀ x, foldedSetIterable iter X.env x = pure x := by intro _; rfl) :
    PPs X E (.Assign [.Name y py] (.ListComp elt [⟨tg, iter, ifs, 0⟩] scope pos) spos) (setv i (lc it g ft fe (own.map (·.2)))) :=
  ⟨PS.imp (ps_setLc (i := i) hc hN hy hyl hsw hi.pi ok (fun s H C cl fp => (hg s H C cl fp).pg) (fun s H C cl fp => (ht s H C cl fp).pt) (fun s H C cl fp => (he s H C cl fp).pe) hs) fun D σ H h => by
    obtain ⟨env, μ, ρ, eo, M, h⟩ := h
    have h2 : tE X.K X.mg E (lc it g ft fe (own.map (·.2))) σ H (fun x H1 => gName i x σ H1 D.nx) := tE_of eo M h fun x H1 p m ρ1 _ l1 e1 M1 r1 q1 => ps_nxt (E := E) (mg := X.mg) q1 M1 (e1.set r1)
    exact lc_read hw h2⟩
end
end PL
end
section
set_option autoImplicit false
set_option Elab.async false
set_option linter.all false
set_option maxRecDepth 100000
set_option maxHeartbeats 1000000
/-! Defs, their calls, the law's end. -/
namespace PL
open PySem L2
section
variable {K : PySem.W.Frag} {mg : Str → Option Value} {E : XK} {H : Hp} {ρ : List Addr}
mutual
theorem rep_under : ∀ {p : PV} {x : V}, Rep K H ρ p x → p.under ρ.length = true
  | .non, _, _ => by simp only [PV.under]
  | .bl _, _, _ => by simp only [PV.under]
  | .int _, _, _ => by simp only [PV.under]
  | .str _, _, _ => by simp only [PV.under]
  | .cst _, _, _ => by simp only [PV.under]
  | .tup l, _, h => by
    obtain ⟨a, xs, _, _, h3⟩ := rep_tup h
    simp only [PV.under]
    exact reps_under h3
  | .ref n, _, h => by
    simp only [Rep] at h
    obtain ⟨a, h1, _⟩ := h
    simp only [PV.under, decide_eq_true_eq]
    exact (List.getElem?_eq_some_iff.mp h1).1
theorem reps_under : ∀ {ps : List PV} {xs : List V}, Reps K H ρ ps xs → PV.unders ρ.length ps = true
  | [], _, _ => by simp only [PV.unders]
  | p :: ps, _, h => by
    obtain ⟨y, ys, _, h1, h2⟩ := Reps.cons_iff.mp h
    simp only [PV.unders, rep_under h1, reps_under h2, Bool.and_self]
end
mutual
theorem rep_shrink {t : List Addr} : ∀ {p : PV} {x : V}, Rep K H (ρ ++ t) p x → p.under ρ.length = true → Rep K H ρ p x
  | .non, _, h, _ => by simpa only [Rep] using h
  | .bl _, _, h, _ => by simpa only [Rep] using h
  | .int _, _, h, _ => by simpa only [Rep] using h
  | .str _, _, h, _ => by simpa only [Rep] using h
  | .cst _, _, h, _ => by simpa only [Rep] using h
  | .tup l, _, h, u => by
    obtain ⟨a, xs, h1, h2, h3⟩ := rep_tup h
    simp only [PV.under] at u
    simp only [Rep]
    exact ⟨a, xs, h1, h2, reps_shrink h3 u⟩
  | .ref n, _, h, u => by
    simp only [Rep] at h ⊢
    simp only [PV.under, decide_eq_true_eq] at u
    obtain ⟨a, h1, h2⟩ := h
    rw [List.getElem?_append_left u] at h1
    exact ⟨a, h1, h2⟩
theorem reps_shrink {t : List Addr} : ∀ {p : List PV} {x : List V}, Reps K H (ρ ++ t) p x → PV.unders ρ.length p = true → Reps K H ρ p x
  | [], _, h, _ => by simpa only [Reps] using h
  | p :: ps, _, h, u => by
    obtain ⟨y, ys, rfl, h1, h2⟩ := Reps.cons_iff.mp h
    simp only [PV.unders, Bool.and_eq_true] at u
    exact .cons (rep_shrink h1 u.1) (reps_shrink h2 u.2)
end
theorem repK_vals {κ : Type} : ∀ {l : List (κ × PV)} {xs : List (κ × V)}, RepK K H ρ l xs → Reps K H ρ (l.map (·.2)) (xs.map (·.2)) ∧ l.map (·.1) = xs.map (·.1)
  | [], xs, h => by
    have : xs = [] := h
    subst this
    exact ⟨.nil, rfl⟩
  | p :: ps, xs, h => by
    obtain ⟨y, ys, rfl, h1, h2⟩ := h
    obtain ⟨h3, h4⟩ := repK_vals h2
    exact ⟨.cons h1 h3, by simp [h4]⟩
theorem repK_shrink {κ : Type} {t : List Addr} : ∀ {l : List (κ × PV)} {xs : List (κ × V)}, RepK K H (ρ ++ t) l xs → PV.unders ρ.length (l.map (·.2)) = true → RepK K H ρ l xs
  | [], xs, h, _ => h
  | p :: ps, xs, h, u => by
    obtain ⟨y, ys, rfl, h1, h2⟩ := h
    simp only [List.map_cons, PV.unders, Bool.and_eq_true] at u
    exact ⟨y, ys, rfl, rep_shrink h1 u.1, repK_shrink h2 u.2⟩
theorem repO_under {o : PO} {a : Addr} (h : RepO K H ρ o a) : o.under ρ.length = true := by
  cases o with
  | lst l => obtain ⟨xs, _, h⟩ := h; exact reps_under h
  | ro l => obtain ⟨xs, _, h⟩ := h; exact reps_under h
  | dct l => obtain ⟨xs, _, h⟩ := h; exact reps_under (repK_vals h).1
  | dtt l => obtain ⟨xs, _, h⟩ := h; exact reps_under (repK_vals h).1
  | rtt l => obtain ⟨od, xs, _, h⟩ := h; exact reps_under (repK_vals h).1
theorem repO_shrink {t : List Addr} {o : PO} {a : Addr} (h : RepO K H (ρ ++ t) o a) (u : o.under ρ.length = true) : RepO K H ρ o a := by
  cases o with
  | lst l => obtain ⟨xs, e, h⟩ := h; exact ⟨xs, e, reps_shrink h u⟩
  | ro l => obtain ⟨xs, e, h⟩ := h; exact ⟨xs, e, reps_shrink h u⟩
  | dct l => obtain ⟨xs, e, h⟩ := h; exact ⟨xs, e, repK_shrink h u⟩
  | dtt l => obtain ⟨xs, e, h⟩ := h; exact ⟨xs, e, repK_shrink h u⟩
  | rtt l => obtain ⟨od, xs, e, h⟩ := h; exact ⟨od, xs, e, repK_shrink h u⟩
theorem Post.gc {Q : VK} {μ : Mem} {r : Res PV} (h : Post K mg E (RP K) H ρ Q (gc μ r)) (M : MemOk K H ρ μ) : Post K mg E (RP K) H ρ Q r := by
  cases r with
  | ok p m =>
    intro x H' ρ' l M' rx
    unfold PL.gc at h
    simp only at h
    split at h
    · rename_i hg
      obtain ⟨g1, g2, g3⟩ := hg
      obtain ⟨t, rfl⟩ := l.pre
      have l' : Lat K H ρ H' ρ := ⟨⟨[], by simp⟩, l.keep⟩
      have hl := M.len
      refine h x H' ρ l' ⟨by simp; omega, fun n o a hn ha => ?_, fun n k a o u hn hk ho hu mo mu => ?_⟩ (rep_shrink rx (by rw [hl]; exact g2))
      · have hlt : n < μ.length := by
          have := (List.getElem?_eq_some_iff.mp ha).1
          omega
        rw [List.getElem?_take, if_pos hlt] at hn
        have r1 := M'.at' n o a hn (by rw [List.getElem?_append_left (by omega)]; exact ha)
        refine repO_shrink r1 ?_
        rcases g3 n hlt with e | ⟨o', e, ho'⟩
        · rw [hn] at e
          exact repO_under (M.at' n o a e.symm ha)
        · rw [hn] at e
          cases e
          rw [hl]
          exact ho'
      · have k1 : n < μ.length := by have := (List.getElem?_eq_some_iff.mp hn).1; omega
        have k2 : k < μ.length := by have := (List.getElem?_eq_some_iff.mp hk).1; omega
        rw [List.getElem?_take, if_pos k1] at ho
        rw [List.getElem?_take, if_pos k2] at hu
        exact M'.inj n k a o u (by rw [List.getElem?_append_left (by omega)]; exact hn) (by rw [List.getElem?_append_left (by omega)]; exact hk) ho hu mo mu
    · exact h x H' ρ' l M' rx
  | exc x m => exact h
  | stuck => exact h
end
/-- what a def promises by its pure function -/
def spP (K : PySem.W.Frag) (mg : Str → Option Value) (n : Nat) (m : Fn) : Sp := fun vs H Q E => ∃ args μ ρ, args.length = n ∧ MemOk K H ρ μ ∧ Reps K H ρ args vs ∧ Post K mg E (RP K) H ρ Q (m args μ)
/-- a def keeps its promise where the guards of repr are known -/
structure FnG (P : Program) (w : World) (K : PySem.W.Frag) (mg : Str → Option Value) (base : Heap) (CX : CXT) (k : Nat) (f : Addr) (fd : FuncData) (ps : List Str) (sp : Sp) : Prop where
  len : ∀ vs H Q E, sp vs H Q E → vs.length = ps.length
  run : ∀ (A : Around) (outer : List PySem.Env) (s : Shared) (H : Hp) (args : Args) (us : List Value) (vs : List V) (Q : VK) (E : XK), Room k A → A.guards = some [] → Env0 P w K mg base A outer s H → BindsTo s fd args (ps.zip us) → Vals vs us → sp vs H Q E →
    codeAny (model P w) A (.call (.ref f) args) (CR CX outer P w H s Q E) s
theorem fnG_of {CX : CXT} {P : Program} {w : World} {K : PySem.W.Frag} {mg : Str → Option Value} {base : Heap} {k : Nat} {f : Addr} {name qual : Str} {params : Arguments} {body : List Stmt} {scope : Scope} {dV kV doc pm cdv ct oc : Value} {an od : Option Addr}
    {osl : Array (Option Value)} {N ps : List Str} {sp : Sp} (lk : K.lookup f = some ⟨oc, od, .func (PySem.W.fnOf name qual params body scope dV kV doc pm an cdv ct), osl⟩) (hcd : PySem.W.codeIn K cdv qual = true) (S : FnScope N ps scope)
    (len : ∀ vs H Q E, sp vs H Q E → vs.length = ps.length)
    (hbody : ∀ (A : Around) (outer : List PySem.Env) (s : Shared) (H : Hp) (vs : List V) (Q : VK) (E : XK), Room k (A.deeper (PyProof.Rows.envOfC qual scope s.heap.objs.size f cdv)) → A.guards = some [] → sp vs H Q E →
      ∃ t, PSs (cxOf CX P w K mg base N qual scope f cdv A outer s H E) body t ∧ t { nx := fun _ H' => Q .non H', rt := Q } (L2.start N vs) H) :
    FnG P w K mg base CX (k + 1) f (PySem.W.fnOf name qual params body scope dV kV doc pm an cdv ct) ps sp := by
  refine ⟨len, fun A outer s H args us vs Q E hr hgd e0 hb r hsp => ?_⟩
  have hl := len _ _ _ _ hsp
  have KX : K.In s.heap := e0.mod.kin.keeps fun b o e => (e0.bs b o e).1
  have lim : s.heap.NoLimit := e0.mod.nolimit.keeps fun b o e => (e0.bs b o e).1
  have hkind : ∀ y ∈ ps.zip us, scope.names.lookup y.1 = some .local ∨ (scope.names.lookup y.1 = some .cell ∧ ((cellsFrom (s.heap.objs.size + 1) scope.names []).lookup y.1).isSome = true) := fun ⟨n, v⟩ hy => by
    rcases S.par n (List.of_mem_zip hy).1 with q | q
    · exact .inl q
    · exact .inr ⟨q, PySem.W.cellsFrom_some _ _ _ (.inl q)⟩
  refine codeAny_call_function hr.depth (KX _ _ lk) rfl S.co S.gen rfl (PySem.W.codeRec_of KX hcd) (hb _ _ _ _ ?_)
  refine wpAny_newFunctionEnv_cells S.kind hkind fun env he s1 x => ?_
  subst he
  refine ⟨lim.keeps x.toInCall.keep, codeAny_func ?_⟩
  obtain ⟨t, ht, hq⟩ := hbody A outer s H vs Q E (hr.deeper _) hgd hsp
  have I : Inv (cxOf CX P w K mg base N qual scope f cdv A outer s H E) [] (L2.start N vs) H s1 := inv_start S hr.hd e0 hl r x
  refine wpAny_mono (ht.run [] s1 (L2.start N vs) H _ I hq) (fun fl s' hs => ?_) fun e s' hs => hs
  have fin : ∀ {σ' : L2.St} {H' : Hp} {v : V} {u : Value}, Inv (cxOf CX P w K mg base N qual scope f cdv A outer s H E) [] σ' H' s' → RelV v u → Q v H' → CE outer P w H s Q u s' :=
    fun {σ' H' v u} J rv q => ⟨v, H', J.os, J.bare, J.base, J.hok, rv, q⟩
  cases fl with
  | ret u =>
    obtain ⟨v, σ', H', J, rv, q⟩ := hs
    exact fin J rv q
  | next =>
    obtain ⟨σ', H', J, q⟩ := hs
    exact fin (v := V.non) (u := Value.none) J rfl q
  | brk =>
    obtain ⟨_, _, _, q⟩ := hs
    exact False.elim q
  | cont =>
    obtain ⟨_, _, _, q⟩ := hs
    exact False.elim q
/-- the def st of the module under the name x does what the pure m says -/
structure FnM (P : Program) (w : World) (K : PySem.W.Frag) (mg : Str → Option Value) (base : Heap) (CX : CXT) (k : Nat) (x : Str) (st : Stmt) (ps : List Str) (m : Fn) : Prop where
  ex : ∃ (f : Addr) (fd : FuncData) (qual : Str), L2.Fun K x qual st f fd ∧ mg x = some (.ref f) ∧ FnG P w K mg base CX k f fd ps (spP K mg ps.length m)
theorem start_env {K : PySem.W.Frag} {H : Hp} {ρ : List Addr} {N : List Str} {args : List PV} {vs : List V} {n : Nat} (hn : N.length = n) (r : Reps K H ρ args vs) : EnvOk K H ρ (args.map some ++ List.replicate (n - args.length) none) (L2.start N vs) := by
  refine ⟨by simp [L2.start, r.length, hn], fun i p h => ?_⟩
  unfold L2.start
  by_cases hi : i < args.length
  · rw [List.getElem?_append_left (by simpa using hi)] at h
    rw [List.getElem?_map] at h
    cases e : args[i]? with
    | none => rw [e] at h; cases h
    | some q =>
      rw [e] at h
      simp only [Option.map_some, Option.some.injEq] at h
      subst h
      obtain ⟨x, h1, h2⟩ := r.get e
      refine ⟨x, ?_, h2⟩
      rw [List.getElem?_append_left (by simp [r.length]; exact hi), List.getElem?_map, h1]
      rfl
  · rw [List.getElem?_append_right (by simpa using hi)] at h
    have := List.getElem?_replicate (n := n - args.length) (a := (none : Option PV)) (i := i - (args.map some).length)
    rw [this] at h
    split at h <;> cases h
/-- A DEF: its body as a pure statement -/
theorem fn_pure {P : Program} {w : World} {K : PySem.W.Frag} {mg : Str → Option Value} {base : Heap} {k n : Nat} {x qual : Str} {st : Stmt} {f : Addr} {fd : FuncData} {N ps : List Str} {b : Sm} (F : L2.Fun K x qual st f fd) (hm : mg x = some (.ref f)) (S : FnScope N ps (defScope st)) (hn : N.length = n)
    (body : ∀ (cdv : Value) (A : Around) (outer : List PySem.Env) (s : Shared) (H : Hp) (E : XK), Room k (A.deeper (PyProof.Rows.envOfC qual (defScope st) s.heap.objs.size f cdv)) → A.guards = some [] →
      PPb (cxOf CX0 P w K mg base N qual (defScope st) f cdv A outer s H E).nox E (defBody st) b) : FnM P w K mg base CX0 (k + 1) x st ps (fn n b) := by
  refine ⟨f, fd, qual, F, hm, ?_⟩
  obtain ⟨oc, od, kV, doc, pm, an, cdv, ct, osl, rfl, lk, hcd⟩ := F.ex
  refine fnG_of lk hcd S (fun vs H Q E h => ?_) fun A outer s H vs Q E hr hg hsp => ?_
  · obtain ⟨args, μ, ρ, hl, _, r, _⟩ := h
    rw [r.length, hl]
  · refine ⟨_, (body cdv A outer s H E hr hg).ps.nox, ?_⟩
    obtain ⟨args, μ, ρ, hl, M, r, h⟩ := hsp
    refine ⟨_, μ, ρ, start_env hn r, M, ?_⟩
    have h2 : Post K mg E (RP K) H ρ Q (run n b args μ) := Post.gc h M
    unfold run at h2
    show PostS K mg E H ρ _ (b (args.map some ++ List.replicate (n - args.length) none) μ)
    cases e : b (args.map some ++ List.replicate (n - args.length) none) μ with
    | nx env m => rw [e] at h2; exact fun σ' H' ρ' l M' _ => h2 .non H' ρ' l M' rnon
    | rt p m => rw [e] at h2; exact fun x H' ρ' l M' r' => h2 x H' ρ' l M' r'
    | bk env m => rw [e] at h2; exact h2.elim
    | ct env m => rw [e] at h2; exact h2.elim
    | exc x m => rw [e] at h2; exact h2
    | stuck => rw [e] at h2; exact h2.elim
section
variable {X : Cx} {E : XK} {CX : CXT} {k : Nat} {e : Expr} {es : List Expr} {pos : Pos} {m : Fn} {ps : List Str} {st : Stmt}
theorem run_fnG {f : Addr} {fd : FuncData} {args : Args} {pins : List (Addr × Obj)} {σ : L2.St} {H : Hp} {s : Shared} {Q : VK} {us : List Value} {vs : List V} {sp : Sp} (F : FnG X.prog X.w X.K X.mg X.base CX k f fd ps sp) (hr : Room k X.A) (hgd : X.A.guards = some []) (hb : BindsTo s fd args (ps.zip us)) (hx : Passes CX X E)
    (I : Inv X pins σ H s) (r : Vals vs us) (h : sp vs H Q E) : codeAny (model X.prog X.w) X.A (.call (.ref f) args) (fun r s' => match r with | .ok (.ret u) => EP X pins σ Q u s' | .ok _ => False | .error e => X.xe e s') s := by
  refine codeAny_mono (F.run X.A X.stack s H args us vs Q E hr hgd I.env0 hb r h) fun r s' hq => ?_
  cases r with
  | error e => exact hx pins σ H s e s' I hq
  | ok fl =>
    cases fl with
    | ret u => exact I.after hq
    | next => exact False.elim hq
    | brk => exact False.elim hq
    | cont => exact False.elim hq
theorem call_fnG {f : Addr} {fd : FuncData} {pins : List (Addr × Obj)} {σ : L2.St} {H : Hp} {s : Shared} {Q : VK} {us pus : List Value} {kw : List (Str × Value)} {vs : List V} {sp : Sp} (F : FnG X.prog X.w X.K X.mg X.base CX k f fd ps sp) (hr : Room k X.A) (hgd : X.A.guards = some []) (hb : BindsTo s fd ⟨pus, kw⟩ (ps.zip us)) (hx : Passes CX X E)
    (I : Inv X pins σ H s) (r : Vals vs us) (h : sp vs H Q E) : wpAny (model X.prog X.w) X.A (call (.ref f) pus kw) (EP X pins σ Q) X.xe s :=
  wpAny_call (codeAny_mono (run_fnG F hr hgd hb hx I r h) fun r s' hq => by
    cases r with
    | error e => exact hq
    | ok fl =>
      cases fl with
      | ret u => exact hq
      | next => exact False.elim hq
      | brk => exact False.elim hq
      | cont => exact False.elim hq)
/-- how a def's positional arguments bind -/
def Bd (x : Str) (st : Stmt) (ps : List Str) : Prop := ∀ (qual : Str) (kV doc pm : Value) (an : Option Addr) (cdv ct : Value) (us : List Value), us.length = ps.length → bindArgs (PySem.W.fnOf x qual (defArgs st) (defBody st) (defScope st) .none kV doc pm an cdv ct) ⟨us, []⟩ = pure (ps.zip us)
theorem pp_call {x : Str} {g : Ag} {p : Pos} {j : Nat} (F : FnM X.prog X.w X.K X.mg X.base CX j x st ps m) (B : Bd x st ps) (hr : Room k X.A) (hj : j ≤ k) (hgd : X.A.guards = some []) (hx : Passes CX X E) (ha : PPA X E (e :: es) g) (hl : (e :: es).length = ps.length := by rfl) (hg : Gl X x := by rfl) (hdb : (x == ("__debug__" : Str)) = false := by decide)
    (he : starEach (e :: es) X.env = (false, eval e X.env) :: starEach es X.env := by rfl) (hpl : (backTo pos (starEach es X.env)).any (·.1) = false := by rfl) : PP X E (.Call (.Name x p) (e :: es) [] pos) (app m g) := ⟨⟨fun pins s σ H Q I h => by
  obtain ⟨f, fd, qual, FF, hm, G⟩ := F.ex
  obtain ⟨env, μ, ρ, eo, M, h⟩ := h
  have h1 : tA X.K X.mg E g σ H (fun vs H1 => spP X.K X.mg ps.length m vs H1 Q E) := tA_bind eo M h fun xs H1 as μ1 ρ1 eg l1 e1 M1 r1 q1 => ⟨as, μ1, ρ1, by rw [ha.len _ _ _ _ eg, hl], M1, r1, q1⟩
  refine wpAny_Call_Name_kw (ld_glob I hg hm ?_ hdb)
  refine PySem.W.callWith_K (h₀ := X.base) I.ok.mod.kin FF.kp (thn (ha.pa.run pos pins s σ H _ I h1) fun us s1 ⟨vs, H1, I1, r, q⟩ => ⟨I1.kIn, ?_⟩) he hpl
  have hl2 : us.length = ps.length := by rw [← r.length]; exact G.len _ _ _ _ q
  obtain ⟨oc, od, kV, doc, pm, an, cdv, ct, osl, rfl, lk, hcd⟩ := FF.ex
  exact call_fnG G (hr.mono hj) hgd (.of_eq (B qual kV doc pm an cdv ct us hl2)) hx I1 r q⟩⟩
end
end PL
end
section
set_option autoImplicit false
set_option Elab.async false
set_option linter.all false
set_option maxRecDepth 100000
set_option maxHeartbeats 2000000
/-! enumerate of a tuple. -/
namespace PL
section
open PySem
open PySem.Sem (wp)
open PySem.AutoSeq1 (wpAny_loadPart')
theorem meets_enumT (l : Addr) (items : Array Value) (n : Nat) (dct : Option Addr) (sl : Array (Option Value)) :
    Meets (Builtin.«enumerate.__new__» ⟨[.type "enumerate", .ref l], []⟩) (fun _ R s => s.heap.get? l = some { cls := .type "tuple", dict := dct, data := .seq items n, slots := sl } ∧
      R (.ok (.ret (.ref (s.heap.push { cls := .type "tuple_iterator", data := .fields #[.ref l, .int 0 0] }).objs.size)))
        { s with heap := (s.heap.push { cls := .type "tuple_iterator", data := .fields #[.ref l, .int 0 0] }).push { cls := .type "enumerate", data := .fields #[.none, .bool false, .ref s.heap.objs.size, rawInt 0, .none, .none] } }) :=
  .of_wp fun prog w A R s h => by
    obtain ⟨hp, g, d, tk, os⟩ := s; obtain ⟨hl, h⟩ := h
    have hsub := sub_enumerate
    have hL : Heap.IsTuple (Shared.heap ⟨hp, g, d, tk, os⟩) l items := ⟨_, hl, rfl, n, rfl⟩
    wp_walk using wpAny_loadPart' hl
    refine wpAny_stack_any fun st => wpAny_pure ?_
    split
    · rename_i c _ _ _ _ _
      cases (c == Value.type "enumerate")
      · wp_walk using wpAny_loadPart' hl, wpAny_pyIter_tuple hL
        exact ⟨_, rfl, h⟩
      · wp_walk using wpAny_loadPart' hl, wpAny_pyIter_tuple hL
        exact ⟨_, rfl, h⟩
    · wp_walk using wpAny_loadPart' hl, wpAny_pyIter_tuple hL
      exact ⟨_, rfl, h⟩
section
variable {prog : Program} {w : World} {A : Around} {E : Value → Shared → Prop} {s : Shared}
theorem call_enumT {l : Addr} {items : Array Value} {Q : Value → Shared → Prop} (hL : s.heap.IsTuple l items)
    (h : ∀ h', IsEnum h' (s.heap.objs.size + 1) s.heap.objs.size 0 .none → h'.IsTupleIter s.heap.objs.size l 0 → h'.objs.size = s.heap.objs.size + 2 →
      (∀ b o, s.heap.get? b = some o → h'.get? b = some o) → Q (.ref (s.heap.objs.size + 1)) { s with heap := h' }) :
    wpAny (model prog w) A (call (.type "enumerate") [.ref l]) Q E s := by
  obtain ⟨⟨c, dct, dt, sl⟩, hl, hc, n, hd⟩ := hL
  replace hc : c = .type "tuple" := hc
  replace hd : dt = .seq items n := hd
  subst hc hd
  refine callType_new F.called_enumerate (by decide) (F.typeCall_enumerate_1 _) (F.newCall_enumerate_1 _) (fun obj => F.args_object_init_2 obj _) F.entry_enumerate_new
    (meets_enumT l items n dct sl) ⟨hl, ?_⟩
  have hz : (s.heap.push { cls := .type "tuple_iterator", data := .fields #[.ref l, .int 0 0] }).objs.size = s.heap.objs.size + 1 := Heap.size_push ..
  show _ ∧ _
  rw [hz]
  have he : IsEnum ((s.heap.push { cls := .type "tuple_iterator", data := .fields #[.ref l, .int 0 0] }).push
      { cls := .type "enumerate", data := .fields #[.none, .bool false, .ref s.heap.objs.size, rawInt 0, .none, .none] }) (s.heap.objs.size + 1) s.heap.objs.size 0 .none := by
    have := Heap.get?_push_size (s.heap.push { cls := .type "tuple_iterator", data := .fields #[.ref l, .int 0 0] })
      (o := { cls := .type "enumerate", data := .fields #[.none, .bool false, .ref s.heap.objs.size, rawInt 0, .none, .none] }) rfl
    rw [hz] at this; exact this
  refine ⟨⟨_, he, rfl⟩, h _ he ⟨_, Heap.get?_push_of_some _ (Heap.get?_push_size _ rfl), rfl, rfl⟩ (by rw [Heap.size_push, hz]) fun b o x => Heap.get?_push_of_some _ (Heap.get?_push_of_some _ x)⟩
theorem enum_endT {e it l : Addr} {i : Nat} {items : Array Value} {old : Value} {Q : Option Value → Shared → Prop} (hh : A.handled = none)
    (he : IsEnum s.heap e it i old) (hit : s.heap.IsTupleIter it l i) (hl : s.heap.IsTuple l items) (hx : items[i]? = none)
    (hQ : ∀ h', Heap.ExtBut it s.heap h' → Q none { s with heap := h' }) : wpAny (model prog w) A (pyNext (.ref e)) Q E s := by
  have hT : s.TypeIs (.ref e) "enumerate" := ⟨_, he, rfl⟩
  unfold pyNext
  refine wpAny_bind (wpAny_attempt (wpAny_callSpecial?_slot (name := Str.ofString "__next__") hT F.slot_enumerate_next
    (wpAny_call_entry F.slot_enumerate_next hT F.entry_enumerate_next ?_ (F.args_enumerate_next_1 _))))
  show wpAny _ _ (field (.ref e) 2 >>= _) _ _ _
  refine wpAny_bind (wpAny_field he rfl (x := .ref it) rfl ?_)
  refine wpAny_bind (wpAny_nextOf_tuple_end hh hit hl hx fun h' x he' hx' => ?_)
  obtain ⟨o, ho, hc⟩ := hx'
  refine wpAny_bind (wpAny_isInstance (T := "StopIteration") (b := true) ⟨o, ho, hc⟩ isSubtype_stop ?_)
  exact wpAny_pure (hQ _ he')
end
end
section
open PySem PySem.Spec PyProof.Rows L2
/-- the tuple at a at each turn, each item in a new pair -/
def IteT (K : PySem.W.Frag) (a : Addr) : L2.It :=
  ⟨fun i H => ∃ (xs : List V) (x : V), SqT K H a xs ∧ xs[i]? = some x, fun i H v H' => ∃ T x, v = .ref T ∧ H T = none ∧ H' = upd H T (.tup [.int (i : Nat), x]) ∧ ∀ xs, SqT K H a xs → xs[i]? = some x, fun i H => ∃ xs : List V, SqT K H a xs ∧ xs.length ≤ i⟩
theorem turn_enumT {P : Program} {w : World} {K : PySem.W.Frag} {elts : List Expr} {kk : Nat} {tpos : Pos} (a e it : Addr) :
    Turn P w K (.Tuple elts kk tpos) (IteT K a) [e, it] e (fun i h => (∃ old, IsEnum h e it ((i : Nat) : Int) old) ∧ h.IsTupleIter it a i ∧ e ≠ it ∧ e ≠ a ∧ it ≠ a) where
  mem := by simp
  obj := fun i h st b hb => by
    obtain ⟨⟨old, he⟩, ⟨o, ho, hc, hd⟩, _⟩ := st
    have e' : b = e ∨ b = it := by simpa using hb
    rcases e' with z | z
    · rw [z]; exact ⟨_, he, fun v q => nomatch q⟩
    · rw [z]; exact ⟨o, ho, fun v q => by rw [hd] at q; cases q⟩
  keep := fun i h h' st k => let ⟨⟨old, he⟩, hi, hne⟩ := st; ⟨⟨old, k e (by simp) _ he⟩, hi.at fun o q => k it (by simp) o q, hne⟩
  item := by
    intro X hP hw hK hc i pins s σ H E I hf st hg
    subst hP hw hK
    obtain ⟨⟨old, he⟩, hit, hne, hea, hia⟩ := st
    obtain ⟨xs, x, hq, hx⟩ := hg
    obtain ⟨its, rv, p, hz⟩ := I.tuple hq
    obtain ⟨u, hu, ru⟩ := rv.get hx
    have hel : e < s.heap.objs.size := Heap.lt_size he
    have hil : it < s.heap.objs.size := by obtain ⟨_, q, _⟩ := hit; exact Heap.lt_size q
    have hlt : i < its.toArray.size := by
      have := (List.getElem?_eq_some_iff.mp hu).1
      simpa using this
    refine wpAny_pyNext_enum_itemD (Draws.tuple (A := X.A.in1) (show X.A.in1.handled = none from I.ok.hd hc) it a (Ne.symm hia) its.toArray) he ⟨hit, p⟩ hlt hne (by simp [hne, hea]) fun y h' tk hy ho hst' hT hsz hk => ?_
    obtain rfl : y = u := by
      have h1 : its[i]? = some y := by simpa using hy
      rw [hu] at h1
      exact (Option.some.inj h1).symm
    refine ⟨_, rfl, wpAny_letOwnedTupleGo_enum (s := { s with heap := h', toks := tk + 1 }) ho fun h'' he' sb => ?_⟩
    have hT2 : h''.get? s.heap.objs.size = some { cls := .type "tuple", data := .seq #[.int i tk, y] } := (sb.2 _ (Nat.ne_of_gt hel)).trans hT
    have new : ObjOk X.prog X.w (upd H s.heap.objs.size (.tup [.int (i : Nat), x])) h'' s.heap.objs.size (.tup [.int (i : Nat), x]) :=
      ⟨by show 2 ≤ sizeLine; decide, [.int i tk, y], .cons ⟨_, rfl⟩ (.cons ru .nil), ⟨_, hT2, rfl, _, rfl⟩⟩
    have I1 : Inv X pins σ (upd H s.heap.objs.size (.tup [.int (i : Nat), x])) { s with heap := h'', toks := tk + 1 } :=
      I.turnedNew (ch := [e, it]) (fun b ob hb q => (sb.2 b (fun z => hb (by simp [z]))).trans (hk b ob (fun z => hb (by simp [z])) (fun z => hb (by simp [z])) q)) hf (Nat.le_refl _) new
    refine ⟨.ref s.heap.objs.size, _, I1, rfl, ⟨_, x, rfl, I.hok.fresh (Nat.le_refl _), rfl, fun ys hy => by rw [I.tuple_inj hy hq]; exact hx⟩, ⟨⟨y, ?_⟩, hst'.1.at fun o q => (sb.2 it (Ne.symm hne)).trans q, hne, hea, hia⟩, fun b hb => ?_⟩
    · have e1 : ((i + 1 : Nat) : Int) = (i : Int) + 1 := by omega
      rw [e1]; exact he'
    · have hb' : b < s.heap.objs.size := by
        have e' : b = e ∨ b = it := by simpa using hb
        rcases e' with z | z
        · rw [z]; exact hel
        · rw [z]; exact hil
      rw [upd_ne (Nat.ne_of_lt hb')]
      exact (hf b hb).1
  done := by
    intro X hP hw hK hc i pins s σ H E I hf st hg
    subst hP hw hK
    obtain ⟨⟨old, he⟩, hit, hne, hea, hia⟩ := st
    obtain ⟨xs, hq, hx⟩ := hg
    obtain ⟨its, rv, p, hz⟩ := I.tuple hq
    obtain ⟨f0, f1, f2, f3, f4, f5⟩ := hf it (by simp)
    have hl := rv.length
    exact enum_endT (I.ok.hd hc) he hit p (by simp; omega) fun h' eb => ⟨rfl, I.turned (t' := s.toks) (fun b o hb q => eb b o hb q) f0 f1 f3 f4 f5⟩
  self := fun A i s Q E st h => let ⟨⟨_, he⟩, _⟩ := st; wpAny_pyIter_enum he h
def iEnumT (K : PySem.W.Frag) (ta : TA) : TI := fun σ H R => ta σ H fun vs H1 => ∃ a xs, vs = [.ref a] ∧ SqT K H1 a xs ∧ R (IteT K a) H1
theorem pi_enumT {X : Cx} {e : Expr} {ta : TA} {p pos tpos : Pos} {elts : List Expr} {kk : Nat} (hg : Gl X "enumerate") (hm : X.mg "enumerate" = none) (ha : PA X [e] ta) (hs : starEach [e] X.env = [(false, eval e X.env)] := by rfl) :
    PI X (.Tuple elts kk tpos) (.Call (.Name "enumerate" p) [e] [] pos) (iEnumT X.K ta) := by
  refine ⟨fun pins s σ H R I h => ?_⟩
  refine Call_ (ld_blt I hg hm boot_enumerate (PyProof.Rows.callWith_type1 (thn (ha.run pos pins s σ H _ I h) fun us s1 ⟨vs, H1, I1, r1, q1⟩ => ?_) hs rfl))
  obtain ⟨a, xs, ex, hq, q⟩ := q1
  subst ex
  cases r1 with
  | cons r rr =>
    cases rr
    cases r
    obtain ⟨its, rv, p', hz⟩ := I1.tuple hq
    have hlt : a < s1.heap.objs.size := by obtain ⟨o, h1, _⟩ := p'; exact Heap.lt_size h1
    refine call_enumT p' fun h' he hit hsz hk => wpAny_pyIter_enum he ?_
    have I2 : Inv X pins σ H1 { s1 with heap := h' } := I1.kept (t' := s1.toks) hk
    refine ⟨s1.heap.objs.size + 1, [s1.heap.objs.size + 1, s1.heap.objs.size], _, _, H1, rfl, I2, turn_enumT a (s1.heap.objs.size + 1) s1.heap.objs.size, ⟨⟨.none, he⟩, hit, Nat.succ_ne_self _, Nat.ne_of_gt (Nat.lt_succ_of_lt hlt), Nat.ne_of_gt hlt⟩, fun b hb => ?_, q⟩
    have e' : b = s1.heap.objs.size + 1 ∨ b = s1.heap.objs.size := by simpa using hb
    have hle : s1.heap.objs.size ≤ b := by
      rcases e' with z | z
      · rw [z]; exact Nat.le_add_right _ _
      · rw [z]; exact Nat.le_refl _
    exact I1.fpOk hle (I1.hok.fresh hle)
end
section
open PySem L2
theorem itOk_enumT {K : PySem.W.Frag} {H : Hp} {ρ : List Addr} {l : List PV} {a : Addr} {xs : List V} (s : SqT K H a xs) (r : Reps K H ρ l xs) : ItOk K H ρ ⟨enumL 0 l, []⟩ (IteT K a) where
  go := fun H1 ρ1 μ1 i p l1 M1 lk hi => by
    obtain ⟨p1, g1, rfl⟩ := enumL_get hi
    have s1 := l1.keep.1 a xs s
    obtain ⟨x, h1, h2⟩ := r.get g1
    refine ⟨⟨xs, x, s1, h1⟩, fun z H' hy => ?_⟩
    obtain ⟨T, x', rfl, hT, rfl, e1⟩ := hy
    have e1 := e1 xs s1
    rw [h1] at e1
    cases e1
    have q := M1.other (ho := .tup [.int (i : Nat), x]) hT
    refine ⟨q.2, q.1, rep_pair q.2 ?_ (Rep.mono l1 _ _ h2)⟩
    rw [Nat.zero_add]
    exact rint
  stop := fun H1 ρ1 μ1 l1 M1 lk => by
    refine ⟨xs, l1.keep.1 a xs s, ?_⟩
    show xs.length ≤ (enumL 0 l).length
    rw [enumL_len, r.length]
    exact Nat.le_refl _
variable {X : Cx} {E : XK} {a : Expr} {fa : Ex} {pos : Pos}
theorem ppi_enum {elts : List Expr} {kk : Nat} {tpos p : Pos} (hm : X.mg "enumerate" = none) (h : PP X E a fa) (hg : Gl X "enumerate" := by rfl) (hs : starEach [a] X.env = [(false, eval a X.env)] := by rfl) :
    PPI X E (.Tuple elts kk tpos) (.Call (.Name "enumerate" p) [a] [] pos) (iEnum fa) :=
  ⟨PI.imp (PI.or (pi_enum hg hm (pa_cons h.pe pa_nil (by rw [hs]; rfl)) hs) (pi_enumT hg hm (pa_cons h.pe pa_nil (by rw [hs]; rfl)) hs)) fun σ H R hh => by
  obtain ⟨env, μ, ρ, eo, M, hh⟩ := hh
  cases z : fa env μ with
  | ok p m =>
    have hz : Post X.K X.mg E (fun H' ρ' z J => ItOk X.K H' ρ' z J) H ρ R (enumOf p m) := by
      unfold iEnum at hh
      rw [z] at hh
      exact hh
    cases p with
    | tup l =>
      refine .inr (pa1 ⟨env, μ, ρ, eo, M, ?_⟩)
      rw [z]
      intro x H1 ρ1 l1 M1 r1
      obtain ⟨a, xs, rfl, k1, k2⟩ := rep_tup r1
      exact ⟨a, xs, rfl, k1, hz (IteT X.K a) H1 ρ1 l1 M1 (itOk_enumT k1 k2)⟩
    | ref n =>
      simp only [enumOf] at hz
      split at hz
      · rename_i l hl
        refine .inl (pa1 ⟨env, μ, ρ, eo, M, ?_⟩)
        rw [z]
        intro x H1 ρ1 l1 M1 r1
        obtain ⟨a, xs, rfl, k1, k2, _⟩ := getL_ref M1 r1 hl
        obtain ⟨b, hb, e⟩ := rep_ref M1 r1
        cases e
        exact ⟨a, xs, rfl, k1, hz (Ite X.K a) H1 ρ1 l1 M1 (itOk_enumL hb)⟩
      · exact hz.elim
    | _ => exact hz.elim
  | exc x m =>
    unfold iEnum at hh
    rw [z] at hh
    exact .inl (pa1 ⟨env, μ, ρ, eo, M, by rw [z]; exact hh⟩)
  | stuck =>
    unfold iEnum at hh
    rw [z] at hh
    exact hh.elim⟩
end
end PL
end
section
set_option autoImplicit false
set_option Elab.async false
set_option linter.all false
set_option maxRecDepth 100000
set_option maxHeartbeats 2000000
/-! Calls with keywords; the law's end. -/
namespace PL
open PySem L2
section
variable {X : Cx} {E : XK} {CX : CXT} {k : Nat} {e : Expr} {es : List Expr} {pos : Pos} {m : Fn} {ps : List Str} {st : Stmt}
/-- the values of keywords -/
structure PPK (X : Cx) (E : XK) (kws : List Keyword) (f : Ag) : Prop where
  pk : PK X kws (tA X.K X.mg E f)
  len : ∀ env μ as μ', f env μ = .ok as μ' → as.length = kws.length
theorem PK.imp {kws : List Keyword} {t t' : TA} (h : PK X kws t) (i : ∀ σ H Q, t' σ H Q → t σ H Q) : PK X kws t' := ⟨fun p pins s σ H Q I q => h.run p pins s σ H Q I (i σ H Q q)⟩
theorem ac_len {fa : Ex} {f : Ag} {n : Nat} (h : ∀ env μ as μ', f env μ = .ok as μ' → as.length = n) : ∀ env μ as μ', ac fa f env μ = .ok as μ' → as.length = n + 1 := fun env μ as μ' e => by
  unfold ac at e
  cases z : fa env μ with
  | ok p m =>
    rw [z, Res.bind_ok] at e
    cases z2 : f env m with
    | ok qs m2 =>
      rw [z2, Res.bind_ok] at e
      cases e
      simp [h _ _ _ _ z2]
    | exc x m2 => rw [z2] at e; cases e
    | stuck => rw [z2] at e; cases e
  | exc x m => rw [z] at e; cases e
  | stuck => rw [z] at e; cases e
theorem ppk_nil : PPK X E [] an := ⟨PK.imp pk_nil fun σ H Q h => by
  obtain ⟨env, μ, ρ, eo, M, h⟩ := h
  exact Post.val (R := RPs X.K) (show Post X.K X.mg E (RPs X.K) H ρ Q (Res.ok [] μ) from h) M .nil, fun env μ as μ' e => by cases e; rfl⟩
theorem ppk_cons {nm : Option Str} {kpos : Pos} {kws : List Keyword} {fa : Ex} {f : Ag} (ha : PP X E e fa) (hr : PPK X E kws f) : PPK X E (⟨nm, e, kpos⟩ :: kws) (ac fa f) := ⟨PK.imp (pk_cons ha.pe hr.pk) fun σ H Q h => by
  obtain ⟨env, μ, ρ, eo, M, h⟩ := h
  exact tE_bind eo M h fun x H1 p m ρ1 _ l1 e1 M1 r1 q1 => tA_bind e1 M1 q1 fun xs H2 qs m2 ρ2 _ l2 e2 M2 r2 q2 =>
    Post.val (R := RPs X.K) (show Post X.K X.mg E (RPs X.K) H2 ρ2 Q (Res.ok (p :: qs) m2) from q2) M2 (.cons (Rep.mono l2 _ _ r1) r2), fun env μ as μ' e => ac_len hr.len env μ as μ' e⟩
theorem perm_reps {K : PySem.W.Frag} {H : Hp} {ρ : List Addr} {l : List PV} {xs : List V} (r : Reps K H ρ l xs) : ∀ is : List Nat, Reps K H ρ (perm is l) (perm is xs)
  | [] => .nil
  | i :: is => by
    have ih := perm_reps r is
    unfold perm at ih ⊢
    cases h : l[i]? with
    | some p =>
      obtain ⟨x, h1, h2⟩ := r.get h
      rw [List.filterMap_cons_some h, List.filterMap_cons_some h1]
      exact .cons h2 ih
    | none =>
      have h1 : xs[i]? = none := by
        rw [List.getElem?_eq_none_iff, r.length]
        exact List.getElem?_eq_none_iff.mp h
      rw [List.filterMap_cons_none h, List.filterMap_cons_none h1]
      exact ih
theorem perm_vals {xs : List V} {us : List Value} (r : Vals xs us) : ∀ is : List Nat, Vals (perm is xs) (perm is us)
  | [] => .nil
  | i :: is => by
    have ih := perm_vals r is
    unfold perm at ih ⊢
    cases h : xs[i]? with
    | some p =>
      obtain ⟨u, h1, h2⟩ := r.get h
      rw [List.filterMap_cons_some h, List.filterMap_cons_some h1]
      exact .cons h2 ih
    | none =>
      rw [List.filterMap_cons_none h, List.filterMap_cons_none (r.none_of h)]
      exact ih
/-- how a call with keywords binds -/
def BdK (x : Str) (st : Stmt) (ps ks : List Str) (n : Nat) (is : List Nat) : Prop := ∀ (qual : Str) (kV doc pm : Value) (an : Option Addr) (cdv ct : Value) (us ws : List Value), us.length = n → ws.length = ks.length →
  bindArgs (PySem.W.fnOf x qual (defArgs st) (defBody st) (defScope st) .none kV doc pm an cdv ct) ⟨us, ks.zip ws⟩ = pure (ps.zip (perm is (us ++ ws)))
theorem pp_callK {x : Str} {g gk : Ag} {p : Pos} {j : Nat} {ks : List Str} {is : List Nat} {kws : List Keyword} (F : FnM X.prog X.w X.K X.mg X.base CX j x st ps m) (B : BdK x st ps ks (e :: es).length is) (hr : Room k X.A) (hj : j ≤ k) (hgd : X.A.guards = some []) (hx : Passes CX X E) (ha : PPA X E (e :: es) g) (hkw : PPK X E kws gk)
    (hl : ∀ l : List PV, l.length = (e :: es).length + kws.length → (perm is l).length = ps.length) (hlk : kws.length = ks.length := by rfl) (hg : Gl X x := by rfl) (hdb : (x == ("__debug__" : Str)) = false := by decide)
    (hall : (backToKw pos (keywordEach kws X.env)).all (·.1.isSome) = true := by rfl) (hks : (backToKw pos (keywordEach kws X.env)).filterMap (·.1) = ks := by rfl)
    (he : starEach (e :: es) X.env = (false, eval e X.env) :: starEach es X.env := by rfl)
    (hpl : ((backTo pos (starEach (e :: es) X.env)).any (·.1) || (backToKw pos (keywordEach kws X.env)).any (·.1.isNone)) = false := by rfl) :
    PP X E (.Call (.Name x p) (e :: es) kws pos) (callK m is g gk) := ⟨⟨fun pins s σ H Q I h => by
  obtain ⟨f, fd, qual, FF, hm, G⟩ := F.ex
  obtain ⟨env, μ, ρ, eo, M, h⟩ := h
  refine wpAny_Call_Name_kw (ld_glob I hg hm ?_ hdb)
  have h1 : tA X.K X.mg E g σ H (fun vs H1 => vs.length = (e :: es).length ∧ tA X.K X.mg E gk σ H1 fun zs H2 => zs.length = ks.length ∧ spP X.K X.mg ps.length m (perm is (vs ++ zs)) H2 Q E) :=
    tA_bind eo M h fun xs H1 as μ1 ρ1 eg l1 e1 M1 r1 q1 => ⟨by rw [r1.length]; exact ha.len _ _ _ _ eg, tA_bind e1 M1 q1 fun ys H2 bs μ2 ρ2 eg2 l2 e2 M2 r2 q2 =>
      ⟨by rw [r2.length, hkw.len _ _ _ _ eg2, hlk], _, μ2, ρ2, hl (as ++ bs) (by rw [List.length_append, ha.len _ _ _ _ eg, hkw.len _ _ _ _ eg2]), M2, perm_reps ((Reps.mono l2 _ _ r1).append r2) is, q2⟩⟩
  refine PySem.W.callWith_KW (h₀ := X.base) I.ok.mod.kin FF.kp hall (thn (ha.pa.run pos pins s σ H _ I h1) fun us s1 ⟨vs, H1, I1, r, hv, q⟩ => ?_) hpl he
  refine thn (hkw.pk.run pos pins s1 σ H1 _ I1 q) fun ws s2 ⟨zs, H2, I2, rz, hz, q2⟩ => ⟨I2.kIn, ?_⟩
  rw [hks]
  obtain ⟨oc, od, kV, doc, pm, an, cdv, ct, osl, rfl, lk, hcd⟩ := FF.ex
  exact call_fnG G (hr.mono hj) hgd (.of_eq (B qual kV doc pm an cdv ct us ws (by rw [← r.length]; exact hv) (by rw [← rz.length]; exact hz))) hx I2 (perm_vals (r.append rz) is) q2⟩⟩
theorem pp_callK0 {x : Str} {gk : Ag} {p : Pos} {j : Nat} {ks : List Str} {is : List Nat} {kws : List Keyword} (F : FnM X.prog X.w X.K X.mg X.base CX j x st ps m) (B : BdK x st ps ks 0 is) (hr : Room k X.A) (hj : j ≤ k) (hgd : X.A.guards = some []) (hx : Passes CX X E) (hkw : PPK X E kws gk)
    (hl : ∀ l : List PV, l.length = kws.length → (perm is l).length = ps.length) (hlk : kws.length = ks.length := by rfl) (hg : Gl X x := by rfl) (hdb : (x == ("__debug__" : Str)) = false := by decide)
    (hall : (backToKw pos (keywordEach kws X.env)).all (·.1.isSome) = true := by rfl) (hks : (backToKw pos (keywordEach kws X.env)).filterMap (·.1) = ks := by rfl)
    (hpl : ((backTo pos (starEach [] X.env)).any (·.1) || (backToKw pos (keywordEach kws X.env)).any (·.1.isNone)) = false := by rfl) :
    PP X E (.Call (.Name x p) [] kws pos) (callK m is an gk) := ⟨⟨fun pins s σ H Q I h => by
  obtain ⟨f, fd, qual, FF, hm, G⟩ := F.ex
  obtain ⟨env, μ, ρ, eo, M, h⟩ := h
  refine wpAny_Call_Name_kw (ld_glob I hg hm ?_ hdb)
  have h1 : tA X.K X.mg E gk σ H (fun zs H2 => zs.length = ks.length ∧ spP X.K X.mg ps.length m (perm is zs) H2 Q E) :=
    tA_bind (k := fun bs μ2 => m (perm is ([] ++ bs)) μ2) eo M h fun ys H2 bs μ2 ρ2 eg2 l2 e2 M2 r2 q2 => ⟨by rw [r2.length, hkw.len _ _ _ _ eg2, hlk], _, μ2, ρ2, hl bs (hkw.len _ _ _ _ eg2), M2, perm_reps r2 is, q2⟩
  refine PySem.W.callWith_KW0 (h₀ := X.base) I.ok.mod.kin FF.kp hall ?_ hpl
  refine thn (hkw.pk.run pos pins s σ H _ I h1) fun ws s2 ⟨zs, H2, I2, rz, hz, q2⟩ => ⟨I2.kIn, ?_⟩
  rw [hks]
  obtain ⟨oc, od, kV, doc, pm, an, cdv, ct, osl, rfl, lk, hcd⟩ := FF.ex
  exact call_fnG G (hr.mono hj) hgd (.of_eq (B qual kV doc pm an cdv ct [] ws rfl (by rw [← rz.length]; exact hz))) hx I2 (perm_vals rz is) q2⟩⟩
end
end PL
end
section
set_option autoImplicit false
set_option Elab.async false
set_option linter.all false
set_option maxRecDepth 100000
set_option maxHeartbeats 2000000
/-! The law's end: from the pure law to the row. -/
namespace PL
open PySem PySem.Spec PyProof.Rows L2
theorem hu65 {A : Around} {k : Nat} (hr : Room k A) : A.units + 65 < cLine := by have := hr.un; omega
theorem hu64 {A : Around} {k : Nat} (hr : Room k A) : A.units + 64 < cLine := by have := hr.un; omega
/-- what the script gives at the law's call -/
structure AtLaw (P : Program) (w : World) (K : PySem.W.Frag) (mg mb : Str → Option Value) (s : Shared) (a : Addr) (vs : List Value) (ns : List Int) : Prop where
  kin : K.In s.heap
  nm : s.heap.Ns mainGlobals mg
  nb : s.heap.Ns builtinsNs mb
  bt : ∀ x : Str, x ≠ "__name__" → mb x = bootBuiltins x
  lim : s.heap.NoLimit
  gens : s.gens = #[]
  obj : s.heap.get? a = some { cls := .type "list", data := .seq vs.toArray }
  vals : IntsAre vs ns
  few : ns.length ≤ sizeLine
/-- an abstract heap in which the script alone may be tracked -/
structure Alone (P : Program) (w : World) (K : PySem.W.Frag) (s : Shared) (a : Addr) (ns : List Int) (H : Hp) : Prop where
  only : Only H
  seq : RoL K H a (ns.map V.int)
  ok : HOk P w H s.heap
  here : ∀ b, H b ≠ none → b = a
  notK : H a ≠ none → K.lookup a = none
theorem AtLaw.alone {P : Program} {w : World} {K : PySem.W.Frag} {mg mb : Str → Option Value} {s : Shared} {a : Addr} {vs : List Value} {ns : List Int} (L : AtLaw P w K mg mb s a vs ns) : ∃ H, Alone P w K s a ns H := by
  have rv := vals_ints L.vals
  cases hk : K.lookup a with
  | some o =>
    have ho : o = { cls := .type "list", data := .seq vs.toArray } := Option.some.inj ((L.kin a o hk).symm.trans L.obj)
    subst ho
    have sq : ∀ H', SqL K H' a (ns.map V.int) := fun H' => Or.inr ⟨_, vs.toArray, _, hk, rfl, rfl, rfl, by rw [List.size_toArray, L.vals.length]; exact L.few, by simpa using rv⟩
    exact ⟨fun _ => none, ⟨fun _ => Or.inl rfl, Or.inr sq, fun b u z => by simp at z, fun b z => absurd rfl z, fun z => absurd rfl z⟩⟩
  | none =>
    let O : HO := .frz { cls := .type "list", data := .seq vs.toArray } (.lst (ns.map V.int))
    have at_a : ∀ b, b = a → (fun b => if b = a then some O else none : Hp) b = some O := fun b e => if_pos e
    have off : ∀ b, b ≠ a → (fun b => if b = a then some O else none : Hp) b = none := fun b e => if_neg e
    refine ⟨fun b => if b = a then some O else none, ⟨fun b => ?_, Or.inl ⟨_, at_a a rfl⟩, fun b u z => ?_, fun b z => ?_, fun _ => hk⟩⟩
    · by_cases e : b = a
      · exact Or.inr ⟨_, _, at_a b e⟩
      · exact Or.inl (off b e)
    · by_cases e : b = a
      · have z2 := (at_a b e).symm.trans z
        cases z2
        subst e
        exact ⟨L.obj, by rw [List.length_map]; exact L.few, vs, _, rv, L.obj⟩
      · have z2 := (off b e).symm.trans z
        cases z2
    · by_cases e : b = a
      · exact e
      · exact absurd (off b e) z
theorem lawG_call {P : Program} {w : World} {K : PySem.W.Frag} {mg mb : Str → Option Value} {k : Nat} {fa a : Addr} {fd : FuncData} {x : Str} {m : Fn} {s : Shared} {vs : List Value} {ns : List Int} (L : AtLaw P w K mg mb s a vs ns) (hr : Room k callerA)
    (F : ∀ base : Heap, K.In base → base.Ns mainGlobals mg → FnG P w K mg base CX0 k fa fd [x] (spP K mg 1 m)) (hbind : ∀ (s : Shared) (u : Value), BindsTo s fd ⟨[u], []⟩ [(x, u)])
    (law : ∃ μ', m [.ref 0] [.ro (ns.map PV.int)] = .ok (.bl true) μ') :
    codeAny (model P w) callerA (.call (.ref fa) ⟨[.ref a], []⟩) (fun r s' => r = .ok (.ret (.bool true)) ∧ OldK s.heap s'.heap ∧ s'.os = s.os ∧ AllBare s'.gens) s := by
  obtain ⟨H, N⟩ := L.alone
  obtain ⟨μ', hlaw⟩ := law
  have keepNs : ∀ {b : Addr} {f : Str → Option Value}, s.heap.Ns b f → (hidT s.heap H).Ns b f := fun {b f} ⟨o, es, ep, e, d, r⟩ => by
    have hb : H b = none := by
      cases q : H b with
      | none => rfl
      | some u =>
        have eb : b = a := N.here b (by simp [q])
        subst eb
        rw [L.obj] at e
        cases e
        cases d
    exact ⟨o, es, ep, hidT_get e hb, d, r⟩
  have kb : K.In (hidT s.heap H) := fun b o e => by
    refine hidT_get (L.kin b o e) ?_
    cases q : H b with
    | none => rfl
    | some u =>
      have eb : b = a := N.here b (by simp [q])
      subst eb
      rw [N.notK (by simp [q])] at e
      cases e
  have hM : Mod K mg (hidT s.heap H) := ⟨kb, keepNs L.nm, ⟨mb, keepNs L.nb, L.bt⟩, let ⟨mc, h1, h2⟩ := L.lim; ⟨mc, keepNs h1, h2⟩⟩
  have e0 : Env0 P w K mg (hidT s.heap H) callerA [] s H :=
    ⟨rfl, hM, fun b o e => of_hidT e, Nat.le_of_eq (hidT_size _ _), trivial, fun b hb => (nomatch (show b ∈ ([] : List Addr) from hb)), N.ok, .of_eq L.gens⟩
  have ints_rep : ∀ l : List Int, Reps K H [a] (l.map PV.int) (l.map V.int) := fun l => by
    induction l with
    | nil => exact .nil
    | cons z l ih => exact .cons rint ih
  have M : MemOk K H [a] [.ro (ns.map PV.int)] := by
    refine ⟨rfl, fun n o b hn hb => ?_, fun n k b o u _ _ ho _ mo _ => ?_⟩
    · have hn0 : n = 0 := by
        have := (List.getElem?_eq_some_iff.mp hn).1
        simpa using this
      subst hn0
      simp only [List.getElem?_cons_zero, Option.some.injEq] at hn hb
      subst hn hb
      exact ⟨ns.map V.int, N.seq, ints_rep ns⟩
    · have hn0 : n = 0 := by
        have := (List.getElem?_eq_some_iff.mp ho).1
        simpa using this
      subst hn0
      simp only [List.getElem?_cons_zero, Option.some.injEq] at ho
      subst ho
      cases mo
  have hsp : spP K mg 1 m [.ref a] H (fun v _ => v = .bl true) (fun _ _ _ => False) := by
    refine ⟨[.ref 0], [.ro (ns.map PV.int)], [a], rfl, M, .cons ?_ .nil, ?_⟩
    · simp only [Rep]
      exact ⟨a, rfl, rfl⟩
    · rw [hlaw]
      intro b H' ρ' l M' r
      exact vbl r
  refine codeAny_mono ((F _ kb (keepNs L.nm)).run callerA [] s H ⟨[.ref a], []⟩ [.ref a] [.ref a] _ _ hr rfl e0 (hbind s (.ref a)) (.cons rfl .nil) hsp) fun r s' h => ?_
  match r, h with
  | .error e, h => exact False.elim h
  | .ok .next, h => exact False.elim h
  | .ok .brk, h => exact False.elim h
  | .ok .cont, h => exact False.elim h
  | .ok (.ret u), h =>
    obtain ⟨v, H', os, bare, un, hok', rv, q⟩ := h
    have qv : v = .bl true := q
    subst qv
    have hu : u = Value.bool true := rv
    subst hu
    refine ⟨rfl, OldK.of_keep fun b o e => ?_, os, bare⟩
    cases q : H b with
    | none => exact un.keep b o e q (fun z => nomatch (show b ∈ ([] : List Addr) from z)) (fun z => nomatch z)
    | some u =>
      rcases N.only b with z | ⟨ob, xs, z⟩
      · rw [q] at z
        cases z
      · have z2 := un.frzs b ob _ z
        have g1 := (N.ok b _ z).1
        have g2 := (hok' b _ z2).1
        rw [e] at g1
        cases g1
        exact g2
/-- the goal that the head leaves -/
theorem walkP {l : PySem.W.OpenLaw} {n k : Nat} {q : Program} {loose : List Str} {XP : (Str → Option Value) → Heap → Prop} {YP : World → Heap → Prop} {d : DefRec} {K : Params → PySem.W.Frag} {x : Str} {st : Stmt} {m : Fn}
    (hn : l.most = some n) (hn2 : n ≤ sizeLine) (hdf : d.params.defaults = []) (hr : Room k callerA)
    (hY : ∀ (w : World) (h : Heap), YP w h → (K w.params).In h)
    (hB : Bd d.name st [x])
    (F : ∀ (w : World) (mg : Str → Option Value) (h base : Heap), (K w.params).In h → h.Ns mainGlobals mg → (K w.params).In base → base.Ns mainGlobals mg → FnM l.prog w (K w.params) mg base CX0 k d.name st [x] m)
    (law : ∀ ns : List Int, ns.length ≤ n → (∀ z ∈ ns, Builtin.Int.intBits z ≤ 1048576) → ∃ μ', m [.ref 0] [.ro (ns.map PV.int)] = .ok (.bl true) μ') :
    PySem.W.WalkO q loose XP YP l.row.toRowW d [] (fun f vs => PySem.call f vs) := by
  refine Att.attach_callB hn hdf fun w s₀ s₁ mg mb fa o pm cd doc a vs ns G Y ho hd hcd hmg hobj hints hlen hbits hg => ?_
  have KX := hY w _ Y
  have L : AtLaw l.prog w (K w.params) mg mb s₁ a vs ns := ⟨KX, G.T.g, G.T.b, G.T.builtins, G.T.nolimit, hg, hobj, hints, Nat.le_trans hlen hn2⟩
  obtain ⟨f0, fd0, qual, FF, hm0, G0⟩ := (F w mg s₁.heap s₁.heap KX G.T.g KX G.T.g).ex
  have ef : f0 = fa := by
    have h1 : (Value.ref f0 : Value) = Value.ref fa := Option.some.inj (hm0.symm.trans hmg)
    injection h1
  subst ef
  obtain ⟨oc, od, kV, doc', pm', an, cdv, ct, osl, rfl, lk, hcd'⟩ := FF.ex
  refine lawG_call L hr (fun base hb1 hb2 => ?_) (fun s u => .of_eq (hB qual kV doc' pm' an cdv ct [u] rfl)) (law ns hlen hbits)
  obtain ⟨f1, fd1, qual1, FF1, hm1, G1⟩ := (F w mg s₁.heap base KX G.T.g hb1 hb2).ex
  have ef : f1 = f0 := by
    have h1 : (Value.ref f1 : Value) = Value.ref f0 := Option.some.inj (hm1.symm.trans hmg)
    injection h1
  subst ef
  obtain ⟨oc1, od1, kV1, doc1, pm1, an1, cdv1, ct1, osl1, e1, lk1, hcd1⟩ := FF1.ex
  have e2 := lk.symm.trans lk1
  injection e2 with e3
  injection e3 with _ _ e4 _
  injection e4 with e5
  rw [e5]
  exact G1
end PL
end
section
set_option autoImplicit false
set_option Elab.async false
set_option linter.all false
set_option maxRecDepth 100000
set_option maxHeartbeats 2000000
/-! More: constants that are tuples, stars in displays, bits, statements that are not followed. -/
namespace PL
open PySem PySem.Spec PyProof.Rows L2
section
variable {K : PySem.W.Frag} {H : Hp} {ρ : List Addr}
/-- values of a constant -/
def KV (K : PySem.W.Frag) (H : Hp) (ρ : List Addr) (l : List PV) (vs : List Value) : Prop := ∃ xs, Vals xs vs ∧ Reps K H ρ l xs
theorem kv_nil : KV K H ρ [] [] := ⟨[], .nil, by simp only [Reps]⟩
theorem kv_cons {p : PV} {x : V} {u : Value} {l : List PV} {vs : List Value} (r : RelV x u) (h : Rep K H ρ p x) (t : KV K H ρ l vs) : KV K H ρ (p :: l) (u :: vs) := by
  obtain ⟨xs, h1, h2⟩ := t
  exact ⟨x :: xs, .cons r h1, .cons h h2⟩
theorem kv_int {i : Int} {t : Tok} {l : List PV} {vs : List Value} (h : KV K H ρ l vs) : KV K H ρ (.int i :: l) (.int i t :: vs) := kv_cons (x := .int i) ⟨t, rfl⟩ rint h
theorem kv_str {i : Str} {t : Tok} {l : List PV} {vs : List Value} (h : KV K H ρ l vs) : KV K H ρ (.str i :: l) (.str i t :: vs) := kv_cons (x := .str i) ⟨t, rfl⟩ rstr h
theorem kv_non {l : List PV} {vs : List Value} (h : KV K H ρ l vs) : KV K H ρ (.non :: l) (.none :: vs) := kv_cons (x := .non) rfl rnon h
theorem kv_bl {i : Bool} {l : List PV} {vs : List Value} (h : KV K H ρ l vs) : KV K H ρ (.bl i :: l) (.bool i :: vs) := kv_cons (x := .bl i) rfl rbl h
theorem kv_ref {p : PV} {a : Addr} {l : List PV} {vs : List Value} (r : Rep K H ρ p (.ref a)) (h : KV K H ρ l vs) : KV K H ρ (p :: l) (.ref a :: vs) := kv_cons (x := .ref a) rfl r h
theorem rep_ktup {a : Addr} {d : Option Addr} {its : Array Value} {n : Nat} {sl : Array (Option Value)} {l : List PV} (q : K.lookup a = some ⟨.type "tuple", d, .seq its n, sl⟩) (hz : its.size ≤ sizeLine) (hv : KV K H ρ l its.toList) : Rep K H ρ (.tup l) (.ref a) := by
  obtain ⟨xs, h1, h2⟩ := hv
  simp only [Rep]
  exact ⟨a, xs, rfl, .inr ⟨_, its, n, q, rfl, rfl, hz, h1⟩, h2⟩
end
section
variable {X : Cx} {E : XK} {a : Expr} {es : List Expr} {fa : Ex} {pos : Pos}
theorem pps_stuck {st : Stmt} : PPs X E st stuckS := ⟨⟨fun pins s σ H D I h => by
  obtain ⟨env, μ, ρ, _, _, h⟩ := h
  exact h.elim⟩⟩
/-- what a display lists, stars among it -/
structure PPAs (X : Cx) (E : XK) (es : List Expr) (f : Ag) : Prop where
  pa : PA X es (tA X.K X.mg E f)
theorem PPA.s {f : Ag} (h : PPA X E es f) : PPAs X E es f := ⟨h.pa⟩
theorem ppas_nil : PPAs X E [] an := PPA.s ppa_nil
theorem ppas_cons {f : Ag} (ha : PP X E a fa) (hr : PPAs X E es f) (hs : starEach (a :: es) X.env = (false, eval a X.env) :: starEach es X.env := by rfl) : PPAs X E (a :: es) (ac fa f) := ⟨by
  refine PA.imp (pa_cons ha.pe hr.pa hs) fun σ H Q h => ?_
  obtain ⟨env, μ, ρ, eo, M, h⟩ := h
  exact tE_bind eo M h fun x H1 p m ρ1 _ l1 e1 M1 r1 q1 => tA_bind e1 M1 q1 fun xs H2 ps m2 ρ2 _ l2 e2 M2 r2 q2 =>
    Post.val (R := RPs X.K) (show Post X.K X.mg E (RPs X.K) H2 ρ2 Q (Res.ok (p :: ps) m2) from q2) M2 (.cons (Rep.mono l2 _ _ r1) r2)⟩
theorem ppas_star {f : Ag} {p : Pos} (ha : PP X E a fa) (hr : PPAs X E es f) (hs : starEach (.Starred a p :: es) X.env = (true, eval a X.env) :: starEach es X.env := by rfl) : PPAs X E (.Starred a p :: es) (acs fa f) := ⟨by
  refine PA.imp (StX.pa_star ha.pe hr.pa hs) fun σ H Q h => ?_
  obtain ⟨env, μ, ρ, eo, M, h⟩ := h
  refine tE_bind eo M h fun x H1 p m ρ1 _ l1 e1 M1 r1 q1 => ?_
  cases p with
  | tup l =>
    obtain ⟨b, xs, rfl, k1, k2⟩ := rep_tup r1
    refine ⟨b, xs, rfl, .inl k1, tA_bind e1 M1 q1 fun ys H2 ps m2 ρ2 _ l2 e2 M2 r2 q2 => ?_⟩
    exact Post.val (R := RPs X.K) (show Post X.K X.mg E (RPs X.K) H2 ρ2 (fun ys H2 => Q ys H2) (Res.ok (l ++ ps) m2) from q2) M2 ((Reps.mono l2 _ _ k2).append r2)
  | ref n =>
    simp only at q1
    split at q1
    · rename_i l e
      obtain ⟨b, xs, g1, rfl, g3, g4⟩ := mem_lst M1 r1 e
      refine ⟨b, xs, rfl, .inr (SqL.of g3), tA_bind e1 M1 q1 fun ys H2 ps m2 ρ2 _ l2 e2 M2 r2 q2 => ?_⟩
      exact Post.val (R := RPs X.K) (show Post X.K X.mg E (RPs X.K) H2 ρ2 (fun ys H2 => Q ys H2) (Res.ok (l ++ ps) m2) from q2) M2 ((Reps.mono l2 _ _ g4).append r2)
    · exact q1.elim
  | _ => exact q1.elim⟩
theorem pp_tupS {f : Ag} {k : Nat} (h : PPAs X E es f) : PP X E (.Tuple es k pos) (app fTup f) := ⟨by
  refine PE.imp (pe_tup h.pa) fun σ H Q h => ?_
  obtain ⟨env, μ, ρ, eo, M, h⟩ := h
  refine tA_bind eo M h fun xs H1 ps m ρ1 _ l1 e1 M1 r1 q1 => ?_
  unfold fTup at q1
  split at q1
  · rename_i hz
    exact ⟨by rw [SL_eq, r1.length]; exact hz, q1.newT M1 r1⟩
  · exact q1.elim⟩
theorem pp_lstS {f : Ag} (h : PPAs X E es f) : PP X E (.List es pos) (app fLst f) := ⟨by
  refine PE.imp (pe_lst h.pa) fun σ H Q h => ?_
  obtain ⟨env, μ, ρ, eo, M, h⟩ := h
  refine tA_bind eo M h fun xs H1 ps m ρ1 _ l1 e1 M1 r1 q1 => ?_
  unfold fLst at q1
  split at q1
  · rename_i hz
    exact ⟨by rw [SL_eq, r1.length]; exact hz, q1.newL M1 r1⟩
  · exact q1.elim⟩
theorem opP_shl : OpR X (binaryOp .LShift) (rP2 X.K X.mg E fShl) := by
  intro pins s σ H x y v u Q I rx ry h
  obtain ⟨μ, ρ, p, q, M, hp, hq, h⟩ := h
  cases p <;> cases q <;> first | exact h.elim | skip
  rename_i i j
  obtain rfl := vint hp
  obtain rfl := vint hq
  simp only [fShl] at h
  split at h
  · rename_i hz
    exact op_shlW pins s σ H _ _ v u Q I rx ry ⟨i, j, rfl, rfl, hz, h.val M rint⟩
  · exact h.elim
theorem opP_shr : OpR X (binaryOp .RShift) (rP2 X.K X.mg E fShr) := by
  intro pins s σ H x y v u Q I rx ry h
  obtain ⟨μ, ρ, p, q, M, hp, hq, h⟩ := h
  cases p <;> cases q <;> first | exact h.elim | skip
  rename_i i j
  obtain rfl := vint hp
  obtain rfl := vint hq
  simp only [fShr] at h
  split at h
  · rename_i hz
    exact op_shr pins s σ H _ _ v u Q I rx ry ⟨i, j, rfl, rfl, hz, h.val M rint⟩
  · exact h.elim
theorem opP_band : OpR X (binaryOp .BitAnd) (rP2 X.K X.mg E fBAnd) := by
  intro pins s σ H x y v u Q I rx ry h
  obtain ⟨μ, ρ, p, q, M, hp, hq, h⟩ := h
  cases p <;> cases q <;> first | exact h.elim | skip
  rename_i i j
  obtain rfl := vint hp
  obtain rfl := vint hq
  exact op_and pins s σ H _ _ v u Q I rx ry ⟨i, j, rfl, rfl, Post.val (R := RP X.K) (show Post X.K X.mg E (RP X.K) H ρ Q (Res.ok (.int (Builtin.bitAnd i j)) μ) from h) M rint⟩
theorem opP_bor : OpR X (binaryOp .BitOr) (rP2 X.K X.mg E fBOr) := by
  intro pins s σ H x y v u Q I rx ry h
  obtain ⟨μ, ρ, p, q, M, hp, hq, h⟩ := h
  cases p <;> cases q <;> first | exact h.elim | skip
  rename_i i j
  obtain rfl := vint hp
  obtain rfl := vint hq
  exact op_or pins s σ H _ _ v u Q I rx ry ⟨i, j, rfl, rfl, Post.val (R := RP X.K) (show Post X.K X.mg E (RP X.K) H ρ Q (Res.ok (.int (Builtin.bitOr i j)) μ) from h) M rint⟩
theorem opP_bxor : OpR X (binaryOp .BitXor) (rP2 X.K X.mg E fBXor) := by
  intro pins s σ H x y v u Q I rx ry h
  obtain ⟨μ, ρ, p, q, M, hp, hq, h⟩ := h
  cases p <;> cases q <;> first | exact h.elim | skip
  rename_i i j
  obtain rfl := vint hp
  obtain rfl := vint hq
  exact op_xor pins s σ H _ _ v u Q I rx ry ⟨i, j, rfl, rfl, Post.val (R := RP X.K) (show Post X.K X.mg E (RP X.K) H ρ Q (Res.ok (.int (Builtin.bitXor i j)) μ) from h) M rint⟩
end
end PL
end
section
set_option autoImplicit false
set_option Elab.async false
set_option linter.all false
set_option maxRecDepth 100000
set_option maxHeartbeats 2000000
/-! range(a, b) of ends of any size. -/
namespace PL
open PySem PySem.Spec PyProof.Rows L2
theorem turn_longrange {P : Program} {w : World} {K : PySem.W.Frag} {tg : Expr} (it : Addr) (lo : Int) (n : Nat) : Turn P w K tg (Itr lo n) [it] it (fun i h => IsLongIter h it (lo + (i : Nat) * 1) ((n : Int) - (i : Nat)) 1) where
  mem := by simp
  obj := fun i h st b hb => by
    have e : b = it := by simpa using hb
    subst e
    exact ⟨_, st, fun v z => by
      have z' : Data.fields _ = Data.cell v := z
      cases z'⟩
  keep := fun i h h' st k => k it (by simp) _ st
  item := by
    intro X hP hw hK hc i pins s σ H E I hf st hg
    subst hP hw hK
    obtain ⟨f0, f1, f2, f3, f4, f5⟩ := hf it (by simp)
    have W := Walks.longrange (prog := X.prog) (w := X.w) (I.ok.hd hc) it lo 1 n
    refine W.item i s _ _ hg st fun v h' tk hv st' kk => ?_
    obtain ⟨t, rfl⟩ := hv
    have I1 : Inv X pins σ H { s with heap := h', toks := tk } := I.turned (fun b o hb e => kk b o (by simpa using hb) e) f0 f1 f3 f4 f5
    refine ⟨_, rfl, go_of (s := { s with heap := h', toks := tk }) (n := "longrange_iterator") st' rfl rfl (by decide) ⟨.int (lo + i), H, I1, ⟨t, ?_⟩, ⟨rfl, rfl⟩, st', fun b hb => (hf b hb).1⟩⟩
    rw [Int.mul_one]
  done := by
    intro X hP hw hK hc i pins s σ H E I hf st hg
    subst hP hw hK
    obtain ⟨f0, f1, f2, f3, f4, f5⟩ := hf it (by simp)
    exact wpAny_pyNext_long_end (I.ok.hd hc) st (by have : n ≤ i := hg; omega) fun h' eb => ⟨rfl, I.turned (t' := s.toks) (fun b o hb e => eb b o hb e) f0 f1 f3 f4 f5⟩
  self := fun _ _ _ _ _ st h => wpAny_pyIter_longiter st h
section
variable {X : Cx} {tg : Expr}
theorem range_itW {pins : List (Addr × Obj)} {σ : L2.St} {H : Hp} {s : Shared} {R : L2.It → Hp → Prop} {E : Value → Shared → Prop} {lo hi : Int} {t u v : Tok} {tk : Nat} (I : Inv X pins σ H s)
    (q : R (Itr lo (hi - lo).toNat) H) : wpAny (model X.prog X.w) X.A (pyIter (.ref s.heap.objs.size)) (PIE X pins σ tg R) E { s with heap := s.heap.push { cls := .type "range", data := .fields #[.int lo t, .int hi u, .int 1 v] }, toks := tk } := by
  have I1 : Inv X pins σ H { s with heap := s.heap.push { cls := .type "range", data := .fields #[.int lo t, .int hi u, .int 1 v] }, toks := tk } := I.kept fun b o e => Heap.get?_push_of_some _ e
  by_cases hs : Builtin.Range.small lo hi 1 = true
  · refine wpAny_pyIter_range (IsRange.new ..) hs ?_
    refine ⟨(s.heap.push { cls := .type "range", data := .fields #[.int lo t, .int hi u, .int 1 v] }).objs.size, [(s.heap.push { cls := .type "range", data := .fields #[.int lo t, .int hi u, .int 1 v] }).objs.size], _, _, H, rfl,
      I1.kept (t' := tk) fun b o e => Heap.get?_push_of_some _ e, turn_range _ lo (hi - lo).toNat, ?_, fun b hb => ?_, q⟩
    · have e1 : lo + ((0 : Nat) : Int) * 1 = lo := by simp
      have e2 : (((hi - lo).toNat : Nat) : Int) - ((0 : Nat) : Int) = Builtin.Range.rangeSize lo hi 1 := by rw [rangeSize_one]; split <;> omega
      show IsRangeIter _ _ (lo + ((0 : Nat) : Int) * 1) ((((hi - lo).toNat : Nat) : Int) - ((0 : Nat) : Int)) 1
      rw [e1, e2]
      exact Heap.get?_push_size _ rfl
    · have e : b = (s.heap.push { cls := .type "range", data := .fields #[.int lo t, .int hi u, .int 1 v] }).objs.size := by simpa using hb
      subst e
      exact I1.fpOk (Nat.le_refl _) (I1.hok.fresh (Nat.le_refl _))
  · refine wpAny_pyIter_longrange (IsRange.new ..) (by simpa using hs) ?_
    refine ⟨(s.heap.push { cls := .type "range", data := .fields #[.int lo t, .int hi u, .int 1 v] }).objs.size, [(s.heap.push { cls := .type "range", data := .fields #[.int lo t, .int hi u, .int 1 v] }).objs.size], _, _, H, rfl,
      I1.kept (t' := tk) fun b o e => Heap.get?_push_of_some _ e, turn_longrange _ lo (hi - lo).toNat, ?_, fun b hb => ?_, q⟩
    · have e1 : lo + ((0 : Nat) : Int) * 1 = lo := by simp
      have e2 : (((hi - lo).toNat : Nat) : Int) - ((0 : Nat) : Int) = Builtin.Range.rangeSize lo hi 1 := by rw [rangeSize_one]; split <;> omega
      show IsLongIter _ _ (lo + ((0 : Nat) : Int) * 1) ((((hi - lo).toNat : Nat) : Int) - ((0 : Nat) : Int)) 1
      rw [e1, e2]
      exact Heap.get?_push_size _ rfl
    · have e : b = (s.heap.push { cls := .type "range", data := .fields #[.int lo t, .int hi u, .int 1 v] }).objs.size := by simpa using hb
      subst e
      exact I1.fpOk (Nat.le_refl _) (I1.hok.fresh (Nat.le_refl _))
def wRng2 (ta : TA) : TI := fun σ H R => ta σ H fun vs H1 => ∃ i j : Int, vs = [.int i, .int j] ∧ R (Itr i (j - i).toNat) H1
theorem pi_range2W {a b : Expr} {ta : TA} {p pos : Pos} (hg : Gl X "range") (hm : X.mg "range" = none) (ha : PA X [a, b] ta) (hs : starEach [a, b] X.env = [(false, eval a X.env), (false, eval b X.env)] := by rfl) (hs2 : starEach [b] X.env = [(false, eval b X.env)] := by rfl) :
    PI X tg (.Call (.Name "range" p) [a, b] [] pos) (wRng2 ta) := by
  refine ⟨fun pins s σ H R I h => ?_⟩
  refine Call_ (ld_blt I hg hm boot_range (PyProof.Rows.callWith_type1 (thn (ha.run pos pins s σ H _ I h) fun us s1 ⟨vs, H1, I1, r1, q1⟩ => ?_) (by rw [hs, hs2]) (by rw [hs2]; rfl)))
  obtain ⟨i, j, e, q⟩ := q1
  subst e
  cases r1 with
  | cons r rr =>
    cases rr with
    | cons r' rr =>
      cases rr
      obtain ⟨t, rfl⟩ := r
      obtain ⟨t', rfl⟩ := r'
      exact call_range_2 (range_itW I1 q)
end
section
variable {X : Cx} {E : XK} {a b tg : Expr} {fa fb : Ex}
theorem ppi_rng2w {p pos : Pos} (hm : X.mg "range" = none) (h : PP X E a fa) (h' : PP X E b fb) (hg : Gl X "range" := by rfl) (hs : starEach [a, b] X.env = [(false, eval a X.env), (false, eval b X.env)] := by rfl) (hs2 : starEach [b] X.env = [(false, eval b X.env)] := by rfl) :
    PPI X E tg (.Call (.Name "range" p) [a, b] [] pos) (iRng2w fa fb) := ⟨PI.imp (pi_range2W (tg := tg) hg hm (pa_cons h.pe (pa_cons h'.pe pa_nil (by rw [hs2]; rfl)) (by rw [hs, hs2])) hs hs2) fun σ H R hh => by
  obtain ⟨env, μ, ρ, eo, M, hh⟩ := hh
  refine tE_bind eo M hh fun x H1 p m ρ1 _ l1 e1 M1 r1 q1 => tE_bind e1 M1 q1 fun y H2 q m2 ρ2 _ l2 e2 M2 r2 q2 => ?_
  cases p with
  | int i =>
    cases q with
    | int j =>
      obtain rfl := vint r1
      obtain rfl := vint r2
      exact ⟨i, j, rfl, q2 (Itr i (j - i).toNat) H2 ρ2 (.refl _ _ _) M2 (itOk_rng i _)⟩
    | _ => exact q2.elim
  | _ => cases q <;> exact q2.elim⟩
end
end PL
end
section
set_option autoImplicit false
set_option Elab.async false
set_option linter.all false
set_option maxRecDepth 100000
set_option maxHeartbeats 2000000
/-! list.index of data. -/
namespace PL
open PySem PySem.Spec PyProof.Rows L2
section
variable {X : Cx} {E : XK} {e : Expr} {es : List Expr} {pos : Pos}
theorem mtP_index (hu : X.A.units + 65 < cLine) : MtR X "list.index" (rPm X.K X.mg E fIndex) := by
  intro pins s σ H x xs v us Q I rx rxs h
  obtain ⟨μ, ρ, p, ps, M, hp, hps, h⟩ := h
  cases p with
  | ref n =>
    match ps, hps with
    | [q], hps =>
      obtain ⟨y, rfl, r⟩ := reps1 hps
      simp only [fIndex] at h
      split at h
      · rename_i d es e3 e4
        split at h
        · rename_i hz
          split at h
          · rename_i j hj
            have D1 := dp_toD M e4 hp
            have D2 := dp_toD M e3 r
            obtain ⟨hjl, hj1, hj2⟩ := List.findIdx?_eq_some_iff_getElem.mp hj
            obtain ⟨a, rfl⟩ : ∃ a, x = .ref a := by
              simp only [Rep] at hp
              first
                | exact ⟨_, hp.2⟩
                | (obtain ⟨a, _, rfl⟩ := hp; exact ⟨a, rfl⟩)
                | (obtain ⟨a, rfl, _⟩ := hp; exact ⟨a, rfl⟩)
            refine mt_indexD hu pins s σ H _ _ v us Q I rx rxs ⟨a, y, d, es, j, es[j], rfl, rfl, D1, D2, hz.2, hz.1, List.getElem?_eq_getElem hjl, hj1, ?_, h.val M rint⟩
            intro k z' hk hz'
            have hkl := (List.getElem?_eq_some_iff.mp hz').1
            have := hj2 k hk
            have e5 := (List.getElem?_eq_some_iff.mp hz').2
            rw [← e5]
            simpa using this
          · exact h.elim
        · exact h.elim
      · exact h.elim
    | [], _ => exact h.elim
    | _ :: _ :: _, _ => exact h.elim
  | _ => exact h.elim
theorem pp_index {o : Expr} {fo : Ex} {g : Ag} {apos : Pos} (hu : X.A.units + 65 < cLine) (ho : PP X E o fo) (ha : PPA X E (e :: es) g) (hbase : attributeBase o "index" X.env (eval o X.env) = eval o X.env := by rfl)
    (hfew : ((backTo pos (starEach (e :: es) X.env)).all (fun x => !x.1) && (backToKw pos (keywordEach [] X.env)).all (fun x => x.1.isSome)
      && decide ((e :: es).length + ([] : List Keyword).length + (if ([] : List Keyword).isEmpty then 0 else 1) < 30)) = true := by rfl)
    (hline : (apos.endLine == pos.line) = true := by rfl) (hs : starEach (e :: es) X.env = (false, eval e X.env) :: starEach es X.env := by rfl) (hplain : (backTo pos (starEach es X.env)).any (·.1) = false := by rfl) :
    PP X E (.Call (.Attribute o "index" apos) (e :: es) [] pos) (mth .list fIndex fo g) :=
  pp_bm (k := .list) PySem.F.plainAttrs_list PySem.F.slot_list_index PySem.F.type_list_index (mtP_index hu) ho ha hbase hfew hline hs hplain
end
end PL
end
section
set_option autoImplicit false
set_option Elab.async false
set_option linter.all false
/-! is True, is False. -/
namespace PL
open PySem PySem.Spec PyProof.Rows L2
section
variable {X : Cx} {E : XK}
theorem cmpP_isB : OpR X (compareOp .Is) (rP2 X.K X.mg E fIsB) := by
  intro pins s σ H x y v u Q I rx ry h
  obtain ⟨μ, ρ, p, q, M, hp, hq, h⟩ := h
  cases p <;> first | exact h.elim | skip
  rename_i a
  cases q <;> first | exact h.elim | skip
  rename_i b
  obtain rfl := vbl hp
  obtain rfl := vbl hq
  have e : fIsB [.bl a, .bl b] μ = .ok (.bl (decide (a = b))) μ := rfl
  rw [e] at h
  exact op_isBl pins s σ H _ _ v u Q I rx ry ⟨a, b, rfl, rfl, h.val M rbl⟩
theorem cmpP_notB : OpR X (compareOp .IsNot) (rP2 X.K X.mg E fNotB) := by
  intro pins s σ H x y v u Q I rx ry h
  obtain ⟨μ, ρ, p, q, M, hp, hq, h⟩ := h
  cases p <;> first | exact h.elim | skip
  rename_i a
  cases q <;> first | exact h.elim | skip
  rename_i b
  obtain rfl := vbl hp
  obtain rfl := vbl hq
  have e : fNotB [.bl a, .bl b] μ = .ok (.bl (!decide (a = b))) μ := rfl
  rw [e] at h
  exact op_notBl pins s σ H _ _ v u Q I rx ry ⟨a, b, rfl, rfl, h.val M rbl⟩
end
end PL
end
section
set_option autoImplicit false
set_option Elab.async false
set_option linter.all false
set_option maxRecDepth 100000
set_option maxHeartbeats 2000000
/-! Dicts with keys numbers and texts. -/
namespace PL
open PySem PySem.Spec PyProof.Rows L2
section
variable {K : PySem.W.Frag} {H : Hp} {ρ : List Addr}
theorem RepK.nil {κ : Type} : RepK (κ := κ) K H ρ [] [] := rfl
theorem RepK.cons_iff {κ : Type} {p : κ × PV} {ps : List (κ × PV)} {zs : List (κ × V)} : RepK K H ρ (p :: ps) zs ↔ ∃ y ys, zs = (p.1, y) :: ys ∧ Rep K H ρ p.2 y ∧ RepK K H ρ ps ys := Iff.rfl
theorem RepK.length {κ : Type} : ∀ {kvs : List (κ × PV)} {xs : List (κ × V)}, RepK K H ρ kvs xs → xs.length = kvs.length
  | [], xs, h => by have h' : xs = [] := h; subst h'; rfl
  | p :: ps, xs, h => by
    obtain ⟨y, ys, rfl, _, t⟩ := h
    simp [RepK.length t]
theorem RepK.val {κ : Type} [DecidableEq κ] (k : κ) : ∀ {kvs : List (κ × PV)} {xs : List (κ × V)}, RepK K H ρ kvs xs → (valD kvs k = none ∧ valV xs k = none) ∨ ∃ p x, valD kvs k = some p ∧ valV xs k = some x ∧ Rep K H ρ p x
  | [], xs, h => by have h' : xs = [] := h; subst h'; exact .inl ⟨rfl, rfl⟩
  | p :: ps, xs, h => by
    obtain ⟨y, ys, rfl, r, t⟩ := h
    by_cases e : p.1 = k
    · refine .inr ⟨p.2, y, by simp [valD, e], valV_pos (p := (p.1, y)) e, r⟩
    · have e1 : valD (p :: ps) k = valD ps k := by simp [valD, e]
      have e2 : valV ((p.1, y) :: ys) k = valV ys k := valV_neg (p := (p.1, y)) e
      rw [e1, e2]
      exact RepK.val k t
theorem RepK.any {κ : Type} [DecidableEq κ] (k : κ) {kvs : List (κ × PV)} {xs : List (κ × V)} (h : RepK K H ρ kvs xs) : (kvs.any fun kv => decide (kv.1 = k)) = xs.any fun kv => decide (kv.1 = k) := by
  induction kvs generalizing xs with
  | nil => have h' : xs = [] := h; subst h'; rfl
  | cons p ps ih =>
    obtain ⟨y, ys, rfl, r, t⟩ := h
    rw [List.any_cons, List.any_cons, ih t]
theorem RepK.map {κ : Type} [DecidableEq κ] (k : κ) {q : PV} {y : V} (hq : Rep K H ρ q y) : ∀ {kvs : List (κ × PV)} {xs : List (κ × V)}, RepK K H ρ kvs xs → RepK K H ρ (kvs.map fun kv => if kv.1 = k then (kv.1, q) else kv) (xs.map fun kv => if kv.1 = k then (kv.1, y) else kv)
  | [], xs, h => by have h' : xs = [] := h; subst h'; rfl
  | p :: ps, xs, h => by
    obtain ⟨z, ys, rfl, r, t⟩ := h
    by_cases e : p.1 = k
    · simp only [List.map_cons, e, if_true]
      exact ⟨y, _, rfl, hq, RepK.map k hq t⟩
    · simp only [List.map_cons, e, if_false]
      exact ⟨z, _, rfl, r, RepK.map k hq t⟩
theorem RepK.snoc {κ : Type} {k : κ} {q : PV} {y : V} (hq : Rep K H ρ q y) : ∀ {kvs : List (κ × PV)} {xs : List (κ × V)}, RepK K H ρ kvs xs → RepK K H ρ (kvs ++ [(k, q)]) (xs ++ [(k, y)])
  | [], xs, h => by have h' : xs = [] := h; subst h'; exact ⟨y, [], rfl, hq, rfl⟩
  | p :: ps, xs, h => by
    obtain ⟨z, ys, rfl, r, t⟩ := h
    exact ⟨z, _, rfl, r, RepK.snoc hq t⟩
theorem RepK.put {κ : Type} [DecidableEq κ] {k : κ} {q : PV} {y : V} (hq : Rep K H ρ q y) {kvs : List (κ × PV)} {xs : List (κ × V)} (h : RepK K H ρ kvs xs) : RepK K H ρ (putD kvs k q) (putK xs k y) := by
  unfold putD putK
  rw [h.any k]
  split
  · exact h.map k hq
  · exact h.snoc hq
theorem RepK.merge : ∀ {more : KVs} {ms : List (Key × V)} {kvs : KVs} {xs : List (Key × V)}, RepK K H ρ more ms → RepK K H ρ kvs xs → RepK K H ρ (mergeD kvs more) (mergeK xs ms)
  | [], ms, kvs, xs, h, t => by have h' : ms = [] := h; subst h'; exact t
  | p :: ps, ms, kvs, xs, h, t => by
    obtain ⟨y, ys, rfl, r, u⟩ := h
    have q := RepK.merge (more := ps) (ms := ys) u (t.put (k := p.1) r)
    exact q
theorem key_of' {q : PV} {k : DK} {y : V} (e : keyOf q = some k) (r : Rep K H ρ q y) : y = kV k := by
  cases q <;> simp only [keyOf, Option.some.injEq, reduceCtorEq] at e
  · subst e; exact vint r
  · subst e; exact vstr r
theorem dct_of {μ : Mem} {p : PV} {kvs : KVs} {x : V} (M : MemOk K H ρ μ) (e : dctAt μ p = some kvs) (r : Rep K H ρ p x) : ∃ n a xs, p = .ref n ∧ μ[n]? = some (.dct kvs) ∧ ρ[n]? = some a ∧ x = .ref a ∧ H a = some (.dK xs) ∧ RepK K H ρ kvs xs := by
  cases p <;> simp only [dctAt, reduceCtorEq] at e
  rename_i n
  split at e
  · rename_i kvs' e2
    cases e
    obtain ⟨a, h1, h2⟩ := rep_ref M r
    obtain ⟨xs, h3, h4⟩ := M.at' n _ a e2 h1
    exact ⟨n, a, xs, rfl, e2, h1, h2, h3, h4⟩
  · cases e
end
section
variable {X : Cx} {E : XK} {o i e : Expr} {fo fi fe : Ex} {pos pos' : Pos}
theorem pp_dget (hu : X.A.units + 1 < cLine) (ho : PP X E o fo) (hi : PP X E i fi) (hs : NoSl i := by intro _ _; rfl) : PP X E (.Subscript o i pos) (app2 fDGet fo fi) := ⟨by
  refine PE.imp (pe_dget hu ho.pe hi.pe hs) fun σ H Q h => ?_
  obtain ⟨env, μ, ρ, eo, M, h⟩ := h
  refine tE_bind eo M h fun x H1 p m ρ1 _ l1 e1 M1 r1 q1 => tE_bind e1 M1 q1 fun y H2 q m2 ρ2 _ l2 e2 M2 r2 q2 => ?_
  simp only [fDGet] at q2
  split at q2
  · rename_i kvs k h1 h2
    obtain ⟨n, a, xs, rfl, g1, g2, g3, g4, g5⟩ := dct_of M2 h1 (Rep.mono l2 _ _ r1)
    subst g3
    rcases g5.val k with ⟨z1, z2⟩ | ⟨p', x', z1, z2, z3⟩
    · rw [z1] at q2; exact q2.elim
    · rw [z1] at q2
      refine ⟨a, x', rfl, ?_, q2.val M2 z3⟩
      rw [key_of' h2 r2, ← z2]
      exact DGet.k g4
  · exact q2.elim⟩
theorem pps_dput (hu : X.A.units + 1 < cLine) (ho : PP X E o fo) (hi : PP X E i fi) (he : PP X E e fe) (hs : swapsWith e (some (.Subscript o i pos')) pos.line X.env = pure false := by rfl) :
    PPs X E (.Assign [.Subscript o i pos'] e pos) (dput fo fi fe) := ⟨by
  refine PS.imp (ps_dput hu ho.pe hi.pe he.pe hs) fun D σ H h => ?_
  obtain ⟨env, μ, ρ, eo, M, h⟩ := h
  have step : ∀ {f : Ex} {k : PV → Mem → Out} {H ρ env μ}, EnvOk X.K H ρ env σ → MemOk X.K H ρ μ → PostS X.K X.mg E H ρ D (.of (f env μ) k) → ∀ {Q : VK}, (∀ x H1 p m ρ1, Lat X.K H ρ H1 ρ1 → EnvOk X.K H1 ρ1 env σ → MemOk X.K H1 ρ1 m → Rep X.K H1 ρ1 p x → PostS X.K X.mg E H1 ρ1 D (k p m) → Q x H1) → tE X.K X.mg E f σ H Q :=
    fun {f k H ρ env μ} eo M h {Q} i => ⟨env, μ, ρ, eo, M, (PostS.of (R := RP X.K) h).imp fun x H1 ⟨p, m, ρ1, e, l, M1, r, q⟩ => i x H1 p m ρ1 l (eo.mono l) M1 r q⟩
  refine step (f := fe) eo M h fun v H1 p m ρ1 l1 e1 M1 r1 q1 => step (f := fo) e1 M1 q1 fun x H2 px m2 ρ2 l2 e2 M2 r2 q2 => step (f := fi) e2 M2 q2 fun y H3 py m3 ρ3 l3 e3 M3 r3 q3 => ?_
  have rx := Rep.mono l3 _ _ r2
  have rv := Rep.mono (l2.trans l3) _ _ r1
  cases px with
  | ref n =>
    simp only [fDPut] at q3
    split at q3
    · rename_i kvs k h1 h2
      split at q3
      · rename_i hz
        obtain ⟨n', a, xs, en, g1, g2, g3, g4, g5⟩ := dct_of (p := .ref n) (kvs := kvs) M3 (by simp only [dctAt, h1]) rx
        cases en
        subst g3
        have hl : xs.length < sizeLine := by rw [g5.length, SL_eq]; exact hz
        refine ⟨a, _, rfl, by rw [key_of' h2 r3]; exact DPut.k g4 hl, ?_⟩
        have L0 : Lat X.K H3 ρ3 (upd H3 a (.dK (putK xs k v))) ρ3 := ⟨⟨[], by simp⟩, .upd (fun xs q => by rw [g4] at q; cases q) fun ob xs q => by rw [g4] at q; cases q⟩
        have w := M3.set (ho := .dK (putK xs k v)) (u := .dct (putD kvs k p)) h1 g2 rfl ⟨_, upd_same, RepK.mono L0 _ _ (g5.put rv)⟩
        have q4 : PostS X.K X.mg E H3 ρ3 D (.nx env (m3.set n (.dct (putD kvs k p)))) := q3
        exact q4 σ _ ρ3 w.2 w.1 (e3.mono w.2)
      · exact q3.elim
    · exact q3.elim
  | _ => exact q3.elim⟩
theorem pp_dnew : PP X E (.Dict [] [] pos) dnew := ⟨by
  refine PE.imp pe_dnewK fun σ H Q h => ?_
  obtain ⟨env, μ, ρ, eo, M, h⟩ := h
  intro p hp
  have q := M.push (ho := .dK []) (o := .dct []) hp fun H' ρ' L e => ⟨[], e, rfl⟩
  have h' : Post X.K X.mg E (RP X.K) H ρ Q (.ok (.ref μ.length) (μ ++ [.dct []])) := h
  refine h' (.ref p) _ _ q.2 q.1 ?_
  show Rep X.K _ _ (.ref μ.length) (.ref p)
  simp only [Rep]
  exact ⟨p, by rw [← M.len, List.getElem?_append_right (Nat.le_refl _)]; simp, rfl⟩⟩
/-- pairs of a display -/
def RPP (K : PySem.W.Frag) (H : Hp) (ρ : List Addr) : List (PV × PV) → List (V × V) → Prop
  | [], xs => xs = []
  | p :: ps, xs => ∃ x y ys, xs = (x, y) :: ys ∧ Rep K H ρ p.1 x ∧ Rep K H ρ p.2 y ∧ RPP K H ρ ps ys
theorem RPP.mono {K : PySem.W.Frag} {H H' : Hp} {ρ ρ' : List Addr} (l : Lat K H ρ H' ρ') : ∀ (ps : List (PV × PV)) (xs : List (V × V)), RPP K H ρ ps xs → RPP K H' ρ' ps xs
  | [], _, h => h
  | p :: ps, xs, h => by
    obtain ⟨x, y, ys, e, r1, r2, t⟩ := h
    exact ⟨x, y, ys, e, Rep.mono l _ _ r1, Rep.mono l _ _ r2, RPP.mono l ps ys t⟩
structure PPP (X : Cx) (E : XK) (pos : Pos) (ks : List (Option Expr)) (vs : List Expr) (f : Ap) : Prop where
  ex : ∃ trs, L2.PPs X pos ks vs trs ∧ ∀ σ H (Q : List (V × V) → Hp → Prop), (∃ env μ ρ, EnvOk X.K H ρ env σ ∧ MemOk X.K H ρ μ ∧ Post X.K X.mg E (RPP X.K) H ρ Q (f env μ)) → tPairs trs σ H Q
theorem ppp_nil : PPP X E pos [] [] dn := ⟨[], L2.pps_nil, fun σ H Q ⟨env, μ, ρ, eo, M, h⟩ => Post.val (R := RPP X.K) (show Post X.K X.mg E (RPP X.K) H ρ Q (Res.ok [] μ) from h) M rfl⟩
theorem ppp_cons {k v : Expr} {fk fv : Ex} {ks : List (Option Expr)} {vs : List Expr} {f : Ap} (hk : PP X E k fk) (hv : PP X E v fv) (hr : PPP X E pos ks vs f) : PPP X E pos (some k :: ks) (v :: vs) (dc fk fv f) := by
  obtain ⟨trs, h1, h2⟩ := hr.ex
  refine ⟨(tE X.K X.mg E fk, tE X.K X.mg E fv) :: trs, L2.pps_cons hk.pe hv.pe h1, fun σ H Q ⟨env, μ, ρ, eo, M, h⟩ => ?_⟩
  refine tE_bind (fa := fk) eo M h fun x H1 p m ρ1 _ l1 e1 M1 r1 q1 => tE_bind (fa := fv) e1 M1 q1 fun y H2 q m2 ρ2 _ l2 e2 M2 r2 q2 => h2 σ H2 _ ⟨env, m2, ρ2, e2, M2, ?_⟩
  refine (Post.bind (R := RPP X.K) q2).imp fun ps H3 ⟨qs, m3, ρ3, _, l3, M3, r3, q3⟩ => ?_
  exact Post.val (R := RPP X.K) (show Post X.K X.mg E (RPP X.K) H3 ρ3 Q (Res.ok ((p, q) :: qs) m3) from q3) M3 ⟨x, y, ps, rfl, Rep.mono (l2.trans l3) _ _ r1, Rep.mono l3 _ _ r2, r3⟩
theorem keys_rep {K : PySem.W.Frag} {H : Hp} {ρ : List Addr} : ∀ {ps : List (PV × PV)} {kvs : KVs} {xs : List (V × V)}, keysOf ps = some kvs → RPP K H ρ ps xs → ∃ ks : List (Key × V), xs = ks.map (fun kv => (kV kv.1, kv.2)) ∧ RepK K H ρ kvs ks
  | [], kvs, xs, e, h => by
    simp only [keysOf, Option.some.injEq] at e
    subst e
    have h' : xs = [] := h
    subst h'
    exact ⟨[], rfl, rfl⟩
  | p :: ps, kvs, xs, e, h => by
    obtain ⟨x, y, ys, rfl, r1, r2, t⟩ := h
    simp only [keysOf] at e
    split at e
    · rename_i k ks h1 h2
      cases e
      obtain ⟨zs, rfl, hz⟩ := keys_rep h2 t
      exact ⟨(k, y) :: zs, by rw [key_of' h1 r1]; rfl, y, zs, rfl, r2, hz⟩
    · cases e
theorem pp_disp {ks : List (Option Expr)} {vs : List Expr} {f : Ap} (h : PPP X E pos ks vs f) (hall : ks.all (·.isSome) = true := by rfl) (hl : ks.length = vs.length := by rfl) (h0 : ks ≠ [] := by exact fun h => nomatch h) (h15 : ks.length ≤ 15 := by decide) :
    PP X E (.Dict ks vs pos) (dsp f) := by
  obtain ⟨trs, h1, h2⟩ := h.ex
  refine ⟨PE.imp (pe_disp h1 hall hl h0 h15) fun σ H Q hq => ?_⟩
  obtain ⟨env, μ, ρ, eo, M, hq⟩ := hq
  intro p hp
  have q := M.push (ho := .dK []) (o := .dct []) hp fun H' ρ' L e => ⟨[], e, rfl⟩
  have hq' : Post X.K X.mg E (RP X.K) H ρ Q ((f env (μ ++ [.dct []])).bind fun ps μ1 => dfin μ.length ps μ1) := hq
  refine h2 σ _ _ ⟨env, μ ++ [.dct []], ρ ++ [p], eo.mono q.2, q.1, ?_⟩
  refine (Post.bind (R := RPP X.K) (hq'.later q.2)).imp fun ps H3 ⟨qs, m3, ρ3, _, l3, M3, r3, q3⟩ => ?_
  unfold dfin at q3
  split at q3
  · rename_i kvs e1 e2
    split at q3
    · rename_i hz
      have hp1 : (ρ ++ [p])[μ.length]? = some p := by rw [← M.len, List.getElem?_append_right (Nat.le_refl _)]; simp
      have hp3 := l3.get hp1
      obtain ⟨xs, k1, k2⟩ := M3.at' _ _ p e1 hp3
      have k3 : xs = [] := k2
      subst k3
      obtain ⟨zs, rfl, hzs⟩ := keys_rep e2 r3
      refine ⟨k1, zs, rfl, by rw [hzs.length]; exact hz, ?_⟩
      have L0 : Lat X.K H3 ρ3 (upd H3 p (.dK (mergeK [] zs))) ρ3 := ⟨⟨[], by simp⟩, .upd (fun xs q => by rw [k1] at q; cases q) fun ob xs q => by rw [k1] at q; cases q⟩
      have w := M3.set (ho := .dK (mergeK [] zs)) (u := .dct (mergeD [] kvs)) e1 hp3 rfl ⟨_, upd_same, RepK.mono L0 _ _ (hzs.merge (kvs := []) (xs := []) rfl)⟩
      refine q3 (.ref p) _ _ w.2 w.1 ?_
      show Rep X.K _ _ (.ref μ.length) (.ref p)
      simp only [Rep]
      exact ⟨p, hp3, rfl⟩
    · exact q3.elim
  · exact q3.elim
theorem din_read {f : Fn} {g : Bool → Bool} (hf : ∀ q d μ, f [q, d] μ = match dctAt μ d, keyOf q with
    | some kvs, some k => .ok (.bl (g (valD kvs k).isSome)) μ
    | _, _ => .stuck) {K : PySem.W.Frag} {mg : Str → Option Value} {σ : L2.St} {H : Hp} {Q : VK} (h : tE K mg E (app2 f fi fo) σ H Q) :
    tE K mg E fi σ H fun y H1 => tE K mg E fo σ H1 fun x H2 => ∃ a o, x = .ref a ∧ DGet H2 a y o ∧ Q (.bl (g o.isSome)) H2 := by
  obtain ⟨env, μ, ρ, eo, M, h⟩ := h
  refine tE_bind eo M h fun y H1 p m ρ1 _ l1 e1 M1 r1 q1 => tE_bind e1 M1 q1 fun x H2 q m2 ρ2 _ l2 e2 M2 r2 q2 => ?_
  rw [hf] at q2
  split at q2
  · rename_i kvs k h1 h2
    obtain ⟨n, a, xs, rfl, g1, g2, g3, g4, g5⟩ := dct_of M2 h1 r2
    subst g3
    have hk := key_of' h2 (Rep.mono l2 _ _ r1)
    refine ⟨a, valV xs k, rfl, by rw [hk]; exact DGet.k g4, ?_⟩
    have es : (valV xs k).isSome = (valD kvs k).isSome := by
      rcases g5.val k with ⟨z1, z2⟩ | ⟨p', x', z1, z2, z3⟩
      · rw [z1, z2]; rfl
      · rw [z1, z2]; rfl
    rw [es]
    exact Post.val (R := RP K) q2 M2 rbl
  · exact q2.elim
theorem pp_din (hu : X.A.units + 1 < cLine) (hi : PP X E i fi) (ho : PP X E o fo) (hm : behindInMarks .In o = false := by first | rfl | with_unfolding_all rfl) : PP X E (.Compare i [.In] [o] pos) (app2 fDIn fi fo) :=
  ⟨PE.imp (pe_cmp (pc_din hu hi.pe ho.pe) hm) fun σ H Q h => din_read (g := id) (fun _ _ _ => rfl) h⟩
theorem pp_dnotin (hu : X.A.units + 1 < cLine) (hi : PP X E i fi) (ho : PP X E o fo) (hm : behindInMarks .NotIn o = false := by first | rfl | with_unfolding_all rfl) : PP X E (.Compare i [.NotIn] [o] pos) (app2 fDNotIn fi fo) :=
  ⟨PE.imp (pe_cmp (pc_dnotin hu hi.pe ho.pe) hm) fun σ H Q h => din_read (g := fun b => !b) (fun _ _ _ => rfl) h⟩
theorem tB_read {f : Ex} {K : PySem.W.Frag} {mg : Str → Option Value} {σ : L2.St} {H : Hp} {Q : Bool → Hp → Prop} {t : TE} (i : ∀ Q, tE K mg E f σ H Q → t σ H Q) (h : tT K mg E f σ H Q) : tB t σ H Q := i _ (tE_test h)
theorem ppt_din (hu : X.A.units + 1 < cLine) (hi : PP X E i fi) (ho : PP X E o fo) (hm : behindInMarks .In o = false := by first | rfl | with_unfolding_all rfl) : PPT X E (.Compare i [.In] [o] pos) (app2 fDIn fi fo) :=
  ⟨PT.imp (pt_cmp (pc_din hu hi.pe ho.pe) hm) fun σ H Q h => tB_read (fun Q h => din_read (g := id) (fun _ _ _ => rfl) h) h⟩
theorem ppt_dnotin (hu : X.A.units + 1 < cLine) (hi : PP X E i fi) (ho : PP X E o fo) (hm : behindInMarks .NotIn o = false := by first | rfl | with_unfolding_all rfl) : PPT X E (.Compare i [.NotIn] [o] pos) (app2 fDNotIn fi fo) :=
  ⟨PT.imp (pt_cmp (pc_dnotin hu hi.pe ho.pe) hm) fun σ H Q h => tB_read (fun Q h => din_read (g := fun b => !b) (fun _ _ _ => rfl) h) h⟩
end
theorem hu1 {n : Nat} (h : n + 64 < cLine) : n + 1 < cLine := by omega
end PL
end
section
set_option autoImplicit false
set_option Elab.async false
set_option linter.all false
set_option maxRecDepth 100000
set_option maxHeartbeats 4000000
/-! A tuple so many times, also none, once, of nothing. -/
namespace PL
open PySem PySem.Spec PyProof.Rows L2
theorem tuple_mul_same (l : Addr) (items : Array Value) (n : Nat) (dd : Option Addr) (sl : Array (Option Value)) (x : Int) (u : Tok) (k0 : (decide (x < -(2 ^ 63)) || decide (x ≥ 2 ^ 63)) = false) (k1 : (items.isEmpty || x == 1) = true) :
    Meets (Builtin.«tuple.__mul__» ⟨[.ref l, .int x u], []⟩) (fun _ R s => s.heap.get? l = some { cls := .type "tuple", dict := dd, data := .seq items n, slots := sl } ∧
      R (.ok (.ret (Value.ref l))) s) :=
  .of_wp fun prog w A R s h => by
    obtain ⟨hp, gs, dr, tk, os⟩ := s; obtain ⟨hat, h⟩ := h; have f1 := AutoSeq1.idx_int
    wp_walk using wpAny_loadPart' hat
    repeat (first
      | (refine wpAny_ite_false (decide_eq_false (by rw [k0]; exact Bool.false_ne_true)) ?_; wp_walk using wpAny_loadPart' hat)
      | (refine wpAny_ite_true (decide_eq_true k1) ?_; wp_walk using wpAny_loadPart' hat))
    exact ⟨_, rfl, h⟩
theorem tuple_mul_none (l : Addr) (items : Array Value) (n : Nat) (dd : Option Addr) (sl : Array (Option Value)) (x : Int) (u : Tok) (k0 : (decide (x < -(2 ^ 63)) || decide (x ≥ 2 ^ 63)) = false) (k1 : (items.isEmpty || x == 1) = false) (k2 : (decide (x ≤ 0) || items.isEmpty) = true) :
    Meets (Builtin.«tuple.__mul__» ⟨[.ref l, .int x u], []⟩) (fun _ R s => s.heap.get? l = some { cls := .type "tuple", dict := dd, data := .seq items n, slots := sl } ∧
      R (.ok (.ret (Value.ref s.heap.objs.size))) { s with heap := s.heap.push { cls := Value.type "tuple", data := Data.seq #[] }, toks := s.toks }) :=
  .of_wp fun prog w A R s h => by
    obtain ⟨hp, gs, dr, tk, os⟩ := s; obtain ⟨hat, h⟩ := h; have f1 := AutoSeq1.idx_int
    wp_walk using wpAny_loadPart' hat
    repeat (first
      | (refine wpAny_ite_false (decide_eq_false (by rw [k0]; exact Bool.false_ne_true)) ?_; wp_walk using wpAny_loadPart' hat)
      | (refine wpAny_ite_false (decide_eq_false (by rw [k1]; exact Bool.false_ne_true)) ?_; wp_walk using wpAny_loadPart' hat)
      | (refine wpAny_ite_true (decide_eq_true k2) ?_; wp_walk using wpAny_loadPart' hat))
    exact ⟨_, rfl, h⟩
section
variable {X : Cx} {E : XK}
theorem opP_mulT : OpR X (binaryOp .Mult) (rP2 X.K X.mg E fMulT) := by
  intro pins s σ H x y v u Q I rx ry h
  obtain ⟨μ, ρ, p, q, M, hp, hq, h⟩ := h
  cases p <;> cases q <;> first | exact h.elim | skip
  rename_i l j
  obtain rfl := vint hq
  obtain ⟨a, xs, rfl, h1, h2⟩ := rep_tup hp
  simp only [fMulT] at h
  split at h
  · rename_i hz
    obtain ⟨z1, z2, z3⟩ := hz
    by_cases cA : xs ≠ [] ∧ 2 ≤ j
    · exact op_repT pins s σ H _ _ v u Q I rx ry ⟨a, j, xs, rfl, rfl, h1, cA.1, cA.2, z2, by rw [h2.length]; exact z3, h.newT M (h2.rep _)⟩
    · cases rx
      obtain ⟨t, rfl⟩ := ry
      obtain ⟨its, r, ⟨⟨cls, dd, data, sl⟩, ho, hc, n, hd⟩, hs⟩ := I.tuple h1
      simp only at hc hd
      subst hc hd
      have k0 : (decide (j < -(2 ^ 63)) || decide (j ≥ 2 ^ 63)) = false := by
        rw [decide_eq_false (by omega), decide_eq_false (by omega)] <;> rfl
      have hle : its.length = xs.length := r.length.symm
      by_cases k1 : (its.toArray.isEmpty || j == 1) = true
      · refine wpAny_binaryOp_repeat_ref (T := "tuple") (U := "int") (by decide) ⟨_, ho, rfl⟩ (fun s' => typeIs_int s' j t) noFill_tuple_mul F.fills_int_mul F.slot_int_rmul repeat_tuple F.slot_int_index.lookup
          (call_meets F.slot_int_rmul (typeIs_int s j t) F.entry_int_rmul (F.args_int_rmul_2 _ _) (int_rmul_tuple j t a its.toArray n dd sl)
            ⟨ho, rfl, ⟨_, ho, rfl⟩, call_meets F.slot_tuple_mul ⟨_, ho, rfl⟩ F.entry_tuple_mul (F.args_tuple_mul_2 _ _) (tuple_mul_same a its.toArray n dd sl j t k0 k1) ⟨ho, ?_⟩⟩)
        refine ⟨.ref a, H, I, rfl, h.val M ?_⟩
        show Rep X.K H ρ (.tup (List.replicate j.toNat l).flatten) (.ref a)
        simp only [Rep]
        refine ⟨a, xs, rfl, h1, ?_⟩
        have el : (List.replicate j.toNat l).flatten = l := by
          rcases Bool.or_eq_true _ _ ▸ k1 with c | c
          · have e0 : its = [] := by
              cases its with
              | nil => rfl
              | cons a b => cases c
            have e1 : l = [] := List.eq_nil_of_length_eq_zero (by rw [← h2.length, ← hle, e0]; rfl)
            subst e1
            induction j.toNat with
            | zero => rfl
            | succ k ih => rw [List.replicate_succ, List.flatten_cons, ih]; rfl
          · have : j = 1 := by simpa using c
            subst this
            simp
        rw [el]; exact h2
      · have k1n : (its.toArray.isEmpty || j == 1) = false := by simpa using k1
        have hne : its ≠ [] := by
          intro e; subst e; simp at k1n
        have hj : j ≤ 0 := by
          have : j ≠ 1 := by
            intro e; subst e; simp at k1n
          by_cases c3 : 2 ≤ j
          · exact absurd ⟨fun e => hne (List.eq_nil_of_length_eq_zero (by rw [hle, e]; rfl)), c3⟩ cA
          · omega
        have k2 : (decide (j ≤ 0) || its.toArray.isEmpty) = true := by rw [decide_eq_true hj]; rfl
        refine wpAny_binaryOp_repeat_ref (T := "tuple") (U := "int") (by decide) ⟨_, ho, rfl⟩ (fun s' => typeIs_int s' j t) noFill_tuple_mul F.fills_int_mul F.slot_int_rmul repeat_tuple F.slot_int_index.lookup
          (call_meets F.slot_int_rmul (typeIs_int s j t) F.entry_int_rmul (F.args_int_rmul_2 _ _) (int_rmul_tuple j t a its.toArray n dd sl)
            ⟨ho, rfl, ⟨_, ho, rfl⟩, call_meets F.slot_tuple_mul ⟨_, ho, rfl⟩ F.entry_tuple_mul (F.args_tuple_mul_2 _ _) (tuple_mul_none a its.toArray n dd sl j t k0 k1n k2) ⟨ho, ?_⟩⟩)
        have e0 : (List.replicate j.toNat l).flatten = [] := by
          have : j.toNat = 0 := by omega
          rw [this]; rfl
        rw [e0] at h
        refine ⟨.ref s.heap.objs.size, _, I.laid (t' := s.toks) (o := .tup []) (fun b ob q => Heap.get?_push_of_some _ q) (Nat.le_refl _) ?_, rfl, h.newT M (xs := []) (by simp only [Reps]) _ (I.hok.fresh (Nat.le_refl _))⟩
        exact ⟨Nat.zero_le _, [], .nil, IsTup.new _ _⟩
  · exact h.elim
end
end PL
end
section
set_option autoImplicit false
set_option Elab.async false
set_option linter.all false
set_option maxRecDepth 100000
set_option maxHeartbeats 4000000
/-! `or` of values. -/
namespace PL
open PySem PySem.Spec PyProof.Rows L2
section
variable {X : Cx} {E : XK} {a b : Expr} {fa fb : Ex} {rest : List Expr} {pos : Pos}
theorem pp_orV (ha : PP X E a fa) (hb : PP X E (.BoolOp .Or (b :: rest) pos) fb) : PP X E (.BoolOp .Or (a :: b :: rest) pos) (orV fa fb) := ⟨by
  refine PE.imp (pe_orT ha.pe hb.pe) fun σ H Q h => ?_
  obtain ⟨env, μ, ρ, eo, M, h⟩ := h
  exact tE_bind eo M h fun x H1 p m ρ1 _ l1 e1 M1 r1 q1 => by
    cases p with
    | non =>
      obtain rfl := vnon r1
      exact ⟨false, rfl, by simpa using ⟨env, m, ρ1, e1, M1, q1⟩⟩
    | bl t =>
      obtain rfl := vbl r1
      cases t with
      | false => exact ⟨false, rfl, by simpa using ⟨env, m, ρ1, e1, M1, q1⟩⟩
      | true => exact ⟨true, rfl, by simpa using Post.val q1 M1 r1⟩
    | int i =>
      obtain rfl := vint r1
      by_cases hi : (i != 0) = true
      · refine ⟨true, hi.symm, ?_⟩
        simp only [truP, hi] at q1
        simpa using Post.val q1 M1 r1
      · have hi' : (i != 0) = false := by simpa using hi
        refine ⟨false, hi'.symm, ?_⟩
        simp only [truP, hi'] at q1
        simpa using ⟨env, m, ρ1, e1, M1, q1⟩
    | _ => exact q1.elim⟩
end
end PL
end
section
set_option autoImplicit false
set_option Elab.async false
set_option linter.all false
set_option maxRecDepth 100000
set_option maxHeartbeats 4000000
/-! divmod of great numbers; sorted of numbers. -/
namespace PL
open PySem PySem.Spec PyProof.Rows L2
section
variable {X : Cx} {E : XK}
theorem crP_divmod : CallR X (.builtin "divmod") (rPn X.K X.mg E fDivmodW) := by
  intro pins s σ H xs us Q I rs h
  obtain ⟨μ, ρ, ps, M, hp, h⟩ := h
  match ps, hp with
  | [p, q], hp =>
    cases p with
    | int i =>
      cases q with
      | int j =>
        obtain ⟨x, y, rfl, r1, r2⟩ := reps2 hp
        obtain rfl := vint r1
        obtain rfl := vint r2
        simp only [fDivmodW] at h
        split at h
        · rename_i hc
          have b := PyProof.Rows.intBits_le hc.2
          refine call_divmodW pins s σ H _ us Q I rs ⟨i, j, rfl, divp_ok hc.1 (by omega), h.newT M ?_⟩
          exact ⟨_, _, rfl, rint, _, _, rfl, rint, rfl⟩
        · exact h.elim
      | _ => exact h.elim
    | _ => exact h.elim
  | [], _ => exact h.elim
  | [p], _ => cases p <;> exact h.elim
  | p :: q :: _ :: _, _ => cases p <;> cases q <;> exact h.elim
theorem reps_ints {K : PySem.W.Frag} {H : Hp} {ρ : List Addr} : ∀ l : List Int, Reps K H ρ (l.map PV.int) (l.map V.int)
  | [] => rfl
  | i :: l => ⟨_, _, rfl, rint, reps_ints l⟩
theorem crP_sorted : CallR X (.builtin "sorted") (rPn X.K X.mg E fSorted) := by
  intro pins s σ H xs us Q I rs h
  obtain ⟨μ, ρ, ps, M, hp, h⟩ := h
  match ps, hp with
  | [.ref n], hp =>
    obtain ⟨x, rfl, r⟩ := reps1 hp
    simp only [fSorted] at h
    split at h
    · rename_i is e
      cases e2 : getL μ (.ref n) with
      | none => rw [e2] at e; simp at e
      | some l =>
        rw [e2] at e
        obtain ⟨a, ys, rfl, k1, k2, _⟩ := getL_ref M r e2
        obtain rfl := intsOf_map (show intsOf l = some is from e) k2
        refine cr_sortedI pins s σ H _ us Q I rs ⟨a, is, rfl, k1, fun ns' p hper hasc hn => ?_⟩
        have e3 : ns' = sortI is := asc_uniq (hper.trans (sortI_perm is).symm) hasc (sortI_asc is)
        rw [e3]
        exact h.newL M (reps_ints _) p hn
    · exact h.elim
  | [], _ => exact h.elim
  | p :: _ :: _, _ => cases p <;> exact h.elim
theorem isTrue_ite {t a b : Expr} {pos : Pos} {env : PySem.Env} {whole : Sem Value} {M : Model} {A : Around} {D : Value → Shared → Prop} {s : Shared} {Q : Bool → Shared → Prop}
    (h : wpAny M A (isTrue t env (eval t env)) (fun d s₁ => if d = true then wpAny M A (isTrue a env (eval a env)) Q D s₁ else wpAny M A (isTrue b env (eval b env)) Q D s₁) D s) : wpAny M A (isTrue (.IfExp t a b pos) env whole) Q D s := by
  have e : isTrue (.IfExp t a b pos) env whole = (do if ← isTrue t env (eval t env) then isTrue a env (eval a env) else isTrue b env (eval b env)) := rfl
  rw [e]
  refine wpAny_bind (wpAny_mono h (fun d s₁ h₁ => ?_) fun _ _ x => x)
  cases d <;> exact h₁
def tIfT (t ta tb : TT) : TT := fun σ H Q => t σ H fun d H1 => if d = true then ta σ H1 Q else tb σ H1 Q
theorem pt_ifExp {t a b : Expr} {pos : Pos} {tt ta tb : TT} (ht : PT X t tt) (ha : PT X a ta) (hb : PT X b tb) : PT X (.IfExp t a b pos) (tIfT tt ta tb) := by
  refine ⟨fun pins s σ H Q I h => ?_⟩
  refine isTrue_ite (thn (ht.run pins s σ H _ I h) fun d s1 ⟨H1, I1, q1⟩ => ?_)
  cases d with
  | true => exact ha.run pins s1 σ H1 Q I1 q1
  | false => exact hb.run pins s1 σ H1 Q I1 q1
theorem ite_asB (fe fa fb : Ex) (env : PL.Env) (μ : Mem) : (PL.ite fe fa fb env μ).bind asB = (fe env μ).bind fun p m => onB p ((fa env m).bind asB) ((fb env m).bind asB) := by
  unfold PL.ite
  cases fe env μ with
  | ok p m => cases p with
    | bl t => cases t <;> rfl
    | _ => rfl
  | _ => rfl
theorem ppt_ite {t a b : Expr} {pos : Pos} {ft fa fb : Ex} (ht : PPT X E t ft) (ha : PPT X E a fa) (hb : PPT X E b fb) : PPT X E (.IfExp t a b pos) (PL.ite ft fa fb) := ⟨by
  refine PT.imp (pt_ifExp ht.pt ha.pt hb.pt) fun σ H Q h => ?_
  obtain ⟨env, μ, ρ, eo, M, h⟩ := h
  rw [ite_asB] at h
  exact tT_bind (k1 := fun m => (fa env m).bind asB) (k2 := fun m => (fb env m).bind asB) eo M h fun t H1 m ρ1 _ l1 e1 M1 q1 => by
    cases t with
    | true => exact ⟨env, m, ρ1, e1, M1, q1⟩
    | false => exact ⟨env, m, ρ1, e1, M1, q1⟩⟩
end
end PL
end
section
set_option autoImplicit false
/-! How pure bodies are run: rewriting rules. -/
namespace PL
open PySem
section
variable (env : Env) (μ : Mem)
@[simp] theorem c_ev (p : PV) : c p env μ = .ok p μ := id rfl
@[simp] theorem an_ev : an env μ = .ok [] μ := id rfl
@[simp] theorem ac_ev (a : Ex) (r : Ag) : ac a r env μ = (a env μ).bind fun p μ1 => (r env μ1).bind fun ps μ2 => .ok (p :: ps) μ2 := id rfl
@[simp] theorem acs_ev (a : Ex) (r : Ag) : acs a r env μ = (a env μ).bind fun p μ1 => match p with
  | .tup l => (r env μ1).bind fun ps μ2 => .ok (l ++ ps) μ2
  | .ref n => match μ1[n]? with | some (.lst l) => (r env μ1).bind fun ps μ2 => .ok (l ++ ps) μ2 | _ => .stuck
  | _ => .stuck := id rfl
@[simp] theorem stuckS_ev : stuckS env μ = .stuck := id rfl
@[simp] theorem app_ev (f : Fn) (as : Ag) : app f as env μ = (as env μ).bind fun ps μ1 => f ps μ1 := id rfl
@[simp] theorem app1_ev (f : Fn) (a : Ex) : app1 f a env μ = (a env μ).bind fun p μ1 => f [p] μ1 := id rfl
@[simp] theorem app2_ev (f : Fn) (a b : Ex) : app2 f a b env μ = (a env μ).bind fun p μ1 => (b env μ1).bind fun q μ2 => f [p, q] μ2 := id rfl
@[simp] theorem mth_ev (k : Kd) (f : Fn) (o : Ex) (g : Ag) : mth k f o g env μ = (o env μ).bind fun p μ1 => if isKd k μ1 p = true then (g env μ1).bind fun ps μ2 => f (p :: ps) μ2 else .stuck := id rfl
@[simp] theorem ite_ev (t a b : Ex) : ite t a b env μ = (t env μ).bind fun p μ1 => onB p (a env μ1) (b env μ1) := id rfl
@[simp] theorem and_ev (a b : Ex) : PL.and a b env μ = (a env μ).bind fun p μ1 => onB p (b env μ1) (.ok (.bl false) μ1) := id rfl
@[simp] theorem or_ev (a b : Ex) : PL.or a b env μ = (a env μ).bind fun p μ1 => onB p (.ok (.bl true) μ1) (b env μ1) := id rfl
@[simp] theorem chain_ev (f g : Fn) (a b d : Ex) : chain f g a b d env μ = (a env μ).bind fun p μ1 => (b env μ1).bind fun q μ2 => (f [p, q] μ2).bind fun t μ3 =>
  onB t ((d env μ3).bind fun r μ4 => g [q, r] μ4) (.ok (.bl false) μ3) := id rfl
@[simp] theorem sl_ev (a lo hi : Ex) : sl a lo hi env μ = (a env μ).bind fun p μ1 => ((lo env μ1).bind onPart).bind fun ql μ2 => ((hi env μ2).bind onPart).bind fun qh μ3 => fSl [p, ql, qh] μ3 := id rfl
@[simp] theorem callK_ev (m : Fn) (is : List Nat) (g gk : Ag) : callK m is g gk env μ = (g env μ).bind fun as μ1 => (gk env μ1).bind fun bs μ2 => m (perm is (as ++ bs)) μ2 := id rfl
@[simp] theorem tn_ev (i : Nat) (p : PV) : tn i p env μ = .ok (env.set i (some p)) μ := id rfl
@[simp] theorem t0_ev : t0 [] env μ = .ok env μ := id rfl
@[simp] theorem tc_ev (g : Tg) (r : Tgs) (p : PV) (qs : List PV) : tc g r (p :: qs) env μ = (g p env μ).bind fun e μ1 => r qs e μ1 := id rfl
@[simp] theorem tt_ev (n : Nat) (r : Tgs) (l : List PV) : tt n r (.tup l) env μ = if l.length = n then r l env μ else .stuck := id rfl
@[simp] theorem tt_ref (n : Nat) (r : Tgs) (k : Nat) : tt n r (.ref k) env μ = (match μ[k]? with | some (.lst l) => if l.length = n then r l env μ else .stuck | _ => .stuck) := id rfl
@[simp] theorem tsub_ev (f : Fn) (o i : Ex) (p : PV) : tsub f o i p env μ = (o env μ).bind fun x μ1 => (i env μ1).bind fun y μ2 => (f [x, y, p] μ2).bind fun _ μ3 => .ok env μ3 := id rfl
@[simp] theorem skip_ev : skip env μ = .nx env μ := id rfl
@[simp] theorem brk_ev : brk env μ = .bk env μ := id rfl
@[simp] theorem cnt_ev : cnt env μ = .ct env μ := id rfl
@[simp] theorem seq_ev (a b : Sm) : seq a b env μ = (a env μ).then b := id rfl
@[simp] theorem exp_ev (e : Ex) : PL.exp e env μ = .of (e env μ) fun _ μ1 => .nx env μ1 := id rfl
@[simp] theorem ret_ev (e : Ex) : ret e env μ = .of (e env μ) fun p μ1 => .rt p μ1 := id rfl
@[simp] theorem cond_ev (t : Ex) (a b : Sm) : PL.cond t a b env μ = .of (t env μ) fun p μ1 => onS p (a env μ1) (b env μ1) := id rfl
@[simp] theorem asg_ev (g : Tg) (e : Ex) : asg g e env μ = .of (e env μ) fun p μ1 => .of (g p env μ1) fun e2 μ2 => .nx e2 μ2 := id rfl
@[simp] theorem setv_ev (i : Nat) (e : Ex) : setv i e env μ = .of (e env μ) fun p μ1 => .nx (env.set i (some p)) μ1 := id rfl
@[simp] theorem par_ev (i j : Nat) (a b : Ex) : par i j a b env μ = .of (a env μ) fun p μ1 => .of (b env μ1) fun q μ2 => .nx ((env.set i (some p)).set j (some q)) μ2 := id rfl
@[simp] theorem par3_ev (i j k : Nat) (a b d : Ex) : par3 i j k a b d env μ = .of (a env μ) fun p μ1 => .of (b env μ1) fun q μ2 => .of (d env μ2) fun r μ3 => .nx (((env.set i (some p)).set j (some q)).set k (some r)) μ3 := id rfl
@[simp] theorem forS_ev (it : It) (g : Tg) (body : Sm) : forS it g body env μ = .of (it env μ) fun z μ1 => forN z.lk g body z.items env μ1 := id rfl
@[simp] theorem whileS_ev (t : Ex) (body : Sm) : whileS t body env μ = whileN t body fuel env μ := id rfl
@[simp] theorem iVal_ev (e : Ex) : iVal e env μ = (e env μ).bind itsOf := id rfl
@[simp] theorem iEnum_ev (e : Ex) : iEnum e env μ = (e env μ).bind enumOf := id rfl
@[simp] theorem yes_ev : yes env μ = .ok (.bl true) μ := id rfl
theorem lc_ev (it : It) (g : Tg) (t e : Ex) (vs : List Nat) : lc it g t e vs env μ = (it env μ).bind fun z μ1 => (lcN z.lk g t e vs μ1.length env z.items (μ1 ++ [.lst []])).bind fun _ μ2 => .ok (.ref μ1.length) μ2 := rfl
end
/-- a name's value -/
theorem v_ev (i : Nat) (env : Env) (μ : Mem) (p : PV) (h : env[i]? = some (some p)) : v i env μ = .ok p μ := by unfold v; rw [h]
@[simp] theorem v0 (p : PV) (e : Env) (μ : Mem) : v 0 (some p :: e) μ = .ok p μ := id rfl
@[simp] theorem vS (n : Nat) (o : Option PV) (e : Env) (μ : Mem) : v (n + 1) (o :: e) μ = v n e μ := id rfl
@[simp] theorem itsOf_tup (l : List PV) (μ : Mem) : itsOf (.tup l) μ = .ok ⟨l, []⟩ μ := id rfl
@[simp] theorem enumOf_tup (l : List PV) (μ : Mem) : enumOf (.tup l) μ = .ok ⟨enumL 0 l, []⟩ μ := id rfl
@[simp] theorem locked_nil' (μ : Mem) : locked [] μ := locked_nil μ
theorem forN_nil {lk : List (Nat × List PV)} {g : Tg} {b : Sm} {env : Env} {μ : Mem} (h : locked lk μ) : forN lk g b [] env μ = .nx env μ := by unfold forN; rw [if_pos h]
theorem forN_cons {lk : List (Nat × List PV)} {g : Tg} {b : Sm} {env : Env} {μ : Mem} {p : PV} {ps : List PV} (h : locked lk μ) : forN lk g b (p :: ps) env μ = .of (g p env μ) fun e1 μ1 => match b e1 μ1 with
      | .nx e m => forN lk g b ps e m
      | .ct e m => forN lk g b ps e m
      | .bk e m => .nx e m
      | o => o := by rw [forN, if_pos h]; try rfl
/-! memory: what was there, then new cells -/
@[simp] theorem get_new0 (μ l : Mem) : (μ ++ l)[μ.length]? = l[0]? := by rw [List.getElem?_append_right (Nat.le_refl _), Nat.sub_self]
@[simp] theorem get_new (μ l : Mem) (k : Nat) : (μ ++ l)[μ.length + k]? = l[k]? := by rw [List.getElem?_append_right (Nat.le_add_right _ _), Nat.add_sub_cancel_left]
@[simp] theorem set_new0 (μ l : Mem) (o : PO) : (μ ++ l).set μ.length o = μ ++ l.set 0 o := by rw [List.set_append_right _ _ (Nat.le_refl _), Nat.sub_self]
@[simp] theorem set_new (μ l : Mem) (k : Nat) (o : PO) : (μ ++ l).set (μ.length + k) o = μ ++ l.set k o := by rw [List.set_append_right _ _ (Nat.le_add_right _ _), Nat.add_sub_cancel_left]
@[simp] theorem get_some {μ l : Mem} {k : Nat} {o : PO} (h : μ[k]? = some o) : (μ ++ l)[k]? = some o := by
  rw [List.getElem?_append_left (List.getElem?_eq_some_iff.mp h).1]; exact h
/-! defs -/
@[simp] theorem res_rt (p : PV) (m : Mem) : (Out.rt p m).res = .ok p m := id rfl
@[simp] theorem res_nx (e : Env) (m : Mem) : (Out.nx e m).res = .ok .non m := id rfl
@[simp] theorem res_exc (x : PX) (m : Mem) : (Out.exc x m).res = .exc x m := id rfl
theorem run_ev (n : Nat) (b : Sm) (args : List PV) (μ : Mem) : run n b args μ = (b (args.map some ++ List.replicate (n - args.length) none) μ).res := rfl
theorem fn_ev (n : Nat) (b : Sm) (args : List PV) (μ : Mem) : fn n b args μ = gc μ (run n b args μ) := rfl
@[simp] theorem gc_stuck (μ : Mem) : gc μ .stuck = .stuck := id rfl
theorem gc_drop {μ l : Mem} {p : PV} (h : p.under μ.length = true) : gc μ (.ok p (μ ++ l)) = .ok p μ := by
  unfold gc
  simp only
  rw [if_pos ⟨by simp, h, fun i hi => .inl (List.getElem?_append_left hi)⟩]
  rw [List.take_left]
theorem gc_same {μ : Mem} {p : PV} : gc μ (.ok p μ) = .ok p μ := by
  unfold gc
  simp only
  split
  · rw [List.take_length]
  · rfl
/-- cells of old were written, new ones are dropped -/
theorem gc_wr {μ μ' l : Mem} {p : PV} (hl : μ'.length = μ.length) (h : p.under μ.length = true) (hw : ∀ i, i < μ.length → μ'[i]? = μ[i]? ∨ ∃ o, μ'[i]? = some o ∧ o.under μ.length = true) : gc μ (.ok p (μ' ++ l)) = .ok p μ' := by
  unfold gc
  simp only
  rw [if_pos ⟨by simp [hl], h, fun i hi => by rw [List.getElem?_append_left (by omega)]; exact hw i hi⟩]
  rw [← hl, List.take_left]
/-! data: no reference at all -/
mutual
def PV.data : PV → Bool
  | .tup l => PV.datas l
  | .ref _ => false
  | .cst _ => false
  | .non => true | .bl _ => true | .int _ => true | .str _ => true
def PV.datas : List PV → Bool
  | [] => true
  | p :: ps => PV.data p && PV.datas ps
end
mutual
theorem under_data (n : Nat) : ∀ p : PV, p.data = true → p.under n = true
  | .tup l, h => by simp only [PV.data] at h; simp only [PV.under]; exact unders_data n l h
  | .ref _, h => by simp [PV.data] at h
  | .cst _, h => by simp [PV.data] at h
  | .non, _ => by simp only [PV.under]
  | .bl _, _ => by simp only [PV.under]
  | .int _, _ => by simp only [PV.under]
  | .str _, _ => by simp only [PV.under]
theorem unders_data (n : Nat) : ∀ l : List PV, PV.datas l = true → PV.unders n l = true
  | [], _ => by simp only [PV.unders]
  | p :: ps, h => by
    simp only [PV.datas, Bool.and_eq_true] at h
    simp only [PV.unders, under_data n p h.1, unders_data n ps h.2, Bool.and_self]
end
@[simp] theorem data_int (i : Int) : PV.data (.int i) = true := by simp only [PV.data]
@[simp] theorem data_bl (i : Bool) : PV.data (.bl i) = true := by simp only [PV.data]
@[simp] theorem data_str (i : Str) : PV.data (.str i) = true := by simp only [PV.data]
@[simp] theorem data_non : PV.data .non = true := by simp only [PV.data]
@[simp] theorem data_tup (l : List PV) : PV.data (.tup l) = PV.datas l := by simp only [PV.data]
@[simp] theorem datas_nil : PV.datas [] = true := by simp only [PV.datas]
@[simp] theorem datas_cons (p : PV) (l : List PV) : PV.datas (p :: l) = (PV.data p && PV.datas l) := by simp only [PV.datas]
theorem datas_iff (l : List PV) : PV.datas l = true ↔ ∀ p ∈ l, p.data = true := by
  induction l with
  | nil => simp
  | cons p ps ih => simp [ih]
/-- a def that hands back data and leaves the old cells alone -/
theorem fn_data {n : Nat} {b : Sm} {args : List PV} {μ l : Mem} {p : PV} (h : run n b args μ = .ok p (μ ++ l)) (hd : p.data = true) : fn n b args μ = .ok p μ := by
  rw [fn_ev, h, gc_drop (under_data _ _ hd)]
theorem fn_pure0 {n : Nat} {b : Sm} {args : List PV} {μ : Mem} {p : PV} (h : run n b args μ = .ok p μ) : fn n b args μ = .ok p μ := by
  rw [fn_ev, h, gc_same]
end PL
end
section
set_option autoImplicit false
/-! Operations by rewriting. -/
namespace PL
open PySem
theorem str_inj (a b : String) : (Str.ofString a = Str.ofString b) = (a = b) := by
  apply propext
  constructor
  · intro h
    rw [Str.ofString_eq_toList, Str.ofString_eq_toList] at h
    have h2 : (a.toList.map Char.toNat) = (b.toList.map Char.toNat) := by
      have := congrArg (fun s : Str => s.cps.toList) h
      simpa using this
    have h3 : a.toList = b.toList := by
      have inj : ∀ (l k : List Char), l.map Char.toNat = k.map Char.toNat → l = k := by
        intro l
        induction l with
        | nil => intro k h; cases k with
          | nil => rfl
          | cons _ _ => simp at h
        | cons x xs ih => intro k h; cases k with
          | nil => simp at h
          | cons y ys =>
            simp only [List.map_cons, List.cons.injEq] at h
            rw [ih ys h.2]
            congr 1
            exact Char.ext (UInt32.toNat_inj.mp h.1)
      exact inj _ _ h2
    exact String.toList_inj.mp h3
  · intro h; rw [h]
@[simp] theorem str_inj' (a b : String) : (Str.ofString a = Str.ofString b) ↔ (a = b) := by rw [str_inj]
section
variable (μ : Mem)
@[simp] theorem fAdd_int (i j : Int) : fAdd [.int i, .int j] μ = .ok (.int (i + j)) μ := id rfl
@[simp] theorem fSub_int (i j : Int) : fSub [.int i, .int j] μ = .ok (.int (i - j)) μ := id rfl
@[simp] theorem fNeg_int (i : Int) : fNeg [.int i] μ = .ok (.int (-i)) μ := id rfl
@[simp] theorem fNot_bl (b : Bool) : fNot [.bl b] μ = .ok (.bl (!b)) μ := id rfl
@[simp] theorem fLt_int (i j : Int) : fLt [.int i, .int j] μ = .ok (.bl (decide (i < j))) μ := id rfl
@[simp] theorem fLe_int (i j : Int) : fLe [.int i, .int j] μ = .ok (.bl (decide (i ≤ j))) μ := id rfl
@[simp] theorem fGt_int (i j : Int) : fGt [.int i, .int j] μ = .ok (.bl (decide (j < i))) μ := id rfl
@[simp] theorem fGe_int (i j : Int) : fGe [.int i, .int j] μ = .ok (.bl (decide (j ≤ i))) μ := id rfl
@[simp] theorem fEq_int (i j : Int) : fEq [.int i, .int j] μ = .ok (.bl (decide (i = j))) μ := id rfl
@[simp] theorem fNe_int (i j : Int) : fNe [.int i, .int j] μ = .ok (.bl (!decide (i = j))) μ := id rfl
@[simp] theorem fEq_str (i j : Str) : fEq [.str i, .str j] μ = .ok (.bl (decide (i = j))) μ := id rfl
@[simp] theorem fNe_str (i j : Str) : fNe [.str i, .str j] μ = .ok (.bl (!decide (i = j))) μ := id rfl
@[simp] theorem fEq_bl (i j : Bool) : fEq [.bl i, .bl j] μ = .ok (.bl (decide (i = j))) μ := id rfl
@[simp] theorem fNe_bl (i j : Bool) : fNe [.bl i, .bl j] μ = .ok (.bl (!decide (i = j))) μ := id rfl
@[simp] theorem fInt_int (i : Int) : fInt [.int i] μ = .ok (.int i) μ := id rfl
@[simp] theorem fInt_bl (b : Bool) : fInt [.bl b] μ = .ok (.int (if b then 1 else 0)) μ := id rfl
@[simp] theorem fAbs_int (i : Int) : fAbs [.int i] μ = .ok (.int (if i < 0 then -i else i)) μ := id rfl
@[simp] theorem fMax_int (i j : Int) : fMax [.int i, .int j] μ = .ok (.int (if j > i then j else i)) μ := id rfl
@[simp] theorem fMin_int (i j : Int) : fMin [.int i, .int j] μ = .ok (.int (if j < i then j else i)) μ := id rfl
theorem fMul_ok {i j : Int} (h : mulOk i j) : fMul [.int i, .int j] μ = .ok (.int (i * j)) μ := by simp only [fMul]; rw [if_pos h]
theorem fDiv_ok {i j : Int} (h : divOk j) : fDiv [.int i, .int j] μ = .ok (.int (i / j)) μ := by simp only [fDiv]; rw [if_pos h]
theorem fMod_ok {i j : Int} (h : 0 < j) : fMod [.int i, .int j] μ = .ok (.int (i % j)) μ := by simp only [fMod]; rw [if_pos h]
theorem fPow_ok {i j : Int} (h : 0 ≤ j ∧ j ≤ 1000000 ∧ i.natAbs < 2 ^ 64) : fPow [.int i, .int j] μ = .ok (.int (i ^ j.toNat)) μ := by simp only [fPow]; rw [if_pos h]
theorem fTup_ok {l : List PV} (h : l.length ≤ SL) : fTup l μ = .ok (.tup l) μ := by unfold fTup; rw [if_pos h]
theorem fLst_ok {l : List PV} (h : l.length ≤ SL) : fLst l μ = .ok (.ref μ.length) (μ ++ [.lst l]) := by unfold fLst newL; rw [if_pos h]
@[simp] theorem fTup0 : fTup [] μ = .ok (.tup []) μ := id rfl
@[simp] theorem fTup1 (a : PV) : fTup [a] μ = .ok (.tup [a]) μ := id rfl
@[simp] theorem fTup2 (a b : PV) : fTup [a, b] μ = .ok (.tup [a, b]) μ := id rfl
@[simp] theorem fTup3 (a b d : PV) : fTup [a, b, d] μ = .ok (.tup [a, b, d]) μ := id rfl
@[simp] theorem fTup4 (a b d e : PV) : fTup [a, b, d, e] μ = .ok (.tup [a, b, d, e]) μ := id rfl
@[simp] theorem fLst0 : fLst [] μ = .ok (.ref μ.length) (μ ++ [.lst []]) := id rfl
@[simp] theorem fLst1 (a : PV) : fLst [a] μ = .ok (.ref μ.length) (μ ++ [.lst [a]]) := id rfl
@[simp] theorem fLst2 (a b : PV) : fLst [a, b] μ = .ok (.ref μ.length) (μ ++ [.lst [a, b]]) := id rfl
@[simp] theorem fLst3 (a b d : PV) : fLst [a, b, d] μ = .ok (.ref μ.length) (μ ++ [.lst [a, b, d]]) := id rfl
@[simp] theorem fLst4 (a b d e : PV) : fLst [a, b, d, e] μ = .ok (.ref μ.length) (μ ++ [.lst [a, b, d, e]]) := id rfl
/-- places -/
def ixOf (l : List PV) (i : Int) (μ : Mem) : Res PV := match atI l i with | some q => .ok q μ | none => .stuck
@[simp] theorem fIx_tup (l : List PV) (i : Int) : fIx [.tup l, .int i] μ = ixOf l i μ := id rfl
theorem fIx_lst {n : Nat} {l : List PV} (i : Int) (h : μ[n]? = some (.lst l)) : fIx [.ref n, .int i] μ = ixOf l i μ := by
  simp only [fIx, getL, h]; rfl
theorem fIx_ro {n : Nat} {l : List PV} (i : Int) (h : μ[n]? = some (.ro l)) : fIx [.ref n, .int i] μ = ixOf l i μ := by
  simp only [fIx, getL, h]; rfl
@[simp] theorem ixOf0 (p : PV) (l : List PV) : ixOf (p :: l) 0 μ = .ok p μ := by
  simp [ixOf, atI, ixN]
theorem ixOf_nat {l : List PV} {k : Nat} {p : PV} (h : l[k]? = some p) : ixOf l (k : Int) μ = .ok p μ := by
  have hk := (List.getElem?_eq_some_iff.mp h).1
  unfold ixOf atI ixN
  rw [if_pos (by omega), if_pos (by omega)]
  simp [h]
@[simp] theorem ixOf1 (p q : PV) (l : List PV) : ixOf (p :: q :: l) 1 μ = .ok q μ := ixOf_nat (k := 1) μ rfl
@[simp] theorem ixOf2 (p q r : PV) (l : List PV) : ixOf (p :: q :: r :: l) 2 μ = .ok r μ := ixOf_nat (k := 2) μ rfl
@[simp] theorem ixOf3 (p q r s : PV) (l : List PV) : ixOf (p :: q :: r :: s :: l) 3 μ = .ok s μ := ixOf_nat (k := 3) μ rfl
theorem ixOf_int {l : List PV} {i : Int} {p : PV} (h0 : 0 ≤ i) (h : l[i.toNat]? = some p) : ixOf l i μ = .ok p μ := by
  have e : i = (i.toNat : Int) := by omega
  rw [e]
  exact ixOf_nat μ h
@[simp] theorem ixOf_last (l : List PV) (p : PV) : ixOf (l ++ [p]) (-1) μ = .ok p μ := by
  unfold ixOf atI ixN
  rw [if_neg (by omega), if_pos (by simp; omega)]
  have : ((-1 : Int) + ((l ++ [p]).length : Nat)).toNat = l.length := by simp; omega
  simp only [Option.bind_some, this]
  simp
/-- list cells -/
theorem push1_ok {n : Nat} {l : List PV} {p : PV} (h : μ[n]? = some (.lst l)) (hz : l.length < SL) : push1 n p μ = some (μ.set n (.lst (l ++ [p]))) := by
  unfold push1; rw [h]; simp only; rw [if_pos hz]
theorem append_ok {n : Nat} {l : List PV} {p : PV} (h : μ[n]? = some (.lst l)) (hz : l.length < SL) : fAppend [.ref n, p] μ = .ok .non (μ.set n (.lst (l ++ [p]))) := by
  simp only [fAppend]; rw [push1_ok μ h hz]
theorem isKd_lst {n : Nat} {l : List PV} (h : μ[n]? = some (.lst l)) : isKd .list μ (.ref n) = true := by simp only [isKd]; rw [h]
theorem fTuple_lst {n : Nat} {l : List PV} (h : μ[n]? = some (.lst l)) : fTuple [.ref n] μ = .ok (.tup l) μ := by simp only [fTuple, getL, h]
theorem fLen_lst {n : Nat} {l : List PV} (h : μ[n]? = some (.lst l)) : fLen [.ref n] μ = .ok (.int l.length) μ := by simp only [fLen, getL, h]
@[simp] theorem fLen_tup (l : List PV) : fLen [.tup l] μ = .ok (.int l.length) μ := id rfl
@[simp] theorem fTuple_tup (l : List PV) : fTuple [.tup l] μ = .ok (.tup l) μ := id rfl
theorem itsOf_lst {n : Nat} {l : List PV} (h : μ[n]? = some (.lst l)) : itsOf (.ref n) μ = .ok ⟨l, [(n, l)]⟩ μ := by simp only [itsOf, getL, h]
theorem itsOf_ro {n : Nat} {l : List PV} (h : μ[n]? = some (.ro l)) : itsOf (.ref n) μ = .ok ⟨l, [(n, l)]⟩ μ := by simp only [itsOf, getL, h]
theorem locked_lst {n : Nat} {l : List PV} (h : μ[n]? = some (.lst l)) : locked [(n, l)] μ := fun x hx => by
  simp only [List.mem_singleton] at hx
  subst hx
  exact .inl h
theorem locked_ro {n : Nat} {l : List PV} (h : μ[n]? = some (.ro l)) : locked [(n, l)] μ := fun x hx => by
  simp only [List.mem_singleton] at hx
  subst hx
  exact .inr h
theorem set_ok {n : Nat} {l : List PV} {i : Int} {p : PV} (h : μ[n]? = some (.lst l)) (h0 : 0 ≤ i) (h1 : i < l.length) : fSet [.ref n, .int i, p] μ = .ok .non (μ.set n (.lst (l.set i.toNat p))) := by
  simp only [fSet, h, ixN]
  rw [if_pos h0, if_pos h1]
theorem pop_ok {n : Nat} {l : List PV} {p : PV} (h : μ[n]? = some (.lst (l ++ [p]))) : fPop [.ref n] μ = .ok p (μ.set n (.lst l)) := by
  simp only [fPop, h]
  simp
@[simp] theorem fAppend_ref (n : Nat) (p : PV) : fAppend [.ref n, p] μ = (match μ[n]? with | some (.lst l) => if l.length < SL then .ok .non (μ.set n (.lst (l ++ [p]))) else .stuck | _ => .stuck) := by
  simp only [fAppend, push1]
  cases h : μ[n]? with
  | none => rfl
  | some o =>
    cases o with
    | lst l => by_cases hz : l.length < SL <;> simp [hz]
    | _ => rfl
@[simp] theorem isKd_ref (n : Nat) : isKd .list μ (.ref n) = (match μ[n]? with | some (.lst _) => true | _ => false) := id rfl
@[simp] theorem fIx_ref (n : Nat) (i : Int) : fIx [.ref n, .int i] μ = (match μ[n]? with | some (.lst l) => ixOf l i μ | some (.ro l) => ixOf l i μ | _ => .stuck) := by
  simp only [fIx, getL]
  cases h : μ[n]? with
  | none => rfl
  | some o => cases o <;> rfl
@[simp] theorem fLen_ref (n : Nat) : fLen [.ref n] μ = (match μ[n]? with | some (.lst l) => .ok (.int l.length) μ | some (.ro l) => .ok (.int l.length) μ | _ => .stuck) := by
  simp only [fLen, getL]
  cases h : μ[n]? with
  | none => rfl
  | some o => cases o <;> rfl
@[simp] theorem fTuple_ref (n : Nat) : fTuple [.ref n] μ = (match μ[n]? with | some (.lst l) => .ok (.tup l) μ | some (.ro l) => .ok (.tup l) μ | _ => .stuck) := by
  simp only [fTuple, getL]
  cases h : μ[n]? with
  | none => rfl
  | some o => cases o <;> rfl
@[simp] theorem fList_ref (n : Nat) : fList [.ref n] μ = (match μ[n]? with | some (.lst l) => .ok (.ref μ.length) (μ ++ [.lst l]) | some (.ro l) => .ok (.ref μ.length) (μ ++ [.lst l]) | _ => .stuck) := by
  simp only [fList, getL]
  cases h : μ[n]? with
  | none => rfl
  | some o => cases o <;> rfl
@[simp] theorem fList_tup (l : List PV) : fList [.tup l] μ = .ok (.ref μ.length) (μ ++ [.lst l]) := id rfl
@[simp] theorem itsOf_ref (n : Nat) : itsOf (.ref n) μ = (match μ[n]? with | some (.lst l) => .ok ⟨l, [(n, l)]⟩ μ | some (.ro l) => .ok ⟨l, [(n, l)]⟩ μ | _ => .stuck) := by
  simp only [itsOf, getL]
  cases h : μ[n]? with
  | none => rfl
  | some o => cases o <;> rfl
@[simp] theorem fAdd_ref (a b : Nat) : fAdd [.ref a, .ref b] μ = (match μ[a]?, μ[b]? with
    | some (.lst xs), some (.lst ys) => if xs.length + ys.length ≤ SL then .ok (.ref μ.length) (μ ++ [.lst (xs ++ ys)]) else .stuck
    | _, _ => .stuck) := id rfl
theorem fAdd_tup {a b : List PV} (h : a.length + b.length ≤ SL) : fAdd [.tup a, .tup b] μ = .ok (.tup (a ++ b)) μ := by simp only [fAdd]; rw [if_pos h]
@[simp] theorem fSl_tup (l : List PV) (lo hi : Option Int) (ql qh : PV) (h1 : optI ql = some lo) (h2 : optI qh = some hi) : fSl [.tup l, ql, qh] μ = .ok (.tup (cut l lo hi)) μ := by simp only [fSl, h1, h2]
@[simp] theorem optI_non : optI .non = some none := id rfl
@[simp] theorem optI_int (i : Int) : optI (.int i) = some (some i) := id rfl
@[simp] theorem onPart_non : onPart .non μ = .ok .non μ := id rfl
@[simp] theorem onPart_int (i : Int) : onPart (.int i) μ = .ok (.int i) μ := id rfl
@[simp] theorem fPart_int (i : Int) : fPart [.int i] μ = .ok (.int i) μ := id rfl
@[simp] theorem fSl_tup00 (l : List PV) : fSl [.tup l, .non, .non] μ = .ok (.tup (cut l none none)) μ := id rfl
@[simp] theorem fSl_tup01 (l : List PV) (j : Int) : fSl [.tup l, .non, .int j] μ = .ok (.tup (cut l none (some j))) μ := id rfl
@[simp] theorem fSl_tup10 (l : List PV) (i : Int) : fSl [.tup l, .int i, .non] μ = .ok (.tup (cut l (some i) none)) μ := id rfl
@[simp] theorem fSl_tup11 (l : List PV) (i j : Int) : fSl [.tup l, .int i, .int j] μ = .ok (.tup (cut l (some i) (some j))) μ := id rfl
@[simp] theorem fSl_ref (n : Nat) (ql qh : PV) : fSl [.ref n, ql, qh] μ = (match optI ql, optI qh with
    | some lo, some hi => (match μ[n]? with | some (.lst l) => .ok (.ref μ.length) (μ ++ [.lst (cut l lo hi)]) | some (.ro l) => .ok (.ref μ.length) (μ ++ [.lst (cut l lo hi)]) | _ => .stuck)
    | _, _ => .stuck) := by
  simp only [fSl, getL]
  cases optI ql with
  | none => rfl
  | some lo =>
    cases optI qh with
    | none => rfl
    | some hi =>
      simp only
      cases h : μ[n]? with
      | none => rfl
      | some o => cases o <;> rfl
@[simp] theorem cut_to (l : List PV) (j : Nat) : cut l none (some (j : Int)) = l.take j := by
  unfold cut sIx
  simp only [List.drop_zero, Nat.sub_zero]
  rw [if_neg (by omega)]
  simp only [Int.toNat_natCast]
  rw [Nat.min_def]
  split
  · rfl
  · rw [List.take_of_length_le (Nat.le_refl _), List.take_of_length_le (by omega)]
theorem cut_last (l : List PV) (p : PV) : cut (l ++ [p]) none (some (-1)) = l := by
  unfold cut sIx
  simp only [List.drop_zero, Nat.sub_zero]
  rw [if_pos (by omega)]
  have : ((-1 : Int) + ((l ++ [p]).length : Nat)).toNat = l.length := by simp; omega
  rw [this, List.take_left]
@[simp] theorem cut_from (l : List PV) (j : Nat) : cut l (some (j : Int)) none = l.drop j := by
  unfold cut sIx
  simp only
  rw [if_neg (by omega)]
  simp only [Int.toNat_natCast]
  rw [Nat.min_def]
  split
  · rw [List.take_of_length_le (by simp)]
  · rw [List.drop_of_length_le (Nat.le_refl _), List.drop_of_length_le (by omega)]; simp
@[simp] theorem fSub1 : SL = 16777216 := id rfl
end
/-! texts as constants -/
end PL
end
section
set_option autoImplicit false
/-! Loops by folds. -/
namespace PL
open PySem
/-- what is wanted of a statement's ends -/
structure Wp where
  nx : Env → Mem → Prop := fun _ _ => False
  rt : PV → Mem → Prop := fun _ _ => False
  bk : Env → Mem → Prop := fun _ _ => False
  ct : Env → Mem → Prop := fun _ _ => False
def Out.sat0 (o : Out) (W : Wp) : Prop := match o with
  | .nx e m => W.nx e m
  | .rt p m => W.rt p m
  | .bk e m => W.bk e m
  | .ct e m => W.ct e m
  | _ => False
/-- not reckoned out when looked at -/
def Out.sat (o : Out) (W : Wp) : Prop := (∃ e m, o = .nx e m ∧ W.nx e m) ∨ (∃ p m, o = .rt p m ∧ W.rt p m) ∨ (∃ e m, o = .bk e m ∧ W.bk e m) ∨ (∃ e m, o = .ct e m ∧ W.ct e m)
theorem sat_eq (o : Out) (W : Wp) : o.sat W = o.sat0 W := by
  apply propext
  cases o with
  | nx e m => exact ⟨fun h => by
      rcases h with ⟨_, _, h, h2⟩ | ⟨_, _, h, h2⟩ | ⟨_, _, h, h2⟩ | ⟨_, _, h, h2⟩ <;> cases h <;> exact h2, fun h => .inl ⟨_, _, rfl, h⟩⟩
  | rt e m => exact ⟨fun h => by
      rcases h with ⟨_, _, h, h2⟩ | ⟨_, _, h, h2⟩ | ⟨_, _, h, h2⟩ | ⟨_, _, h, h2⟩ <;> cases h <;> exact h2, fun h => .inr (.inl ⟨_, _, rfl, h⟩)⟩
  | bk e m => exact ⟨fun h => by
      rcases h with ⟨_, _, h, h2⟩ | ⟨_, _, h, h2⟩ | ⟨_, _, h, h2⟩ | ⟨_, _, h, h2⟩ <;> cases h <;> exact h2, fun h => .inr (.inr (.inl ⟨_, _, rfl, h⟩))⟩
  | ct e m => exact ⟨fun h => by
      rcases h with ⟨_, _, h, h2⟩ | ⟨_, _, h, h2⟩ | ⟨_, _, h, h2⟩ | ⟨_, _, h, h2⟩ <;> cases h <;> exact h2, fun h => .inr (.inr (.inr ⟨_, _, rfl, h⟩))⟩
  | exc e m => exact ⟨fun h => by simp [Out.sat] at h, fun h => h.elim⟩
  | stuck => exact ⟨fun h => by simp [Out.sat] at h, fun h => h.elim⟩
@[simp] theorem sat_nx (e : Env) (m : Mem) (W : Wp) : (Out.nx e m).sat W = W.nx e m := by rw [sat_eq]; exact id rfl
@[simp] theorem sat_rt (p : PV) (m : Mem) (W : Wp) : (Out.rt p m).sat W = W.rt p m := by rw [sat_eq]; exact id rfl
@[simp] theorem sat_bk (e : Env) (m : Mem) (W : Wp) : (Out.bk e m).sat W = W.bk e m := by rw [sat_eq]; exact id rfl
@[simp] theorem sat_ct (e : Env) (m : Mem) (W : Wp) : (Out.ct e m).sat W = W.ct e m := by rw [sat_eq]; exact id rfl
@[simp] theorem sat_stuck (W : Wp) : Out.stuck.sat W = False := by rw [sat_eq]; exact id rfl
@[simp] theorem sat_exc (x : PX) (m : Mem) (W : Wp) : (Out.exc x m).sat W = False := by rw [sat_eq]; exact id rfl
def Res.sat {α : Type} (r : Res α) (P : α → Mem → Prop) : Prop := ∃ a m, r = .ok a m ∧ P a m
@[simp] theorem rsat_ok {α : Type} (a : α) (m : Mem) (P : α → Mem → Prop) : (Res.ok a m).sat P = P a m := by
  apply propext
  exact ⟨fun ⟨_, _, h, h2⟩ => by cases h; exact h2, fun h => ⟨a, m, rfl, h⟩⟩
@[simp] theorem rsat_stuck {α : Type} (P : α → Mem → Prop) : (Res.stuck : Res α).sat P = False := by
  apply propext
  simp [Res.sat]
@[simp] theorem rsat_exc {α : Type} (x : PX) (m : Mem) (P : α → Mem → Prop) : (Res.exc x m : Res α).sat P = False := by
  apply propext
  simp [Res.sat]
theorem rsat_ex {α : Type} {r : Res α} {P : α → Mem → Prop} (h : r.sat P) : ∃ a m, r = .ok a m ∧ P a m := h
theorem rsat_imp {α : Type} {r : Res α} {P Q : α → Mem → Prop} (h : r.sat P) (i : ∀ a m, P a m → Q a m) : r.sat Q := by
  obtain ⟨a, m, rfl, h⟩ := h
  simpa using i a m h
theorem bind_sat {α β : Type} {r : Res α} {k : α → Mem → Res β} {P : β → Mem → Prop} (h : r.sat fun a m => (k a m).sat P) : (r.bind k).sat P := by
  obtain ⟨a, m, rfl, h⟩ := h
  exact h
theorem of_sat {α : Type} {r : Res α} {k : α → Mem → Out} {W : Wp} (h : r.sat fun a m => (k a m).sat W) : (Out.of r k).sat W := by
  obtain ⟨a, m, rfl, h⟩ := h
  exact h
theorem then_sat {o : Out} {k : Sm} {W : Wp} (h : o.sat { W with nx := fun e m => (k e m).sat W }) : (o.then k).sat W := by
  cases o <;> simpa using h
theorem sat_imp {o : Out} {W V : Wp} (h : o.sat W) (h1 : ∀ e m, W.nx e m → V.nx e m) (h2 : ∀ p m, W.rt p m → V.rt p m) (h3 : ∀ e m, W.bk e m → V.bk e m) (h4 : ∀ e m, W.ct e m → V.ct e m) : o.sat V := by
  cases o with
  | nx e m => simp at h ⊢; exact h1 _ _ h
  | rt p m => simp at h ⊢; exact h2 _ _ h
  | bk e m => simp at h ⊢; exact h3 _ _ h
  | ct e m => simp at h ⊢; exact h4 _ _ h
  | exc x m => simp at h
  | stuck => simp at h
/-! truth values open in two -/
@[simp] theorem onS_then (p : PV) (a b : Out) (k : Sm) : (onS p a b).then k = onS p (a.then k) (b.then k) := by
  cases p with
  | bl t => cases t <;> rfl
  | _ => rfl
@[simp] theorem onB_bind {α β : Type} (p : PV) (a b : Res α) (k : α → Mem → Res β) : (onB p a b).bind k = onB p (a.bind k) (b.bind k) := by
  cases p with
  | bl t => cases t <;> rfl
  | _ => rfl
@[simp] theorem onB_of {α : Type} (p : PV) (a b : Res α) (k : α → Mem → Out) : Out.of (onB p a b) k = onS p (Out.of a k) (Out.of b k) := by
  cases p with
  | bl t => cases t <;> rfl
  | _ => rfl
@[simp] theorem of_then {α : Type} (r : Res α) (k : α → Mem → Out) (j : Sm) : (Out.of r k).then j = Out.of r fun a m => (k a m).then j := by cases r <;> rfl
@[simp] theorem bind_bind' {α β γ : Type} (r : Res α) (k : α → Mem → Res β) (j : β → Mem → Res γ) : (r.bind k).bind j = r.bind fun a m => (k a m).bind j := by cases r <;> rfl
@[simp] theorem bind_of {α β : Type} (r : Res α) (k : α → Mem → Res β) (j : β → Mem → Out) : Out.of (r.bind k) j = Out.of r fun a m => Out.of (k a m) j := by cases r <;> rfl
@[simp] theorem then_then (o : Out) (a b : Sm) : (o.then a).then b = o.then fun e m => (a e m).then b := by cases o <;> rfl
@[simp] theorem onS_sat (t : Bool) (a b : Out) (W : Wp) : (onS (.bl t) a b).sat W ↔ (t = true → a.sat W) ∧ (t = false → b.sat W) := by cases t <;> simp
@[simp] theorem onB_sat {α : Type} (t : Bool) (a b : Res α) (P : α → Mem → Prop) : (onB (.bl t) a b).sat P ↔ (t = true → a.sat P) ∧ (t = false → b.sat P) := by cases t <;> simp
theorem run_sat {n : Nat} {b : Sm} {args : List PV} {μ : Mem} {P : PV → Mem → Prop} (h : (b (args.map some ++ List.replicate (n - args.length) none) μ).sat { rt := P, nx := fun _ m => P .non m }) : (run n b args μ).sat P := by
  rw [run_ev]
  generalize (b (args.map some ++ List.replicate (n - args.length) none) μ) = o at h
  cases o <;> simpa using h
/-- a def whose result is data: the memory as the body left it, its own cells dropped -/
theorem fn_sat_data {n : Nat} {b : Sm} {args : List PV} {μ : Mem} {p : PV} (hd : p.data = true) (h : (run n b args μ).sat fun q m => q = p ∧ ∃ l, m = μ ++ l) : fn n b args μ = .ok p μ := by
  obtain ⟨q, m, e, rfl, l, rfl⟩ := rsat_ex h
  exact fn_data e hd
/-! loops -/
def turn (g : Tg) (b : Sm) (p : PV) (env : Env) (μ : Mem) : Out := .of (g p env μ) fun e1 μ1 => b e1 μ1
@[simp] theorem turn_ev (g : Tg) (b : Sm) (p : PV) (env : Env) (μ : Mem) : turn g b p env μ = .of (g p env μ) fun e1 μ1 => b e1 μ1 := id rfl
theorem for_sat {α : Type} {lk : List (Nat × List PV)} {g : Tg} {b k : Sm} {W : Wp} {env : Env} {μ : Mem} (enc : α → PV) (xs : List α) (R : Nat → Env → Mem → Prop) (hl : ∀ i env μ, R i env μ → locked lk μ) (h : R 0 env μ)
    (st : ∀ i x env μ, xs[i]? = some x → R i env μ → (turn g b (enc x) env μ).sat { nx := R (i + 1), ct := R (i + 1), bk := fun e m => (k e m).sat W, rt := W.rt })
    (hk : ∀ e m, R xs.length e m → (k e m).sat W) : ((forN lk g b (xs.map enc) env μ).then k).sat W := by
  have go : ∀ (n i : Nat) (env : Env) (μ : Mem), n + i = xs.length → R i env μ → ((forN lk g b ((xs.drop i).map enc) env μ).then k).sat W := by
    intro n
    induction n with
    | zero =>
      intro i env μ hi h
      have : i = xs.length := by omega
      subst this
      rw [List.drop_length, List.map_nil, forN_nil (hl _ env μ h)]
      exact hk env μ h
    | succ n ih =>
      intro i env μ hi h
      have hlt : i < xs.length := by omega
      have s1 := st i xs[i] env μ (List.getElem?_eq_getElem hlt) h
      rw [sat_eq] at s1
      rw [List.drop_eq_getElem_cons hlt, List.map_cons, forN_cons (hl i env μ h)]
      unfold turn at s1
      cases z : g (enc xs[i]) env μ with
      | ok e1 μ1 =>
        rw [z] at s1
        simp only [Out.of_ok] at s1 ⊢
        cases z2 : b e1 μ1 with
        | nx e m => rw [z2] at s1; exact ih (i + 1) e m (by omega) s1
        | ct e m => rw [z2] at s1; exact ih (i + 1) e m (by omega) s1
        | bk e m => rw [z2] at s1; exact s1
        | rt p m => rw [z2] at s1; rw [Out.then_rt, sat_rt]; exact s1
        | exc x m => rw [z2] at s1; exact s1.elim
        | stuck => rw [z2] at s1; exact s1.elim
      | exc x m => rw [z] at s1; exact s1.elim
      | stuck => rw [z] at s1; exact s1.elim
  have := go xs.length 0 env μ (by omega) h
  rwa [List.drop_zero] at this
theorem for_sat0 {α : Type} {lk : List (Nat × List PV)} {g : Tg} {b : Sm} {W : Wp} {env : Env} {μ : Mem} (enc : α → PV) (xs : List α) (R : Nat → Env → Mem → Prop) (hl : ∀ i env μ, R i env μ → locked lk μ) (h : R 0 env μ)
    (st : ∀ i x env μ, xs[i]? = some x → R i env μ → (turn g b (enc x) env μ).sat { nx := R (i + 1), ct := R (i + 1), bk := W.nx, rt := W.rt })
    (hk : ∀ e m, R xs.length e m → W.nx e m) : (forN lk g b (xs.map enc) env μ).sat W := by
  have e : forN lk g b (xs.map enc) env μ = (forN lk g b (xs.map enc) env μ).then fun e m => .nx e m := by
    generalize forN lk g b (xs.map enc) env μ = o
    cases o <;> rfl
  rw [e]
  exact for_sat enc xs R hl h (fun i x env μ hx hR => by simpa using st i x env μ hx hR) (by simpa using hk)
/-- while, by a measure -/
theorem while_sat {t : Ex} {b k : Sm} {W : Wp} {env : Env} {μ : Mem} (R : Nat → Env → Mem → Prop) (n0 : Nat) (hn : n0 < fuel) (h : R n0 env μ)
    (st : ∀ n env μ, R n env μ → (t env μ).sat fun p m => ∃ c, p = .bl c ∧ (c = true → (b env m).sat { nx := fun e m => ∃ n', n' < n ∧ R n' e m, ct := fun e m => ∃ n', n' < n ∧ R n' e m, bk := fun e m => (k e m).sat W, rt := W.rt }) ∧ (c = false → (k env m).sat W)) :
    ((whileN t b fuel env μ).then k).sat W := by
  have go : ∀ (N n : Nat) (env : Env) (μ : Mem), n < N → R n env μ → ((whileN t b N env μ).then k).sat W := by
    intro N
    induction N with
    | zero => intro n env μ hn; omega
    | succ N ih =>
      intro n env μ hn h
      have s1 := st n env μ h
      unfold whileN
      cases z : t env μ with
      | ok p m =>
        rw [z, rsat_ok] at s1
        obtain ⟨c, rfl, s2, s3⟩ := s1
        simp only [Out.of_ok]
        cases c with
        | false => exact s3 rfl
        | true =>
          have s4 := s2 rfl
          rw [sat_eq] at s4
          simp only [onS_true]
          cases z2 : b env m with
          | nx e m => rw [z2] at s4; obtain ⟨n', h1, h2⟩ := s4; exact ih n' e m (by omega) h2
          | ct e m => rw [z2] at s4; obtain ⟨n', h1, h2⟩ := s4; exact ih n' e m (by omega) h2
          | bk e m => rw [z2] at s4; exact s4
          | rt p m => rw [z2] at s4; rw [Out.then_rt, sat_rt]; exact s4
          | exc x m => rw [z2] at s4; exact s4.elim
          | stuck => rw [z2] at s4; exact s4.elim
      | exc x m => rw [z, rsat_exc] at s1; exact s1.elim
      | stuck => rw [z, rsat_stuck] at s1; exact s1.elim
  exact go fuel n0 env μ hn h
/-- comprehensions: the list that is made, what each item gives (none: left out) -/
theorem lcN_map {α : Type} {lk : List (Nat × List PV)} {g : Tg} {t e : Ex} {vs : List Nat} {n : Nat} {env : Env} (enc : α → PV) (F : α → Option PV) (M : List PV → Mem) (hn : ∀ acc, (M acc)[n]? = some (.lst acc)) (hs : ∀ acc acc', (M acc).set n (.lst acc') = M acc') (hl : ∀ acc, locked lk (M acc)) :
    ∀ (xs : List α) (acc : List PV), acc.length + xs.length < SL → (∀ x ∈ xs, ∀ acc, ∃ e1, g (enc x) (wipe env vs) (M acc) = .ok e1 (M acc) ∧
      match F x with
      | some q => t e1 (M acc) = .ok (.bl true) (M acc) ∧ e e1 (M acc) = .ok q (M acc)
      | none => t e1 (M acc) = .ok (.bl false) (M acc)) →
    lcN lk g t e vs n env (xs.map enc) (M acc) = .ok () (M (acc ++ xs.filterMap F))
  | [], acc, _, _ => by rw [List.map_nil, lcN, if_pos (hl acc)]; simp
  | x :: xs, acc, hz, st => by
    obtain ⟨e1, h1, h2⟩ := st x List.mem_cons_self acc
    rw [List.map_cons, lcN, if_pos (hl acc), h1]
    simp only [Res.bind_ok]
    simp only [List.length_cons] at hz
    cases hF : F x with
    | none =>
      rw [hF] at h2
      simp only at h2
      rw [h2]
      simp only [Res.bind_ok, onB_false]
      rw [lcN_map enc F M hn hs hl xs acc (by omega) fun x hx => st x (List.mem_cons_of_mem _ hx), List.filterMap_cons_none hF]
    | some q =>
      rw [hF] at h2
      simp only at h2
      rw [h2.1]
      simp only [Res.bind_ok, onB_true]
      rw [h2.2]
      simp only [Res.bind_ok]
      rw [push1_ok _ (hn acc) (by omega)]
      simp only
      rw [hs, lcN_map enc F M hn hs hl xs (acc ++ [q]) (by rw [List.length_append, List.length_singleton]; omega) fun x hx => st x (List.mem_cons_of_mem _ hx), List.filterMap_cons_some hF]
      simp
/-- a comprehension whose parts leave the memory alone -/
theorem lc_pure {α : Type} {it : It} {g : Tg} {t e : Ex} {vs : List Nat} {env : Env} {μ μ1 : Mem} {lk : List (Nat × List PV)} (enc : α → PV) (F : α → Option PV) (xs : List α) (hi : it env μ = .ok ⟨xs.map enc, lk⟩ μ1) (hl : ∀ l, locked lk (μ1 ++ l)) (hz : xs.length < SL)
    (st : ∀ x ∈ xs, ∀ l, ∃ e1, g (enc x) (wipe env vs) (μ1 ++ l) = .ok e1 (μ1 ++ l) ∧
      match F x with
      | some q => t e1 (μ1 ++ l) = .ok (.bl true) (μ1 ++ l) ∧ e e1 (μ1 ++ l) = .ok q (μ1 ++ l)
      | none => t e1 (μ1 ++ l) = .ok (.bl false) (μ1 ++ l)) :
    lc it g t e vs env μ = .ok (.ref μ1.length) (μ1 ++ [.lst (xs.filterMap F)]) := by
  rw [lc_ev, hi]
  simp only [Res.bind_ok]
  have := lcN_map (lk := lk) (g := g) (t := t) (e := e) (vs := vs) (n := μ1.length) (env := env) enc F (fun acc => μ1 ++ [.lst acc]) (fun acc => by simp) (fun acc acc' => by simp) (fun acc => hl _) xs [] (by simpa using hz) fun x hx acc => st x hx _
  rw [this]
  simp
theorem locked_app {lk : List (Nat × List PV)} {μ : Mem} (h : locked lk μ) (l : Mem) : locked lk (μ ++ l) := fun x hx => by
  rcases h x hx with h | h
  · exact .inl (get_some h)
  · exact .inr (get_some h)
theorem gc_keep {μ m : Mem} {p : PV} (h : p.under μ.length = false) : gc μ (.ok p m) = .ok p m := by
  unfold gc
  simp only
  rw [if_neg fun z => by rw [z.2.1] at h; cases h]
/-- a comprehension whose parts change the memory: R by the turn, what is made so far, the memory -/
theorem lc_sat {α : Type} {it : It} {g : Tg} {t e : Ex} {vs : List Nat} {env : Env} {μ μ1 : Mem} {lk : List (Nat × List PV)} {P : PV → Mem → Prop} (enc : α → PV) (xs : List α) (R : Nat → List PV → Mem → Prop) (hi : it env μ = .ok ⟨xs.map enc, lk⟩ μ1)
    (hl : ∀ i acc m, R i acc m → locked lk m) (h0 : R 0 [] (μ1 ++ [.lst []])) (hz : xs.length < SL) (hacc : ∀ i acc m, R i acc m → acc.length ≤ i)
    (st : ∀ i x acc m, xs[i]? = some x → R i acc m → (g (enc x) (wipe env vs) m).sat fun e1 m1 => (t e1 m1).sat fun b m2 => ∃ c, b = .bl c ∧ (c = false → R (i + 1) acc m2) ∧ (c = true → (e e1 m2).sat fun q m3 => m3[μ1.length]? = some (.lst acc) ∧ R (i + 1) (acc ++ [q]) (m3.set μ1.length (.lst (acc ++ [q])))))
    (hk : ∀ acc m, R xs.length acc m → P (.ref μ1.length) m) : (lc it g t e vs env μ).sat P := by
  rw [lc_ev, hi]
  simp only [Res.bind_ok]
  have go : ∀ (n i : Nat) (acc : List PV) (m : Mem), n + i = xs.length → R i acc m → ((lcN lk g t e vs μ1.length env ((xs.drop i).map enc) m).bind fun _ μ2 => .ok (.ref μ1.length) μ2).sat P := by
    intro n
    induction n with
    | zero =>
      intro i acc m hi h
      have : i = xs.length := by omega
      subst this
      rw [List.drop_length, List.map_nil, lcN, if_pos (hl _ acc m h), Res.bind_ok, rsat_ok]
      exact hk acc m h
    | succ n ih =>
      intro i acc m hi h
      have hlt : i < xs.length := by omega
      have s1 := st i xs[i] acc m (List.getElem?_eq_getElem hlt) h
      rw [List.drop_eq_getElem_cons hlt, List.map_cons, lcN, if_pos (hl i acc m h)]
      obtain ⟨e1, m1, z1, s2⟩ := rsat_ex s1
      obtain ⟨b, m2, z2, c, rfl, s3, s4⟩ := rsat_ex s2
      rw [z1]
      simp only [Res.bind_ok]
      rw [z2]
      simp only [Res.bind_ok]
      cases c with
      | false => exact ih (i + 1) acc m2 (by omega) (s3 rfl)
      | true =>
        obtain ⟨q, m3, z3, s5, s6⟩ := rsat_ex (s4 rfl)
        simp only [onB_true]
        rw [z3]
        simp only [Res.bind_ok]
        have ha := hacc i acc m h
        rw [push1_ok _ s5 (by omega)]
        exact ih (i + 1) _ _ (by omega) s6
  have := go xs.length 0 [] (μ1 ++ [.lst []]) (by omega) h0
  rwa [List.drop_zero] at this
theorem take_succ' {α : Type} {xs : List α} {i : Nat} {x : α} (h : xs[i]? = some x) : xs.take (i + 1) = xs.take i ++ [x] := by
  rw [List.take_add_one, h]; rfl
theorem lt_of_get {α : Type} {xs : List α} {i : Nat} {x : α} (h : xs[i]? = some x) : i < xs.length := (List.getElem?_eq_some_iff.mp h).1
end PL
end
section
set_option autoImplicit false
/-! Data: what is read, compared, shown. -/
namespace PL
open PySem
mutual
def PV.pd : PV → PyData
  | .non => .none
  | .bl b => .bool b
  | .int i => .int i
  | .str x => .str x
  | .tup l => .tuple (PV.pds l)
  | .ref _ => .none
  | .cst _ => .none
def PV.pds : List PV → List PyData
  | [] => []
  | p :: ps => PV.pd p :: PV.pds ps
end
@[simp] theorem pds_nil : PV.pds [] = [] := by simp only [PV.pds]
@[simp] theorem pds_cons (p : PV) (l : List PV) : PV.pds (p :: l) = p.pd :: PV.pds l := by simp only [PV.pds]
@[simp] theorem pd_tup (l : List PV) : PV.pd (.tup l) = .tuple (PV.pds l) := by simp only [PV.pd]
@[simp] theorem pd_int (i : Int) : PV.pd (.int i) = .int i := by simp only [PV.pd]
@[simp] theorem pd_str (i : Str) : PV.pd (.str i) = .str i := by simp only [PV.pd]
@[simp] theorem pd_bl (i : Bool) : PV.pd (.bl i) = .bool i := by simp only [PV.pd]
@[simp] theorem pd_non : PV.pd .non = .none := by simp only [PV.pd]
theorem pds_map (l : List PV) : PV.pds l = l.map PV.pd := by
  induction l with
  | nil => simp
  | cons p ps ih => simp [ih]
mutual
theorem conv_pd (r : Nat → Option PyData) : ∀ p : PV, p.data = true → PV.conv r p = some p.pd
  | .tup l, h => by simp only [PV.data] at h; simp only [PV.conv, convs_pd r l h, Option.map_some, PV.pd]
  | .ref _, h => by simp [PV.data] at h
  | .cst _, h => by simp [PV.data] at h
  | .non, _ => by simp only [PV.conv, PV.pd]
  | .bl _, _ => by simp only [PV.conv, PV.pd]
  | .int _, _ => by simp only [PV.conv, PV.pd]
  | .str _, _ => by simp only [PV.conv, PV.pd]
theorem convs_pd (r : Nat → Option PyData) : ∀ l : List PV, PV.datas l = true → PV.convs r l = some (PV.pds l)
  | [], _ => by simp only [PV.convs, PV.pds]
  | p :: ps, h => by
    simp only [PV.datas, Bool.and_eq_true] at h
    simp only [PV.convs, conv_pd r p h.1, convs_pd r ps h.2, Option.bind_some, Option.map_some, PV.pds]
end
theorem toD_data {μ : Mem} {p : PV} (h : p.data = true) : toD μ p = some p.pd := by
  unfold toD toDn
  exact conv_pd _ p h
theorem toD_ref (μ : Mem) (n : Nat) : toD μ (.ref n) = (match μ[n]? with
    | some (.lst l) => (PV.convs (fun j => toDn μ 4 (.ref j)) l).map .list
    | some (.ro l) => (PV.convs (fun j => toDn μ 4 (.ref j)) l).map .list
    | _ => none) := by
  unfold toD
  rw [toDn]
  simp only [PV.conv]
  try rfl
theorem toD_lst {μ : Mem} {n : Nat} {l : List PV} (h : μ[n]? = some (.lst l)) (hd : PV.datas l = true) : toD μ (.ref n) = some (.list (PV.pds l)) := by
  rw [toD_ref, h]
  simp only
  rw [convs_pd _ l hd]
  rfl
/-! how great data is: numbers and texts that can be shown, how many items, how deep -/
end PL
namespace PySem.PyData
mutual
def sm : PyData → Bool
  | .none => true
  | .bool _ => true
  | .int i => decide (i.natAbs.log2 < 1920)
  | .str x => strOk x && decide ((reprText x).length ≤ 1990)
  | .list l => sms l
  | .tuple l => sms l
  | .dict _ => false
def sms : List PyData → Bool
  | [] => true
  | x :: xs => sm x && sms xs
end
mutual
def wt : PyData → Nat
  | .list l => wts l + 1
  | .tuple l => wts l + 1
  | .none => 1 | .bool _ => 1 | .int _ => 1 | .str _ => 1 | .dict _ => 1
def wts : List PyData → Nat
  | [] => 0
  | x :: xs => wt x + wts xs
end
end PySem.PyData
namespace PL
open PySem
@[simp] theorem sm_none : PyData.none.sm = true := by simp only [PyData.sm]
@[simp] theorem sm_bool (b : Bool) : (PyData.bool b).sm = true := by simp only [PyData.sm]
@[simp] theorem sm_int (i : Int) : (PyData.int i).sm = decide (i.natAbs.log2 < 1920) := by simp only [PyData.sm]
@[simp] theorem sm_str (x : Str) : (PyData.str x).sm = (PyData.strOk x && decide ((reprText x).length ≤ 1990)) := by simp only [PyData.sm]
@[simp] theorem sm_list (l : List PyData) : (PyData.list l).sm = PyData.sms l := by simp only [PyData.sm]
@[simp] theorem sm_tuple (l : List PyData) : (PyData.tuple l).sm = PyData.sms l := by simp only [PyData.sm]
@[simp] theorem sms_nil : PyData.sms [] = true := by simp only [PyData.sms]
@[simp] theorem sms_cons (x : PyData) (l : List PyData) : PyData.sms (x :: l) = (x.sm && PyData.sms l) := by simp only [PyData.sms]
@[simp] theorem wt_none : PyData.none.wt = 1 := by simp only [PyData.wt]
@[simp] theorem wt_bool (b : Bool) : (PyData.bool b).wt = 1 := by simp only [PyData.wt]
@[simp] theorem wt_int (i : Int) : (PyData.int i).wt = 1 := by simp only [PyData.wt]
@[simp] theorem wt_str (x : Str) : (PyData.str x).wt = 1 := by simp only [PyData.wt]
@[simp] theorem wt_list (l : List PyData) : (PyData.list l).wt = PyData.wts l + 1 := by simp only [PyData.wt]
@[simp] theorem wt_tuple (l : List PyData) : (PyData.tuple l).wt = PyData.wts l + 1 := by simp only [PyData.wt]
@[simp] theorem wts_nil : PyData.wts [] = 0 := by simp only [PyData.wts]
@[simp] theorem wts_cons (x : PyData) (l : List PyData) : PyData.wts (x :: l) = x.wt + PyData.wts l := by simp only [PyData.wts]
@[simp] theorem dp_none : PyData.none.depth = 0 := by simp only [PyData.depth]
@[simp] theorem dp_bool (b : Bool) : (PyData.bool b).depth = 0 := by simp only [PyData.depth]
@[simp] theorem dp_int (i : Int) : (PyData.int i).depth = 0 := by simp only [PyData.depth]
@[simp] theorem dp_str (x : Str) : (PyData.str x).depth = 0 := by simp only [PyData.depth]
@[simp] theorem dp_list (l : List PyData) : (PyData.list l).depth = PyData.depthAll l + 1 := by simp only [PyData.depth]
@[simp] theorem dp_tuple (l : List PyData) : (PyData.tuple l).depth = PyData.depthAll l + 1 := by simp only [PyData.depth]
@[simp] theorem dps_nil : PyData.depthAll [] = 0 := by simp only [PyData.depthAll]
@[simp] theorem dps_cons (x : PyData) (l : List PyData) : PyData.depthAll (x :: l) = max x.depth (PyData.depthAll l) := by simp only [PyData.depthAll]
theorem sms_iff (l : List PyData) : PyData.sms l = true ↔ ∀ x ∈ l, x.sm = true := by
  induction l with
  | nil => simp
  | cons x xs ih => simp [ih]
@[simp] theorem sms_app (l k : List PyData) : PyData.sms (l ++ k) = (PyData.sms l && PyData.sms k) := by
  induction l with
  | nil => simp
  | cons x xs ih => simp [ih, Bool.and_assoc]
@[simp] theorem wts_app (l k : List PyData) : PyData.wts (l ++ k) = PyData.wts l + PyData.wts k := by
  induction l with
  | nil => simp
  | cons x xs ih => simp [ih]; omega
theorem wts_le {l : List PyData} {k : Nat} (h : ∀ x ∈ l, x.wt ≤ k) : PyData.wts l ≤ k * l.length := by
  induction l with
  | nil => simp
  | cons x xs ih =>
    have := h x List.mem_cons_self
    have := ih fun y hy => h y (List.mem_cons_of_mem _ hy)
    simp only [wts_cons, List.length_cons, Nat.mul_add]
    omega
theorem dps_le {l : List PyData} {k : Nat} (h : ∀ x ∈ l, x.depth ≤ k) : PyData.depthAll l ≤ k := by
  induction l with
  | nil => simp
  | cons x xs ih =>
    have := h x List.mem_cons_self
    have := ih fun y hy => h y (List.mem_cons_of_mem _ hy)
    simp only [dps_cons]
    omega
mutual
theorem lay_sm : ∀ d : PyData, d.sm = true → d.canLay0 = true
  | .none, _ => by simp only [PyData.canLay0]
  | .bool _, _ => by simp only [PyData.canLay0]
  | .int _, _ => by simp only [PyData.canLay0]
  | .str x, h => by simp only [PyData.sm, Bool.and_eq_true] at h; simp only [PyData.canLay0, h.1]
  | .list l, h => by simp only [PyData.sm] at h; simp only [PyData.canLay0, lays_sm l h]
  | .tuple l, h => by simp only [PyData.sm] at h; simp only [PyData.canLay0, lays_sm l h]
  | .dict _, h => by simp [PyData.sm] at h
theorem lays_sm : ∀ l : List PyData, PyData.sms l = true → PyData.canLayAll0 l = true
  | [], _ => by simp only [PyData.canLayAll0]
  | x :: xs, h => by
    simp only [PyData.sms, Bool.and_eq_true] at h
    simp only [PyData.canLayAll0, lay_sm x h.1, lays_sm xs h.2, Bool.and_self]
end
mutual
theorem shw_sm : ∀ d : PyData, d.sm = true → d.showable = true
  | .none, _ => by simp only [PyData.showable]
  | .bool _, _ => by simp only [PyData.showable]
  | .int _, h => by simp only [PyData.sm] at h; simp only [PyData.showable, h]
  | .str x, h => by simp only [PyData.showable]
  | .list l, h => by simp only [PyData.sm] at h; simp only [PyData.showable, shws_sm l h]
  | .tuple l, h => by simp only [PyData.sm] at h; simp only [PyData.showable, shws_sm l h]
  | .dict _, h => by simp [PyData.sm] at h
theorem shws_sm : ∀ l : List PyData, PyData.sms l = true → PyData.showableAll l = true
  | [], _ => by simp only [PyData.showableAll]
  | x :: xs, h => by
    simp only [PyData.sms, Bool.and_eq_true] at h
    simp only [PyData.showableAll, shw_sm x h.1, shws_sm xs h.2, Bool.and_self]
end
theorem shaped_sm {d : PyData} (h : d.sm = true) (hd : d.depth ≤ 60) : SeqAt.shaped d = true := by
  unfold SeqAt.shaped
  rw [lay_sm d h]
  simp; omega
theorem join_len (ts : List Str) : (Str.join ", " ts).length ≤ (ts.map fun t => t.length + 2).sum := by
  cases ts with
  | nil => decide
  | cons t r =>
    have h := join_length_add (t :: r) (by simp)
    have : ∀ l : List Str, piled l = (l.map fun t => t.length + 2).sum := by
      intro l
      induction l with
      | nil => rfl
      | cons a b ih => rw [piled_cons, ih]; simp
    rw [this] at h
    omega
mutual
theorem shown_len : ∀ d : PyData, d.sm = true → d.shown.length + 2 ≤ 2000 * d.wt
  | .none, _ => by rw [PyData.shown_none, wt_none]; decide
  | .bool b, _ => by rw [PyData.shown_bool, wt_bool]; cases b <;> decide
  | .int i, h => by
    rw [PyData.shown_int, wt_int]
    rw [sm_int, decide_eq_true_eq] at h
    have := int_text_length_le (k := 1920) (by decide) h
    have e : (Str.ofString (toString i)).length = (toString i).length := by
      rw [Str.ofString_eq_toList]; simp only [Str.length, List.size_toArray, List.length_map, String.length_toList]
    rw [e]
    omega
  | .str x, h => by
    rw [PyData.shown_str, wt_str]
    rw [sm_str, Bool.and_eq_true, decide_eq_true_eq] at h
    omega
  | .list l, h => by
    rw [PyData.shown_list, wt_list]
    rw [sm_list] at h
    have h1 := join_len (PyData.shownAll l)
    have h2 := showns_len l h
    simp only [strLen_append]
    have e1 : (Str.ofString "[").length = 1 := by decide
    have e2 : (Str.ofString "]").length = 1 := by decide
    rw [e1, e2]
    omega
  | .tuple l, h => by
    rw [PyData.shown_tuple, wt_tuple]
    rw [sm_tuple] at h
    have h1 := join_len (PyData.shownAll l)
    have h2 := showns_len l h
    simp only [strLen_append]
    have e1 : (Str.ofString "(").length = 1 := by decide
    have e2 : (Str.ofString (if l.length == 1 then ",)" else ")" : String)).length ≤ 2 := by split <;> decide
    rw [e1]
    omega
  | .dict _, h => by simp [PyData.sm] at h
theorem showns_len : ∀ l : List PyData, PyData.sms l = true → ((PyData.shownAll l).map fun t => t.length + 2).sum ≤ 2000 * PyData.wts l
  | [], _ => by rw [PyData.shownAll_nil]; simp
  | x :: xs, h => by
    simp only [sms_cons, Bool.and_eq_true] at h
    rw [PyData.shownAll_cons, wts_cons]
    have h1 := shown_len x h.1
    have h2 := showns_len xs h.2
    simp only [List.map_cons, List.sum_cons]
    omega
end
theorem repr_ok {μ : Mem} {p : PV} {d : PyData} (h : toD μ p = some d) (hs : d.sm = true) (hw : d.wt ≤ 8000) (hd : d.depth ≤ 60) : fRepr [p] μ = .ok (.str d.shown) μ := by
  simp only [fRepr, h]
  have := shown_len d hs
  rw [if_pos ⟨shw_sm d hs, by show _ ≤ 16777216; omega, by omega⟩]
/-- == with the empty list -/
theorem eqR_nil {μ : Mem} {a b : Nat} {l : List PV} (ha : μ[a]? = some (.lst l)) (hb : μ[b]? = some (.lst [])) (hl : PV.datas l = true) (hs : PyData.sms (PV.pds l) = true) (hd : PyData.depthAll (PV.pds l) ≤ 59) : eqR μ (.ref a) (.ref b) = some l.isEmpty := by
  unfold eqR
  simp only [scalP]
  rw [toD_lst ha hl, toD_lst hb (by simp)]
  simp only
  rw [if_pos ⟨shaped_sm (by simpa using hs) (by simp; omega), shaped_sm (by simp) (by simp)⟩]
  cases l <;> simp [PyData.eqv, PyData.eqvAll]
theorem fNe_nil {μ : Mem} {a b : Nat} {l : List PV} (ha : μ[a]? = some (.lst l)) (hb : μ[b]? = some (.lst [])) (hl : PV.datas l = true) (hs : PyData.sms (PV.pds l) = true) (hd : PyData.depthAll (PV.pds l) ≤ 59) : fNe [.ref a, .ref b] μ = .ok (.bl (!l.isEmpty)) μ := by
  simp only [fNe, eqR_nil ha hb hl hs hd]
theorem fEq_nil {μ : Mem} {a b : Nat} {l : List PV} (ha : μ[a]? = some (.lst l)) (hb : μ[b]? = some (.lst [])) (hl : PV.datas l = true) (hs : PyData.sms (PV.pds l) = true) (hd : PyData.depthAll (PV.pds l) ≤ 59) : fEq [.ref a, .ref b] μ = .ok (.bl l.isEmpty) μ := by
  simp only [fEq, eqR_nil ha hb hl hs hd]
@[simp] theorem pds_app (l k : List PV) : PV.pds (l ++ k) = PV.pds l ++ PV.pds k := by simp [pds_map]
@[simp] theorem datas_app (l k : List PV) : PV.datas (l ++ k) = (PV.datas l && PV.datas k) := by
  induction l with
  | nil => simp
  | cons x xs ih => simp [ih, Bool.and_assoc]
end PL
end
section
set_option autoImplicit false
/-! Memories that grow; results that are new lists. -/
namespace PL
open PySem
@[simp] theorem get_new_2 (μ l : Mem) : (μ ++ l)[μ.length + 1 + 1]? = l[2]? := get_new μ l 2
@[simp] theorem set_new_2 (μ l : Mem) (o : PO) : (μ ++ l).set (μ.length + 1 + 1) o = μ ++ l.set 2 o := set_new μ l 2 o
@[simp] theorem get_new_3 (μ l : Mem) : (μ ++ l)[μ.length + 1 + 1 + 1]? = l[3]? := get_new μ l 3
@[simp] theorem set_new_3 (μ l : Mem) (o : PO) : (μ ++ l).set (μ.length + 1 + 1 + 1) o = μ ++ l.set 3 o := set_new μ l 3 o
@[simp] theorem get_new_4 (μ l : Mem) : (μ ++ l)[μ.length + 1 + 1 + 1 + 1]? = l[4]? := get_new μ l 4
@[simp] theorem set_new_4 (μ l : Mem) (o : PO) : (μ ++ l).set (μ.length + 1 + 1 + 1 + 1) o = μ ++ l.set 4 o := set_new μ l 4 o
@[simp] theorem get_new_5 (μ l : Mem) : (μ ++ l)[μ.length + 1 + 1 + 1 + 1 + 1]? = l[5]? := get_new μ l 5
@[simp] theorem set_new_5 (μ l : Mem) (o : PO) : (μ ++ l).set (μ.length + 1 + 1 + 1 + 1 + 1) o = μ ++ l.set 5 o := set_new μ l 5 o
@[simp] theorem get_new_6 (μ l : Mem) : (μ ++ l)[μ.length + 1 + 1 + 1 + 1 + 1 + 1]? = l[6]? := get_new μ l 6
@[simp] theorem set_new_6 (μ l : Mem) (o : PO) : (μ ++ l).set (μ.length + 1 + 1 + 1 + 1 + 1 + 1) o = μ ++ l.set 6 o := set_new μ l 6 o
@[simp] theorem get_new_7 (μ l : Mem) : (μ ++ l)[μ.length + 1 + 1 + 1 + 1 + 1 + 1 + 1]? = l[7]? := get_new μ l 7
@[simp] theorem set_new_7 (μ l : Mem) (o : PO) : (μ ++ l).set (μ.length + 1 + 1 + 1 + 1 + 1 + 1 + 1) o = μ ++ l.set 7 o := set_new μ l 7 o
@[simp] theorem get_new_8 (μ l : Mem) : (μ ++ l)[μ.length + 1 + 1 + 1 + 1 + 1 + 1 + 1 + 1]? = l[8]? := get_new μ l 8
@[simp] theorem set_new_8 (μ l : Mem) (o : PO) : (μ ++ l).set (μ.length + 1 + 1 + 1 + 1 + 1 + 1 + 1 + 1) o = μ ++ l.set 8 o := set_new μ l 8 o
@[simp] theorem fTup5 (a0 a1 a2 a3 a4 : PV) (μ : Mem) : fTup [a0, a1, a2, a3, a4] μ = .ok (.tup [a0, a1, a2, a3, a4]) μ := id rfl
@[simp] theorem fLst5 (a0 a1 a2 a3 a4 : PV) (μ : Mem) : fLst [a0, a1, a2, a3, a4] μ = .ok (.ref μ.length) (μ ++ [.lst [a0, a1, a2, a3, a4]]) := id rfl
@[simp] theorem fTup6 (a0 a1 a2 a3 a4 a5 : PV) (μ : Mem) : fTup [a0, a1, a2, a3, a4, a5] μ = .ok (.tup [a0, a1, a2, a3, a4, a5]) μ := id rfl
@[simp] theorem fLst6 (a0 a1 a2 a3 a4 a5 : PV) (μ : Mem) : fLst [a0, a1, a2, a3, a4, a5] μ = .ok (.ref μ.length) (μ ++ [.lst [a0, a1, a2, a3, a4, a5]]) := id rfl
@[simp] theorem fTup7 (a0 a1 a2 a3 a4 a5 a6 : PV) (μ : Mem) : fTup [a0, a1, a2, a3, a4, a5, a6] μ = .ok (.tup [a0, a1, a2, a3, a4, a5, a6]) μ := id rfl
@[simp] theorem fLst7 (a0 a1 a2 a3 a4 a5 a6 : PV) (μ : Mem) : fLst [a0, a1, a2, a3, a4, a5, a6] μ = .ok (.ref μ.length) (μ ++ [.lst [a0, a1, a2, a3, a4, a5, a6]]) := id rfl
@[simp] theorem fTup8 (a0 a1 a2 a3 a4 a5 a6 a7 : PV) (μ : Mem) : fTup [a0, a1, a2, a3, a4, a5, a6, a7] μ = .ok (.tup [a0, a1, a2, a3, a4, a5, a6, a7]) μ := id rfl
@[simp] theorem fLst8 (a0 a1 a2 a3 a4 a5 a6 a7 : PV) (μ : Mem) : fLst [a0, a1, a2, a3, a4, a5, a6, a7] μ = .ok (.ref μ.length) (μ ++ [.lst [a0, a1, a2, a3, a4, a5, a6, a7]]) := id rfl
@[simp] theorem fTup9 (a0 a1 a2 a3 a4 a5 a6 a7 a8 : PV) (μ : Mem) : fTup [a0, a1, a2, a3, a4, a5, a6, a7, a8] μ = .ok (.tup [a0, a1, a2, a3, a4, a5, a6, a7, a8]) μ := id rfl
@[simp] theorem fLst9 (a0 a1 a2 a3 a4 a5 a6 a7 a8 : PV) (μ : Mem) : fLst [a0, a1, a2, a3, a4, a5, a6, a7, a8] μ = .ok (.ref μ.length) (μ ++ [.lst [a0, a1, a2, a3, a4, a5, a6, a7, a8]]) := id rfl
@[simp] theorem fTup10 (a0 a1 a2 a3 a4 a5 a6 a7 a8 a9 : PV) (μ : Mem) : fTup [a0, a1, a2, a3, a4, a5, a6, a7, a8, a9] μ = .ok (.tup [a0, a1, a2, a3, a4, a5, a6, a7, a8, a9]) μ := id rfl
@[simp] theorem fLst10 (a0 a1 a2 a3 a4 a5 a6 a7 a8 a9 : PV) (μ : Mem) : fLst [a0, a1, a2, a3, a4, a5, a6, a7, a8, a9] μ = .ok (.ref μ.length) (μ ++ [.lst [a0, a1, a2, a3, a4, a5, a6, a7, a8, a9]]) := id rfl
@[simp] theorem fTup11 (a0 a1 a2 a3 a4 a5 a6 a7 a8 a9 a10 : PV) (μ : Mem) : fTup [a0, a1, a2, a3, a4, a5, a6, a7, a8, a9, a10] μ = .ok (.tup [a0, a1, a2, a3, a4, a5, a6, a7, a8, a9, a10]) μ := id rfl
@[simp] theorem fLst11 (a0 a1 a2 a3 a4 a5 a6 a7 a8 a9 a10 : PV) (μ : Mem) : fLst [a0, a1, a2, a3, a4, a5, a6, a7, a8, a9, a10] μ = .ok (.ref μ.length) (μ ++ [.lst [a0, a1, a2, a3, a4, a5, a6, a7, a8, a9, a10]]) := id rfl
@[simp] theorem fTup12 (a0 a1 a2 a3 a4 a5 a6 a7 a8 a9 a10 a11 : PV) (μ : Mem) : fTup [a0, a1, a2, a3, a4, a5, a6, a7, a8, a9, a10, a11] μ = .ok (.tup [a0, a1, a2, a3, a4, a5, a6, a7, a8, a9, a10, a11]) μ := id rfl
@[simp] theorem fLst12 (a0 a1 a2 a3 a4 a5 a6 a7 a8 a9 a10 a11 : PV) (μ : Mem) : fLst [a0, a1, a2, a3, a4, a5, a6, a7, a8, a9, a10, a11] μ = .ok (.ref μ.length) (μ ++ [.lst [a0, a1, a2, a3, a4, a5, a6, a7, a8, a9, a10, a11]]) := id rfl
@[simp] theorem fTup13 (a0 a1 a2 a3 a4 a5 a6 a7 a8 a9 a10 a11 a12 : PV) (μ : Mem) : fTup [a0, a1, a2, a3, a4, a5, a6, a7, a8, a9, a10, a11, a12] μ = .ok (.tup [a0, a1, a2, a3, a4, a5, a6, a7, a8, a9, a10, a11, a12]) μ := id rfl
@[simp] theorem fLst13 (a0 a1 a2 a3 a4 a5 a6 a7 a8 a9 a10 a11 a12 : PV) (μ : Mem) : fLst [a0, a1, a2, a3, a4, a5, a6, a7, a8, a9, a10, a11, a12] μ = .ok (.ref μ.length) (μ ++ [.lst [a0, a1, a2, a3, a4, a5, a6, a7, a8, a9, a10, a11, a12]]) := id rfl
@[simp] theorem fTup14 (a0 a1 a2 a3 a4 a5 a6 a7 a8 a9 a10 a11 a12 a13 : PV) (μ : Mem) : fTup [a0, a1, a2, a3, a4, a5, a6, a7, a8, a9, a10, a11, a12, a13] μ = .ok (.tup [a0, a1, a2, a3, a4, a5, a6, a7, a8, a9, a10, a11, a12, a13]) μ := id rfl
@[simp] theorem fLst14 (a0 a1 a2 a3 a4 a5 a6 a7 a8 a9 a10 a11 a12 a13 : PV) (μ : Mem) : fLst [a0, a1, a2, a3, a4, a5, a6, a7, a8, a9, a10, a11, a12, a13] μ = .ok (.ref μ.length) (μ ++ [.lst [a0, a1, a2, a3, a4, a5, a6, a7, a8, a9, a10, a11, a12, a13]]) := id rfl
@[simp] theorem fTup15 (a0 a1 a2 a3 a4 a5 a6 a7 a8 a9 a10 a11 a12 a13 a14 : PV) (μ : Mem) : fTup [a0, a1, a2, a3, a4, a5, a6, a7, a8, a9, a10, a11, a12, a13, a14] μ = .ok (.tup [a0, a1, a2, a3, a4, a5, a6, a7, a8, a9, a10, a11, a12, a13, a14]) μ := id rfl
@[simp] theorem fLst15 (a0 a1 a2 a3 a4 a5 a6 a7 a8 a9 a10 a11 a12 a13 a14 : PV) (μ : Mem) : fLst [a0, a1, a2, a3, a4, a5, a6, a7, a8, a9, a10, a11, a12, a13, a14] μ = .ok (.ref μ.length) (μ ++ [.lst [a0, a1, a2, a3, a4, a5, a6, a7, a8, a9, a10, a11, a12, a13, a14]]) := id rfl
@[simp] theorem fTup16 (a0 a1 a2 a3 a4 a5 a6 a7 a8 a9 a10 a11 a12 a13 a14 a15 : PV) (μ : Mem) : fTup [a0, a1, a2, a3, a4, a5, a6, a7, a8, a9, a10, a11, a12, a13, a14, a15] μ = .ok (.tup [a0, a1, a2, a3, a4, a5, a6, a7, a8, a9, a10, a11, a12, a13, a14, a15]) μ := id rfl
@[simp] theorem fLst16 (a0 a1 a2 a3 a4 a5 a6 a7 a8 a9 a10 a11 a12 a13 a14 a15 : PV) (μ : Mem) : fLst [a0, a1, a2, a3, a4, a5, a6, a7, a8, a9, a10, a11, a12, a13, a14, a15] μ = .ok (.ref μ.length) (μ ++ [.lst [a0, a1, a2, a3, a4, a5, a6, a7, a8, a9, a10, a11, a12, a13, a14, a15]]) := id rfl
def Ext (μ m : Mem) : Prop := ∃ l, m = μ ++ l
@[simp] theorem ext_app (μ l : Mem) : Ext μ (μ ++ l) := ⟨l, rfl⟩
@[simp] theorem ext_refl (μ : Mem) : Ext μ μ := ⟨[], by simp⟩
theorem Ext.refl (μ : Mem) : Ext μ μ := ⟨[], by simp⟩
theorem Ext.app (μ l : Mem) : Ext μ (μ ++ l) := ⟨l, rfl⟩
theorem Ext.trans {a b d : Mem} (h : Ext a b) (k : Ext b d) : Ext a d := by
  obtain ⟨l, rfl⟩ := h
  obtain ⟨j, rfl⟩ := k
  exact ⟨l ++ j, by simp⟩
theorem Ext.get {μ m : Mem} (h : Ext μ m) {k : Nat} {o : PO} (e : μ[k]? = some o) : m[k]? = some o := by
  obtain ⟨l, rfl⟩ := h
  exact get_some e
theorem Ext.len {μ m : Mem} (h : Ext μ m) : μ.length ≤ m.length := by
  obtain ⟨l, rfl⟩ := h
  simp
theorem Ext.set {μ m : Mem} (h : Ext μ m) {k : Nat} (hk : μ.length ≤ k) (o : PO) : Ext μ (m.set k o) := by
  obtain ⟨l, rfl⟩ := h
  refine ⟨l.set (k - μ.length) o, ?_⟩
  rw [List.set_append_right _ _ hk]
/-- a new list -/
def NewL (μ : Mem) (l : List PV) (p : PV) (m : Mem) : Prop := ∃ k, p = .ref k ∧ μ.length ≤ k ∧ m[k]? = some (.lst l) ∧ Ext μ m
theorem newL_mk {μ m : Mem} {l : List PV} {k : Nat} (h1 : μ.length ≤ k) (h2 : m[k]? = some (.lst l)) (h3 : Ext μ m) : NewL μ l (.ref k) m := ⟨k, rfl, h1, h2, h3⟩
theorem newL_iff (μ r : Mem) (l : List PV) (k : Nat) : NewL μ l (.ref (μ.length + k)) (μ ++ r) ↔ r[k]? = some (.lst l) := by
  constructor
  · rintro ⟨j, e, h1, h2, h3⟩
    cases e
    simpa using h2
  · intro h
    exact newL_mk (by omega) (by rw [get_new]; exact h) (Ext.app _ _)
@[simp] theorem newL_0 (μ r : Mem) (l : List PV) : NewL μ l (.ref (μ.length)) (μ ++ r) ↔ r[0]? = some (.lst l) := newL_iff μ r l 0
@[simp] theorem newL_1 (μ r : Mem) (l : List PV) : NewL μ l (.ref (μ.length + 1)) (μ ++ r) ↔ r[1]? = some (.lst l) := newL_iff μ r l 1
@[simp] theorem newL_2 (μ r : Mem) (l : List PV) : NewL μ l (.ref (μ.length + 1 + 1)) (μ ++ r) ↔ r[2]? = some (.lst l) := newL_iff μ r l 2
@[simp] theorem newL_3 (μ r : Mem) (l : List PV) : NewL μ l (.ref (μ.length + 1 + 1 + 1)) (μ ++ r) ↔ r[3]? = some (.lst l) := newL_iff μ r l 3
@[simp] theorem newL_4 (μ r : Mem) (l : List PV) : NewL μ l (.ref (μ.length + 1 + 1 + 1 + 1)) (μ ++ r) ↔ r[4]? = some (.lst l) := newL_iff μ r l 4
@[simp] theorem newL_5 (μ r : Mem) (l : List PV) : NewL μ l (.ref (μ.length + 1 + 1 + 1 + 1 + 1)) (μ ++ r) ↔ r[5]? = some (.lst l) := newL_iff μ r l 5
@[simp] theorem newL_6 (μ r : Mem) (l : List PV) : NewL μ l (.ref (μ.length + 1 + 1 + 1 + 1 + 1 + 1)) (μ ++ r) ↔ r[6]? = some (.lst l) := newL_iff μ r l 6
@[simp] theorem newL_7 (μ r : Mem) (l : List PV) : NewL μ l (.ref (μ.length + 1 + 1 + 1 + 1 + 1 + 1 + 1)) (μ ++ r) ↔ r[7]? = some (.lst l) := newL_iff μ r l 7
@[simp] theorem newL_8 (μ r : Mem) (l : List PV) : NewL μ l (.ref (μ.length + 1 + 1 + 1 + 1 + 1 + 1 + 1 + 1)) (μ ++ r) ↔ r[8]? = some (.lst l) := newL_iff μ r l 8
theorem fn_sat_new {n : Nat} {b : Sm} {args : List PV} {μ : Mem} {l : List PV} (h : (run n b args μ).sat (NewL μ l)) : (fn n b args μ).sat (NewL μ l) := by
  obtain ⟨q, m, e, k, rfl, hk, h1, h2⟩ := rsat_ex h
  rw [fn_ev, e, gc_keep (by simp [PV.under]; omega)]
  exact (rsat_ok _ _ _).mpr ⟨k, rfl, hk, h1, h2⟩
/-- a property that survives the dropping of new cells -/
theorem gc_sat {μ : Mem} {r : Res PV} {P : PV → Mem → Prop} (h : r.sat P) (hs : ∀ p m, P p m → μ.length ≤ m.length → p.under μ.length = true → P p (m.take μ.length)) : (gc μ r).sat P := by
  obtain ⟨p, m, rfl, hp⟩ := rsat_ex h
  unfold gc
  simp only
  split
  · next g => rw [rsat_ok]; exact hs p m hp g.1 g.2.1
  · rw [rsat_ok]; exact hp
theorem fn_sat {n : Nat} {b : Sm} {args : List PV} {μ : Mem} {P : PV → Mem → Prop} (h : (run n b args μ).sat P) (hs : ∀ p m, P p m → μ.length ≤ m.length → p.under μ.length = true → P p (m.take μ.length)) : (fn n b args μ).sat P := by
  rw [fn_ev]; exact gc_sat h hs
theorem ok_of_sat {r : Res PV} {p : PV} {μ : Mem} (h : r.sat fun q m => q = p ∧ m = μ) : r = .ok p μ := by
  obtain ⟨q, m, e, rfl, rfl⟩ := rsat_ex h
  exact e
@[simp] theorem cut_toI (l : List PV) {j : Int} (h : 0 ≤ j) : cut l none (some j) = l.take j.toNat := by
  have e : j = (j.toNat : Int) := by omega
  conv => lhs; rw [e]
  exact cut_to l _
@[simp] theorem cut_fromI (l : List PV) {j : Int} (h : 0 ≤ j) : cut l (some j) none = l.drop j.toNat := by
  have e : j = (j.toNat : Int) := by omega
  conv => lhs; rw [e]
  exact cut_from l _
/-- data of mapped lists -/
theorem datas_map {α : Type} (f : α → PV) (h : ∀ x, (f x).data = true) (l : List α) : PV.datas (l.map f) = true := by
  rw [datas_iff]; intro p hp; obtain ⟨x, _, rfl⟩ := List.mem_map.mp hp; exact h x
@[simp] theorem datas_int (l : List Int) : PV.datas (l.map .int) = true := datas_map _ (fun x => by simp) l
theorem sms_map {α : Type} (f : α → PV) (l : List α) (h : ∀ x ∈ l, (f x).pd.sm = true) : PyData.sms (PV.pds (l.map f)) = true := by
  rw [sms_iff]; intro d hd
  rw [pds_map, List.map_map] at hd
  obtain ⟨x, hx, rfl⟩ := List.mem_map.mp hd
  exact h x hx
theorem dps_map {α : Type} (f : α → PV) (l : List α) (k : Nat) (h : ∀ x ∈ l, (f x).pd.depth ≤ k) : PyData.depthAll (PV.pds (l.map f)) ≤ k := by
  apply dps_le; intro d hd
  rw [pds_map, List.map_map] at hd
  obtain ⟨x, hx, rfl⟩ := List.mem_map.mp hd
  exact h x hx
theorem wts_map {α : Type} (f : α → PV) (l : List α) (k : Nat) (h : ∀ x ∈ l, (f x).pd.wt ≤ k) : PyData.wts (PV.pds (l.map f)) ≤ k * l.length := by
  have := wts_le (l := PV.pds (l.map f)) (k := k) (by
    intro d hd
    rw [pds_map, List.map_map] at hd
    obtain ⟨x, hx, rfl⟩ := List.mem_map.mp hd
    exact h x hx)
  simpa [pds_map] using this
/-- numbers that are not too great to be shown -/
abbrev sml (z : Int) : Prop := z.natAbs < 10 ^ 200
theorem log_sml {z : Int} (h : sml z) : z.natAbs.log2 < 1920 := by
  by_cases h0 : z.natAbs = 0
  · rw [h0]; decide
  · exact (Nat.log2_lt h0).mpr (Nat.lt_of_lt_of_le h (by decide +kernel))
theorem fSum_ref (μ : Mem) (n : Nat) : fSum [.ref n] μ = (match (getL μ (.ref n)).bind intsOf with | some is => .ok (.int is.sum) μ | _ => .stuck) := rfl
theorem intsOf_mapI (l : List Int) : intsOf (l.map .int) = some l := by
  induction l with
  | nil => rfl
  | cons x xs ih => simp [intsOf, ih]
theorem fSum_lst {μ : Mem} {n : Nat} {l : List Int} (h : μ[n]? = some (.lst (l.map .int))) : fSum [.ref n] μ = .ok (.int l.sum) μ := by
  rw [fSum_ref]
  simp only [getL, h, Option.bind_some, intsOf_mapI]
/-- a comprehension ahead of what follows -/
theorem lc_of {α : Type} {it : It} {g : Tg} {t e : Ex} {vs : List Nat} {env : Env} {μ μ1 : Mem} {lk : List (Nat × List PV)} {k : PV → Mem → Out} {W : Wp} (enc : α → PV) (F : α → Option PV) (xs : List α) {ys : List PV} (he : xs.filterMap F = ys) (hi : it env μ = .ok ⟨xs.map enc, lk⟩ μ1) (hl : locked lk μ1) (hz : xs.length < SL)
    (st : ∀ x ∈ xs, ∀ l, ∃ e1, g (enc x) (wipe env vs) (μ1 ++ l) = .ok e1 (μ1 ++ l) ∧
      match F x with
      | some q => t e1 (μ1 ++ l) = .ok (.bl true) (μ1 ++ l) ∧ e e1 (μ1 ++ l) = .ok q (μ1 ++ l)
      | none => t e1 (μ1 ++ l) = .ok (.bl false) (μ1 ++ l))
    (hk : (k (.ref μ1.length) (μ1 ++ [.lst ys])).sat W) : (Out.of (lc it g t e vs env μ) k).sat W := by
  subst he
  rw [lc_pure enc F xs hi (fun l => locked_app hl l) hz st]
  exact hk
theorem lc_bind {α β : Type} {it : It} {g : Tg} {t e : Ex} {vs : List Nat} {env : Env} {μ μ1 : Mem} {lk : List (Nat × List PV)} {k : PV → Mem → Res β} {P : β → Mem → Prop} (enc : α → PV) (F : α → Option PV) (xs : List α) {ys : List PV} (he : xs.filterMap F = ys) (hi : it env μ = .ok ⟨xs.map enc, lk⟩ μ1) (hl : locked lk μ1) (hz : xs.length < SL)
    (st : ∀ x ∈ xs, ∀ l, ∃ e1, g (enc x) (wipe env vs) (μ1 ++ l) = .ok e1 (μ1 ++ l) ∧
      match F x with
      | some q => t e1 (μ1 ++ l) = .ok (.bl true) (μ1 ++ l) ∧ e e1 (μ1 ++ l) = .ok q (μ1 ++ l)
      | none => t e1 (μ1 ++ l) = .ok (.bl false) (μ1 ++ l))
    (hk : (k (.ref μ1.length) (μ1 ++ [.lst ys])).sat P) : ((lc it g t e vs env μ).bind k).sat P := by
  subst he
  rw [lc_pure enc F xs hi (fun l => locked_app hl l) hz st]
  exact hk
theorem filterMap_map' {α β : Type} (f : α → Option β) (enc : β → PV) (l : List α) : l.filterMap (fun x => (f x).map enc) = (l.filterMap f).map enc := by rw [List.map_filterMap]
theorem filterMap_if {α : Type} (p : α → Bool) (enc : α → PV) (l : List α) : l.filterMap (fun x => if p x then some (enc x) else none) = (l.filter p).map enc := by
  induction l with
  | nil => rfl
  | cons x xs ih => by_cases h : p x <;> simp [h, ih]
theorem filterMap_some {α : Type} (enc : α → PV) (l : List α) : l.filterMap (fun x => some (enc x)) = l.map enc := by simp
end PL
end
section
set_option autoImplicit false
/-! The law's pot: two cells that change, the rest stays. -/
namespace PL
open PySem
/-- pot at cell a + 1, its great numbers at cell a -/
def Pot (a : Nat) (m : Mem) : Prop := ∃ (bs : List Int) (f l t : Int), m[a + 1]? = some (.lst [.ref a, .int f, .int l, .int t]) ∧ m[a]? = some (.lst (bs.map .int)) ∧ bs.length ≤ 100 ∧ -(2 ^ 64) < l ∧ l < 2 ^ 64
def Fr (a : Nat) (m m' : Mem) : Prop := m.length ≤ m'.length ∧ ∀ i, i ≠ a → i ≠ a + 1 → i < m.length → m'[i]? = m[i]?
theorem Fr.refl (a : Nat) (m : Mem) : Fr a m m := ⟨Nat.le_refl _, fun _ _ _ _ => rfl⟩
theorem Fr.trans {a : Nat} {x y z : Mem} (h : Fr a x y) (k : Fr a y z) : Fr a x z := ⟨Nat.le_trans h.1 k.1, fun i h1 h2 h3 => (k.2 i h1 h2 (Nat.lt_of_lt_of_le h3 h.1)).trans (h.2 i h1 h2 h3)⟩
theorem Fr.get {a : Nat} {m m' : Mem} (h : Fr a m m') {i : Nat} {o : PO} (e : m[i]? = some o) (h1 : i ≠ a) (h2 : i ≠ a + 1) : m'[i]? = some o := by
  rw [h.2 i h1 h2 (List.getElem?_eq_some_iff.mp e).1]; exact e
theorem Fr.ext {a : Nat} {m m' : Mem} (h : Ext m m') : Fr a m m' := ⟨h.len, fun i _ _ h3 => by obtain ⟨l, rfl⟩ := h; rw [List.getElem?_append_left h3]⟩
theorem Fr.set {a : Nat} {m m' : Mem} (h : Fr a m m') {k : Nat} (o : PO) (hk : k = a ∨ k = a + 1 ∨ m.length ≤ k) : Fr a m (m'.set k o) := by
  refine ⟨by simpa using h.1, fun i h1 h2 h3 => ?_⟩
  rw [List.getElem?_set_ne (by omega)]
  exact h.2 i h1 h2 h3
theorem Pot.lt {a : Nat} {m : Mem} (h : Pot a m) : a + 1 < m.length := by
  obtain ⟨bs, f, l, t, h1, _⟩ := h
  exact (List.getElem?_eq_some_iff.mp h1).1
theorem Pot.ext {a : Nat} {m m' : Mem} (h : Pot a m) (e : Ext m m') : Pot a m' := by
  obtain ⟨bs, f, l, t, h1, h2, h3, h4, h5⟩ := h
  exact ⟨bs, f, l, t, e.get h1, e.get h2, h3, h4, h5⟩
theorem Pot.app {a : Nat} {m : Mem} (h : Pot a m) (l : Mem) : Pot a (m ++ l) := h.ext (Ext.app _ _)
theorem Pot.set {a : Nat} {m : Mem} (h : Pot a m) {k : Nat} (o : PO) (hk : a + 1 < k) : Pot a (m.set k o) := by
  obtain ⟨bs, f, l, t, h1, h2, h3, h4, h5⟩ := h
  exact ⟨bs, f, l, t, by rw [List.getElem?_set_ne (by omega)]; exact h1, by rw [List.getElem?_set_ne (by omega)]; exact h2, h3, h4, h5⟩
theorem Pot.take {a : Nat} {m : Mem} (h : Pot a m) {n : Nat} (hn : a + 1 < n) : Pot a (m.take n) := by
  obtain ⟨bs, f, l, t, h1, h2, h3, h4, h5⟩ := h
  exact ⟨bs, f, l, t, by rw [List.getElem?_take_of_lt hn]; exact h1, by rw [List.getElem?_take_of_lt (by omega)]; exact h2, h3, h4, h5⟩
theorem Fr.take {a : Nat} {m m' : Mem} (h : Fr a m m') : Fr a m (m'.take m.length) := by
  refine ⟨by have := h.1; simp; omega, fun i h1 h2 h3 => ?_⟩
  rw [List.getElem?_take_of_lt h3]
  exact h.2 i h1 h2 h3
/-- pot goes on, the rest stays -/
def Go (a : Nat) (m m' : Mem) : Prop := Pot a m' ∧ Fr a m m'
theorem Go.trans {a : Nat} {x y z : Mem} (h : Go a x y) (k : Go a y z) : Go a x z := ⟨k.1, h.2.trans k.2⟩
theorem Go.take {a : Nat} {m m' : Mem} (hp : Pot a m) (h : Go a m m') : Go a m (m'.take m.length) := ⟨h.1.take hp.lt, h.2.take⟩
theorem Go.app {a : Nat} {m m' : Mem} (h : Go a m m') (l : Mem) : Go a m (m' ++ l) := ⟨h.1.app l, h.2.trans (Fr.ext (Ext.app _ _))⟩
theorem Go.ext {a : Nat} {m m' : Mem} (hp : Pot a m) (h : Ext m m') : Go a m m' := ⟨hp.ext h, Fr.ext h⟩
theorem Go.refl {a : Nat} {m : Mem} (hp : Pot a m) : Go a m m := ⟨hp, Fr.refl _ _⟩
theorem Go.get {a : Nat} {m m' : Mem} (h : Go a m m') {i : Nat} {o : PO} (e : m[i]? = some o) (h1 : a + 1 < i) : m'[i]? = some o := h.2.get e (by omega) (by omega)
/-- a def that draws from the pot and hands back data -/
theorem fn_go {a n : Nat} {b : Sm} {args : List PV} {μ : Mem} {P : PV → Prop} (hp : Pot a μ) (h : (run n b args μ).sat fun p m => P p ∧ Go a μ m) : (fn n b args μ).sat fun p m => P p ∧ Go a μ m :=
  fn_sat h fun _ _ h1 _ _ => ⟨h1.1, h1.2.take hp⟩
@[simp] theorem fMod_int (i j : Int) (μ : Mem) : fMod [.int i, .int j] μ = if 0 < j then .ok (.int (i % j)) μ else .stuck := id rfl
@[simp] theorem fDiv_int (i j : Int) (μ : Mem) : fDiv [.int i, .int j] μ = if divOk j then .ok (.int (i / j)) μ else .stuck := id rfl
@[simp] theorem fMul_int (i j : Int) (μ : Mem) : fMul [.int i, .int j] μ = if mulOk i j then .ok (.int (i * j)) μ else .stuck := id rfl
@[simp] theorem fPow_int (i j : Int) (μ : Mem) : fPow [.int i, .int j] μ = if 0 ≤ j ∧ j ≤ 1000000 ∧ i.natAbs < 2 ^ 64 then .ok (.int (i ^ j.toNat)) μ else .stuck := id rfl
@[simp] theorem fShl_int (i j : Int) (μ : Mem) : fShl [.int i, .int j] μ = if shlOk i j then .ok (.int (i * 2 ^ j.toNat)) μ else .stuck := id rfl
@[simp] theorem fShr_int (i j : Int) (μ : Mem) : fShr [.int i, .int j] μ = if 0 ≤ j then .ok (.int (i / 2 ^ j.toNat)) μ else .stuck := id rfl
@[simp] theorem fBAnd_int (i j : Int) (μ : Mem) : fBAnd [.int i, .int j] μ = .ok (.int (Builtin.bitAnd i j)) μ := id rfl
@[simp] theorem fBOr_int (i j : Int) (μ : Mem) : fBOr [.int i, .int j] μ = .ok (.int (Builtin.bitOr i j)) μ := id rfl
@[simp] theorem fBXor_int (i j : Int) (μ : Mem) : fBXor [.int i, .int j] μ = .ok (.int (Builtin.bitXor i j)) μ := id rfl
@[simp] theorem fSet_ref (n : Nat) (i : Int) (p : PV) (μ : Mem) : fSet [.ref n, .int i, p] μ = (match μ[n]? with
    | some (.lst xs) => match ixN xs.length i with | some k => .ok .non (μ.set n (.lst (xs.set k p))) | none => .stuck
    | _ => .stuck) := id rfl
@[simp] theorem fPop_ref (n : Nat) (μ : Mem) : fPop [.ref n] μ = (match μ[n]? with
    | some (.lst xs) => match xs[xs.length - 1]? with | some q => .ok q (μ.set n (.lst xs.dropLast)) | none => .stuck
    | _ => .stuck) := id rfl
@[simp] theorem get_set_same {μ : Mem} {k : Nat} {o o' : PO} (h : μ[k]? = some o) : (μ.set k o')[k]? = some o' := by
  rw [List.getElem?_set_self (List.getElem?_eq_some_iff.mp h).1]
@[simp] theorem flatP_str (x : Str) : flatP (.str x) = true := id rfl
@[simp] theorem flatP_int (x : Int) : flatP (.int x) = true := id rfl
@[simp] theorem flatP_bl (x : Bool) : flatP (.bl x) = true := id rfl
@[simp] theorem flatP_non : flatP .non = true := id rfl
@[simp] theorem eqF_str (x y : Str) : eqF (.str x) (.str y) = decide (x = y) := by
  show (x == y) = decide (x = y)
  by_cases h : x = y <;> simp [h]
@[simp] theorem eqF_int (x y : Int) : eqF (.int x) (.int y) = decide (x = y) := by
  show (x == y) = decide (x = y)
  by_cases h : x = y <;> simp [h]
@[simp] theorem eqF_int_str (x : Int) (y : Str) : eqF (.int x) (.str y) = false := id rfl
@[simp] theorem eqF_str_int (x : Int) (y : Str) : eqF (.str y) (.int x) = false := id rfl
@[simp] theorem strPair_tup (p : PV) (l : List PV) : strPair p (.tup l) = none := by cases p <;> rfl
@[simp] theorem strPair_ref (p : PV) (l : Nat) : strPair p (.ref l) = none := by cases p <;> rfl
theorem inR_tup {p : PV} {l : List PV} {μ : Mem} (h : flatP p = true) (hl : l.all flatP = true) : inR μ p (.tup l) = some (l.any fun z => eqF z p) := by
  simp only [inR, strPair_tup, inSeq, getL]
  rw [if_pos ⟨h, hl⟩]
theorem inR_lst {p : PV} {n : Nat} {l : List PV} {μ : Mem} (e : μ[n]? = some (.lst l)) (h : flatP p = true) (hl : l.all flatP = true) : inR μ p (.ref n) = some (l.any fun z => eqF z p) := by
  simp only [inR, strPair_ref, inSeq, getL, e]
  rw [if_pos ⟨h, hl⟩]
@[simp] theorem fIn_tup {p : PV} {l : List PV} {μ : Mem} (h : flatP p = true) (hl : l.all flatP = true) : fIn [p, .tup l] μ = .ok (.bl (l.any fun z => eqF z p)) μ := by simp only [fIn, inR_tup h hl]
@[simp] theorem fNotIn_tup {p : PV} {l : List PV} {μ : Mem} (h : flatP p = true) (hl : l.all flatP = true) : fNotIn [p, .tup l] μ = .ok (.bl (!l.any fun z => eqF z p)) μ := by simp only [fNotIn, inR_tup h hl]
theorem fIn_lst {p : PV} {n : Nat} {l : List PV} {μ : Mem} (e : μ[n]? = some (.lst l)) (h : flatP p = true) (hl : l.all flatP = true) : fIn [p, .ref n] μ = .ok (.bl (l.any fun z => eqF z p)) μ := by simp only [fIn, inR_lst e h hl]
theorem fNotIn_lst {p : PV} {n : Nat} {l : List PV} {μ : Mem} (e : μ[n]? = some (.lst l)) (h : flatP p = true) (hl : l.all flatP = true) : fNotIn [p, .ref n] μ = .ok (.bl (!l.any fun z => eqF z p)) μ := by simp only [fNotIn, inR_lst e h hl]
theorem seq_sat {a b : Sm} {env : Env} {μ : Mem} {W : Wp} (P : Env → Mem → Prop) (hA : (a env μ).sat { nx := P }) (hb : ∀ e m, P e m → (b e m).sat W) : (seq a b env μ).sat W := by
  rw [seq_ev]
  refine then_sat (sat_imp hA (fun e m h => hb e m h) (fun _ _ h => h.elim) (fun _ _ h => h.elim) (fun _ _ h => h.elim))
theorem then_sat' {o : Out} {b : Sm} {W : Wp} (P : Env → Mem → Prop) (hA : o.sat { nx := P }) (hb : ∀ e m, P e m → (b e m).sat W) : (o.then b).sat W :=
  then_sat (sat_imp hA (fun e m h => hb e m h) (fun _ _ h => h.elim) (fun _ _ h => h.elim) (fun _ _ h => h.elim))
@[simp] theorem fMul_ref (a : Nat) (k : Int) (μ : Mem) : fMul [.ref a, .int k] μ = (match μ[a]? with
    | some (.lst xs) => if -(2 ^ 63) ≤ k ∧ k < 2 ^ 63 ∧ xs.length * k.toNat ≤ SL then .ok (.ref μ.length) (μ ++ [.lst (List.replicate k.toNat xs).flatten]) else .stuck
    | _ => .stuck) := id rfl
theorem locked_ext {lk : List (Nat × List PV)} {μ m : Mem} (h : locked lk μ) (e : Ext μ m) : locked lk m := by
  obtain ⟨l, rfl⟩ := e
  exact locked_app h l
/-- what is walked, the same in all that follows -/
def Walked (p : PV) (l : List PV) (lk : List (Nat × List PV)) (μ : Mem) : Prop := locked lk μ ∧ ∀ m, Ext μ m → itsOf p m = .ok ⟨l, lk⟩ m
theorem walked_tup (l : List PV) (μ : Mem) : Walked (.tup l) l [] μ := ⟨locked_nil _, fun _ _ => rfl⟩
theorem walked_lst {n : Nat} {l : List PV} {μ : Mem} (h : μ[n]? = some (.lst l)) : Walked (.ref n) l [(n, l)] μ := ⟨locked_lst _ h, fun _ e => itsOf_lst _ (e.get h)⟩
/-- a for without break -/
theorem for_nb {α : Type} {lk : List (Nat × List PV)} {g : Tg} {b k : Sm} {W : Wp} {env : Env} {μ : Mem} (enc : α → PV) (xs : List α) (R : Nat → Env → Mem → Prop) (hl : ∀ i env μ, R i env μ → locked lk μ) (h : R 0 env μ)
    (st : ∀ i x env μ, xs[i]? = some x → R i env μ → (turn g b (enc x) env μ).sat { nx := R (i + 1), ct := R (i + 1), rt := W.rt })
    (hk : ∀ e m, R xs.length e m → (k e m).sat W) : ((forN lk g b (xs.map enc) env μ).then k).sat W :=
  for_sat enc xs R hl h (fun i x env μ hx hR => sat_imp (st i x env μ hx hR) (fun _ _ h => h) (fun _ _ h => h) (fun _ _ h => h.elim) (fun _ _ h => h)) hk
/-- a for that always goes through -/
theorem for_thru {α : Type} {lk : List (Nat × List PV)} {g : Tg} {b k : Sm} {W : Wp} {env : Env} {μ : Mem} (enc : α → PV) (xs : List α) (R : Nat → Env → Mem → Prop) (hl : ∀ i env μ, R i env μ → locked lk μ) (h : R 0 env μ)
    (st : ∀ i x env μ, xs[i]? = some x → R i env μ → (turn g b (enc x) env μ).sat { nx := R (i + 1), ct := R (i + 1) })
    (hk : ∀ e m, R xs.length e m → (k e m).sat W) : ((forN lk g b (xs.map enc) env μ).then k).sat W :=
  for_nb enc xs R hl h (fun i x env μ hx hR => sat_imp (st i x env μ hx hR) (fun _ _ h => h) (fun _ _ h => h.elim) (fun _ _ h => h.elim) (fun _ _ h => h)) hk
theorem lays_int (l : List Int) : PyData.canLayAll0 (PV.pds (l.map .int)) = true := by
  induction l with
  | nil => simp [PyData.canLayAll0]
  | cons x xs ih => simp [PyData.canLayAll0, PyData.canLay0, ih]
theorem dps_int (l : List Int) : PyData.depthAll (PV.pds (l.map .int)) = 0 := by
  induction l with
  | nil => simp
  | cons x xs ih => simp [ih]
theorem fNe_ints {μ : Mem} {a b : Nat} {l : List Int} (ha : μ[a]? = some (.lst (l.map .int))) (hb : μ[b]? = some (.lst [])) : fNe [.ref a, .ref b] μ = .ok (.bl (!l.isEmpty)) μ := by
  have h1 : SeqAt.shaped (.list (PV.pds (l.map .int))) = true := by
    unfold SeqAt.shaped
    simp [PyData.canLay0, lays_int, dps_int]
  simp only [fNe, eqR, scalP]
  rw [toD_lst ha (by simp), toD_lst hb (by simp)]
  simp only
  rw [if_pos ⟨h1, shaped_sm (by simp) (by simp)⟩]
  cases l <;> simp [PyData.eqv, PyData.eqvAll]
theorem divOk_small {j : Int} (h : 0 < j) (h2 : j < 2 ^ 200) : divOk j := by
  refine ⟨h, ?_⟩
  have : j.natAbs < 2 ^ 200 := by omega
  have := (Nat.log2_lt (by omega)).mpr this
  omega
/-- data of so many items, not too deep, that can be shown -/
structure Good (k : Nat) (p : PV) : Prop where
  data : p.data = true
  sm : p.pd.sm = true
  wt : p.pd.wt ≤ k
  dp : p.pd.depth ≤ 10
theorem Good.mono {k j : Nat} {p : PV} (h : Good k p) (l : k ≤ j) : Good j p := ⟨h.data, h.sm, Nat.le_trans h.wt l, h.dp⟩
theorem repr_good {p : PV} {μ : Mem} (h : Good 8000 p) : fRepr [p] μ = .ok (.str p.pd.shown) μ := repr_ok (toD_data h.data) h.sm h.wt (Nat.le_trans h.dp (by decide))
/-- lists of data -/
structure Goods (k : Nat) (l : List PV) : Prop where
  data : PV.datas l = true
  sm : PyData.sms (PV.pds l) = true
  wt : PyData.wts (PV.pds l) ≤ k
  dp : PyData.depthAll (PV.pds l) ≤ 10
theorem Goods.nil : Goods 0 [] := ⟨by simp, by simp, by simp, by simp⟩
theorem Goods.cons {k j : Nat} {p : PV} {l : List PV} (h : Good k p) (hl : Goods j l) : Goods (k + j) (p :: l) := ⟨by simp [h.data, hl.data], by simp [h.sm, hl.sm], by have := h.wt; have := hl.wt; simp; omega, by have := h.dp; have := hl.dp; simp; omega⟩
theorem Goods.mono {k j : Nat} {p : List PV} (h : Goods k p) (l : k ≤ j) : Goods j p := ⟨h.data, h.sm, Nat.le_trans h.wt l, h.dp⟩
theorem repr_goods {n : Nat} {l : List PV} {μ : Mem} (e : μ[n]? = some (.lst l)) (h : Goods 7000 l) : fRepr [.ref n] μ = .ok (.str (PyData.list (PV.pds l)).shown) μ := repr_ok (toD_lst e h.data) (by simp [h.sm]) (by have := h.wt; simp; omega) (by have := h.dp; simp; omega)
theorem Good.tup {k : Nat} {l : List PV} (h : Goods k l) (hd : PyData.depthAll (PV.pds l) ≤ 9) : Good (k + 1) (.tup l) := ⟨by simp [h.data], by simp [h.sm], by have := h.wt; simp; omega, by simp; omega⟩
theorem Goods.map {α : Type} {k : Nat} (f : α → PV) (l : List α) (h : ∀ x ∈ l, Good k (f x)) : Goods (k * l.length) (l.map f) := ⟨by rw [datas_iff]; intro p hp; obtain ⟨x, hx, rfl⟩ := List.mem_map.mp hp; exact (h x hx).data, sms_map f l fun x hx => (h x hx).sm, wts_map f l k fun x hx => (h x hx).wt, dps_map f l 10 fun x hx => (h x hx).dp⟩
theorem Good.int {i : Int} (h : sml i) : Good 1 (.int i) := ⟨by simp, by simp [log_sml h], by simp, by simp⟩
theorem Good.bl (b : Bool) : Good 1 (.bl b) := ⟨by simp, by simp, by simp, by simp⟩
theorem Good.str {x : Str} (h : (PyData.strOk x && decide ((reprText x).length ≤ 1990)) = true) : Good 1 (.str x) := ⟨by simp, by simpa using h, by simp, by simp⟩
@[simp] theorem fIsN_non (p : PV) (μ : Mem) : fIsN [p, .non] μ = .ok (.bl (isNon p)) μ := id rfl
@[simp] theorem fNotN_non (p : PV) (μ : Mem) : fNotN [p, .non] μ = .ok (.bl (!isNon p)) μ := id rfl
@[simp] theorem isNon_non : isNon .non = true := id rfl
@[simp] theorem isNon_int (i : Int) : isNon (.int i) = false := id rfl
@[simp] theorem isNon_bl (i : Bool) : isNon (.bl i) = false := id rfl
@[simp] theorem isNon_str (i : Str) : isNon (.str i) = false := id rfl
@[simp] theorem isNon_tup (i : List PV) : isNon (.tup i) = false := id rfl
@[simp] theorem isNon_ref (i : Nat) : isNon (.ref i) = false := id rfl
@[simp] theorem ixN_last (n : Nat) : ixN (n + 1) (-1) = some n := by
  unfold ixN
  rw [if_neg (by omega), if_pos (by omega)]
  congr 1
  omega
@[simp] theorem set_last {α : Type} (l : List α) (x p : α) : (l ++ [x]).set l.length p = l ++ [p] := by
  rw [List.set_append_right _ _ (Nat.le_refl _), Nat.sub_self]; rfl
theorem log_lt {z : Int} {n : Nat} (h : z.natAbs < 2 ^ n) (h0 : 0 < n) : z.natAbs.log2 < n := by
  by_cases e : z.natAbs = 0
  · rw [e]; exact h0
  · exact (Nat.log2_lt e).mpr h
/-- numbers that may be multiplied -/
theorem mul_big {i j : Int} (hi : i.natAbs < 10 ^ 150) (hj : j.natAbs < 10 ^ 150) : mulOk i j := by
  have e : (10 ^ 150 : Nat) < 2 ^ 500 := by decide +kernel
  have h1 := log_lt (n := 500) (Nat.lt_trans hi e) (by omega)
  have h2 := log_lt (n := 500) (Nat.lt_trans hj e) (by omega)
  exact .inr (.inr (by omega))
/-- one cell may be another one, the rest of the old memory stays -/
structure Upd (a : Nat) (μ m : Mem) (l : List PV) : Prop where
  at' : m[a]? = some (.lst l)
  len : μ.length ≤ m.length
  keep : ∀ i, i ≠ a → i < μ.length → m[i]? = μ[i]?
theorem Upd.take {a : Nat} {μ m : Mem} {l : List PV} (h : Upd a μ m l) (ha : a < μ.length) : Upd a μ (m.take μ.length) l := by
  refine ⟨?_, by have := h.len; simp; omega, fun i h1 h2 => ?_⟩
  · rw [List.getElem?_take_of_lt ha]; exact h.at'
  · rw [List.getElem?_take_of_lt h2]; exact h.keep i h1 h2
theorem Upd.refl {a : Nat} {μ : Mem} {l : List PV} (h : μ[a]? = some (.lst l)) : Upd a μ μ l := ⟨h, Nat.le_refl _, fun _ _ _ => rfl⟩
theorem Upd.app {a : Nat} {μ m : Mem} {l : List PV} (h : Upd a μ m l) (k : Mem) : Upd a μ (m ++ k) l :=
  ⟨get_some h.at', by have := h.len; simp; omega, fun i h1 h2 => by rw [List.getElem?_append_left (by have := h.len; omega)]; exact h.keep i h1 h2⟩
theorem Upd.set {a : Nat} {μ m : Mem} {l k : List PV} (h : Upd a μ m l) : Upd a μ (m.set a (.lst k)) k :=
  ⟨get_set_same h.at', by simpa using h.len, fun i h1 h2 => by rw [List.getElem?_set_ne (by omega)]; exact h.keep i h1 h2⟩
theorem Upd.trans {a : Nat} {x y z : Mem} {l k : List PV} (h : Upd a x y l) (g : Upd a y z k) : Upd a x z k :=
  ⟨g.at', Nat.le_trans h.len g.len, fun i h1 h2 => (g.keep i h1 (Nat.lt_of_lt_of_le h2 h.len)).trans (h.keep i h1 h2)⟩
theorem ext_iff {μ m : Mem} : Ext μ m ↔ μ.length ≤ m.length ∧ ∀ i, i < μ.length → m[i]? = μ[i]? := by
  constructor
  · rintro ⟨l, rfl⟩
    exact ⟨by simp, fun i h => List.getElem?_append_left h⟩
  · rintro ⟨h1, h2⟩
    refine ⟨m.drop μ.length, ?_⟩
    have e : m.take μ.length = μ := by
      apply List.ext_getElem?
      intro i
      by_cases h : i < μ.length
      · rw [List.getElem?_take_of_lt h, h2 i h]
      · rw [List.getElem?_eq_none (by simp; omega), List.getElem?_eq_none (by omega)]
    conv => lhs; rw [← List.take_append_drop μ.length m, e]
theorem Upd.ext {a : Nat} {μ x y : Mem} {l : List PV} (h : Upd a x y l) (e : Ext μ x) (ha : μ.length ≤ a) : Ext μ y := by
  rw [ext_iff] at *
  exact ⟨Nat.le_trans e.1 h.len, fun i hi => (h.keep i (by omega) (by omega)).trans (e.2 i hi)⟩
end PL
end
section
set_option autoImplicit false
/-! Bits of numbers that are not below nought. -/
namespace PL
open PySem
theorem bAnd_nat (x y : Nat) : Builtin.bitAnd (x : Int) (y : Int) = ((x &&& y : Nat) : Int) := by
  unfold Builtin.bitAnd
  have h1 : decide ((0 : Int) ≤ x) = true := by simp
  have h2 : decide ((0 : Int) ≤ y) = true := by simp
  rw [h1, h2]; rfl
theorem bOr_nat (x y : Nat) : Builtin.bitOr (x : Int) (y : Int) = ((x ||| y : Nat) : Int) := by
  have := L2.bitOr_nn (x := (x : Int)) (y := (y : Int)) (by omega) (by omega)
  simpa using this
theorem bXor_nat (x y : Nat) : Builtin.bitXor (x : Int) (y : Int) = ((x ^^^ y : Nat) : Int) := by
  have := Bits.bitXor_pp (x := (x : Int)) (y := (y : Int)) (by omega) (by omega)
  simpa using this
theorem fAnd_nat (x y : Nat) (μ : Mem) : fBAnd [.int x, .int y] μ = .ok (.int ((x &&& y : Nat) : Int)) μ := by simp only [fBAnd, bAnd_nat]
theorem fOr_nat (x y : Nat) (μ : Mem) : fBOr [.int x, .int y] μ = .ok (.int ((x ||| y : Nat) : Int)) μ := by simp only [fBOr, bOr_nat]
theorem fXor_nat (x y : Nat) (μ : Mem) : fBXor [.int x, .int y] μ = .ok (.int ((x ^^^ y : Nat) : Int)) μ := by simp only [fBXor, bXor_nat]
theorem shl_nat {x n k : Nat} (h : x < 2 ^ k) (hn : n + k ≤ 134217728) : shlOk x n := by
  unfold shlOk
  have := L2.shl_ok (i := (x : Int)) (j := n) (n := k) (by simpa using h) (by omega)
  exact this
theorem fShl_nat {x n k : Nat} (h : x < 2 ^ k) (hn : n + k ≤ 134217728) (μ : Mem) : fShl [.int x, .int n] μ = .ok (.int ((x <<< n : Nat) : Int)) μ := by
  have hs := shl_nat h hn
  rw [fShl_int, if_pos hs]
  congr 2
  rw [Nat.shiftLeft_eq]
  push_cast
  simp
theorem fShr_nat (x n : Nat) (μ : Mem) : fShr [.int x, .int n] μ = .ok (.int ((x >>> n : Nat) : Int)) μ := by
  have h : fShr [.int (x : Int), .int (n : Int)] μ = if (0 : Int) ≤ n then .ok (.int ((x : Int) / 2 ^ ((n : Int)).toNat)) μ else .stuck := rfl
  rw [h, if_pos (by omega)]
  congr 2
  rw [Nat.shiftRight_eq_div_pow]
  simp
end PL
namespace PL
theorem fExtend_ref {n k : Nat} {l r : List PV} {μ : Mem} (h1 : μ[n]? = some (.lst l)) (h2 : μ[k]? = some (.lst r)) (hne : n ≠ k) (hz : l.length + r.length ≤ SL) : fExtend [.ref n, .ref k] μ = .ok .non (μ.set n (.lst (l ++ r))) := by
  unfold fExtend
  simp [h1, h2, getL, hne, hz]
end PL
end
section
set_option autoImplicit false
namespace PL
open PySem
@[simp] theorem fIsB_ev (a b : Bool) (μ : Mem) : fIsB [.bl a, .bl b] μ = .ok (.bl (decide (a = b))) μ := id rfl
@[simp] theorem fNotB_ev (a b : Bool) (μ : Mem) : fNotB [.bl a, .bl b] μ = .ok (.bl (!decide (a = b))) μ := id rfl
end PL
end
section
set_option autoImplicit false
/-! Dicts by rewriting; what is drawn from, and what stays. -/
namespace PL
open PySem
@[simp] theorem keyOf_int (i : Int) : keyOf (.int i) = some (.inl i) := id rfl
@[simp] theorem keyOf_str (i : Str) : keyOf (.str i) = some (.inr i) := id rfl
@[simp] theorem valD_nil {κ : Type} [DecidableEq κ] (k : κ) : valD [] k = none := id rfl
@[simp] theorem valD_cons {κ : Type} [DecidableEq κ] (x : κ × PV) (r : List (κ × PV)) (k : κ) : valD (x :: r) k = if x.1 = k then some x.2 else valD r k := by
  by_cases h : x.1 = k <;> simp [valD, h]
theorem valD_put {κ : Type} [DecidableEq κ] (kvs : List (κ × PV)) (k : κ) (p : PV) (j : κ) : valD (putD kvs k p) j = if k = j then some p else valD kvs j := by
  unfold putD
  split
  · rename_i h
    induction kvs with
    | nil => simp at h
    | cons x r ih =>
      by_cases e : x.1 = k
      · by_cases e2 : k = j
        · simp [e, e2]
        · simp only [List.map_cons, e, if_true, valD_cons, e2, if_false]
          clear ih h
          induction r with
          | nil => rfl
          | cons y r ih => by_cases e3 : y.1 = k
                           · simp [e3, e2, ih]
                           · simp [e3, ih]
      · simp only [List.any_cons, e, decide_false, Bool.false_or] at h
        simp only [List.map_cons, e, if_false, valD_cons, ih h]
        by_cases e2 : x.1 = j
        · have : k ≠ j := fun z => e (e2.trans z.symm)
          simp [e2, this]
        · simp [e2]
  · rename_i h
    induction kvs with
    | nil => simp
    | cons x r ih =>
      rw [List.any_cons, Bool.or_eq_true, not_or, decide_eq_true_eq] at h
      rw [List.cons_append, valD_cons, valD_cons, ih h.2]
      by_cases e2 : x.1 = j
      · have : k ≠ j := fun z => h.1 (e2.trans z.symm)
        simp [e2, this]
      · simp [e2]
@[simp] theorem dctAt_ref (μ : Mem) (n : Nat) : dctAt μ (.ref n) = (match μ[n]? with | some (.dct kvs) => some kvs | _ => none) := id rfl
theorem fDGet_ok {μ : Mem} {n : Nat} {kvs : KVs} {q : PV} {k : DK} {p : PV} (h : μ[n]? = some (.dct kvs)) (hk : keyOf q = some k) (hp : valD kvs k = some p) : fDGet [.ref n, q] μ = .ok p μ := by
  simp [fDGet, h, hk, hp]
theorem fDPut_ok {μ : Mem} {n : Nat} {kvs : KVs} {q : PV} {k : DK} {p : PV} (h : μ[n]? = some (.dct kvs)) (hk : keyOf q = some k) (hl : kvs.length < SL) : fDPut [.ref n, q, p] μ = .ok .non (μ.set n (.dct (putD kvs k p))) := by
  simp [fDPut, h, hk, hl]
@[simp] theorem dput_ev (o i e : Ex) (env : Env) (μ : Mem) : dput o i e env μ = .of (e env μ) fun p μ1 => .of (o env μ1) fun x μ2 => .of (i env μ2) fun y μ3 => .of (fDPut [x, y, p] μ3) fun _ μ4 => .nx env μ4 := id rfl
@[simp] theorem dn_ev (env : Env) (μ : Mem) : dn env μ = .ok [] μ := id rfl
@[simp] theorem dc_ev (k x : Ex) (r : Ap) (env : Env) (μ : Mem) : dc k x r env μ = (k env μ).bind fun p μ1 => (x env μ1).bind fun q μ2 => (r env μ2).bind fun ps μ3 => .ok ((p, q) :: ps) μ3 := id rfl
@[simp] theorem dsp_ev (r : Ap) (env : Env) (μ : Mem) : dsp r env μ = (r env (μ ++ [.dct []])).bind fun ps μ1 => dfin μ.length ps μ1 := id rfl
@[simp] theorem dnew_ev (env : Env) (μ : Mem) : dnew env μ = .ok (.ref μ.length) (μ ++ [.dct []]) := id rfl
@[simp] theorem keysOf_nil : keysOf [] = some [] := id rfl
@[simp] theorem keysOf_str (x : Str) (p : PV) (r : List (PV × PV)) : keysOf ((.str x, p) :: r) = (keysOf r).map fun ks => (.inr x, p) :: ks := by
  simp only [keysOf, keyOf]
  cases keysOf r <;> rfl
/-- what is drawn from: cells that draws change -/
structure Fam where
  cs : List Nat
  top : Nat
  inv : Mem → Prop
  le : ∀ i ∈ cs, i ≤ top
  loc : ∀ m m', inv m → (∀ i ∈ cs, m'[i]? = m[i]?) → inv m'
  lt : ∀ m, inv m → top < m.length
namespace Fam
variable {F : Fam}
/-- drawn from, all else as it was -/
def Go (F : Fam) (m m' : Mem) : Prop := F.inv m' ∧ m.length ≤ m'.length ∧ ∀ i, i ∉ F.cs → i < m.length → m'[i]? = m[i]?
theorem Go.i {m m' : Mem} (h : F.Go m m') : F.inv m' := h.1
theorem Go.len {m m' : Mem} (h : F.Go m m') : m.length ≤ m'.length := h.2.1
theorem Go.lt {m m' : Mem} (h : F.Go m m') : F.top < m'.length := F.lt _ h.1
theorem refl {m : Mem} (h : F.inv m) : F.Go m m := ⟨h, Nat.le_refl _, fun _ _ _ => rfl⟩
theorem Go.trans {x y z : Mem} (h : F.Go x y) (k : F.Go y z) : F.Go x z := ⟨k.1, Nat.le_trans h.2.1 k.2.1, fun i h1 h2 => (k.2.2 i h1 (Nat.lt_of_lt_of_le h2 h.2.1)).trans (h.2.2 i h1 h2)⟩
theorem ext {m m' : Mem} (h : F.inv m) (e : Ext m m') : F.Go m m' := by
  obtain ⟨l, rfl⟩ := e
  refine ⟨F.loc m _ h fun i hi => ?_, by simp, fun i _ hi => List.getElem?_append_left hi⟩
  have := F.le i hi
  have := F.lt m h
  exact List.getElem?_append_left (by omega)
theorem app {m : Mem} (h : F.inv m) (l : Mem) : F.inv (m ++ l) := (ext h (Ext.app m l)).1
theorem go_app {m : Mem} (h : F.inv m) (l : Mem) : F.Go m (m ++ l) := ext h (Ext.app m l)
theorem Go.ext {m m' m'' : Mem} (h : F.Go m m') (e : Ext m' m'') : F.Go m m'' := h.trans (Fam.ext h.1 e)
theorem Go.app {m m' : Mem} (h : F.Go m m') (l : Mem) : F.Go m (m' ++ l) := h.ext (Ext.app _ _)
theorem Go.get {m m' : Mem} (h : F.Go m m') {i : Nat} {o : PO} (e : m[i]? = some o) (hi : F.top < i) : m'[i]? = some o := by
  rw [h.2.2 i (fun hm => by have := F.le i hm; omega) (List.getElem?_eq_some_iff.mp e).1]; exact e
theorem Go.get' {m m' : Mem} (h : F.Go m m') {i : Nat} {o : PO} (e : m[i]? = some o) (hi : i ∉ F.cs) : m'[i]? = some o := by
  rw [h.2.2 i hi (List.getElem?_eq_some_iff.mp e).1]; exact e
/-- a new cell is written -/
theorem Go.set {m m' : Mem} (h : F.Go m m') (hm : F.top < m.length) {k : Nat} (hk : m.length ≤ k) (o : PO) : F.Go m (m'.set k o) := by
  refine ⟨F.loc m' _ h.1 fun i hi => ?_, by simpa using h.2.1, fun i h1 h2 => ?_⟩
  · have := F.le i hi
    exact List.getElem?_set_ne (by omega)
  · rw [List.getElem?_set_ne (by omega)]
    exact h.2.2 i h1 h2
/-- a cell that draws change is written -/
theorem Go.put {m m' : Mem} (h : F.Go m m') {k : Nat} (hk : k ∈ F.cs) {o : PO} (hi : F.inv (m'.set k o)) : F.Go m (m'.set k o) := by
  refine ⟨hi, by simpa using h.2.1, fun i h1 h2 => ?_⟩
  rw [List.getElem?_set_ne (fun e : k = i => h1 (e ▸ hk))]
  exact h.2.2 i h1 h2
theorem Go.take {m m' : Mem} (hp : F.inv m) (h : F.Go m m') : F.Go m (m'.take m.length) := by
  have hl := F.lt m hp
  refine ⟨F.loc m' _ h.1 fun i hi => ?_, by have := h.2.1; simp; omega, fun i h1 h2 => ?_⟩
  · have := F.le i hi
    exact List.getElem?_take_of_lt (by omega)
  · rw [List.getElem?_take_of_lt h2]
    exact h.2.2 i h1 h2
theorem fn_go {n : Nat} {b : Sm} {args : List PV} {μ : Mem} {P : PV → Prop} (hp : F.inv μ) (h : (run n b args μ).sat fun p m => P p ∧ F.Go μ m) : (fn n b args μ).sat fun p m => P p ∧ F.Go μ m := by
  obtain ⟨p, m, e, h1, h2⟩ := rsat_ex h
  rw [fn_ev, e]
  unfold gc
  simp only
  split
  · exact ⟨_, _, rfl, h1, h2.take hp⟩
  · exact ⟨_, _, rfl, h1, h2⟩
end Fam
/-- a dict that is drawn from, with a list of great numbers behind it -/
def jarF (j : Nat) : Fam where
  cs := [j, j + 1]
  top := j + 1
  inv m := ∃ (bs : List Int) (s t : Int), m[j]? = some (.dct [(.inr ("wide" : Str), .ref (j + 1)), (.inr ("stirred" : Str), .int s), (.inr ("times" : Str), .int t)]) ∧ m[j + 1]? = some (.lst (bs.map .int)) ∧ bs.length ≤ 100
  le i hi := by simp at hi; omega
  loc m m' h e := by
    obtain ⟨bs, s, t, h1, h2, h3⟩ := h
    exact ⟨bs, s, t, by rw [e j (by simp)]; exact h1, by rw [e (j + 1) (by simp)]; exact h2, h3⟩
  lt m h := by
    obtain ⟨bs, s, t, h1, h2, h3⟩ := h
    exact (List.getElem?_eq_some_iff.mp h2).1
end PL
end
section
set_option autoImplicit false
/-! Lists of lists: repr. -/
namespace PL
open PySem
theorem toDn_lst {μ : Mem} {n k : Nat} {l : List PV} (h : μ[n]? = some (.lst l)) (hd : PV.datas l = true) : toDn μ (k + 1) (.ref n) = some (.list (PV.pds l)) := by
  unfold toDn PV.conv
  rw [h]
  simp only
  rw [convs_pd _ l hd]
  rfl
/-- cells that hold lists of data -/
def Cells (μ : Mem) : List Nat → List (List PV) → Prop
  | [], [] => True
  | k :: ks, l :: ls => μ[k]? = some (.lst l) ∧ Cells μ ks ls
  | _, _ => False
theorem convs_cells {μ : Mem} {m : Nat} : ∀ {ks : List Nat} {ls : List (List PV)}, Cells μ ks ls → (∀ l ∈ ls, PV.datas l = true) → PV.convs (fun j => toDn μ (m + 1) (.ref j)) (ks.map .ref) = some (ls.map fun l => .list (PV.pds l))
  | [], [], _, _ => rfl
  | k :: ks, l :: ls, h, hd => by
    have ih := convs_cells (m := m) h.2 fun z hz => hd z (by simp [hz])
    have e : PV.conv (fun j => toDn μ (m + 1) (.ref j)) (.ref k) = some (.list (PV.pds l)) := toDn_lst h.1 (hd l (by simp))
    show (PV.conv (fun j => toDn μ (m + 1) (.ref j)) (.ref k)).bind (fun d => (PV.convs (fun j => toDn μ (m + 1) (.ref j)) (ks.map .ref)).map fun ds => d :: ds) = _
    rw [e, ih]
    rfl
  | [], _ :: _, h, _ => h.elim
  | _ :: _, [], h, _ => h.elim
theorem toD_cells {μ : Mem} {n : Nat} {ks : List Nat} {ls : List (List PV)} (h : μ[n]? = some (.lst (ks.map .ref))) (hc : Cells μ ks ls) (hd : ∀ l ∈ ls, PV.datas l = true) : toD μ (.ref n) = some (.list (ls.map fun l => .list (PV.pds l))) := by
  rw [toD_ref, h]
  simp only
  rw [convs_cells (m := 3) hc hd]
  rfl
theorem repr_two {μ : Mem} {n a b : Nat} {la lb : List PV} (h : μ[n]? = some (.lst [.ref a, .ref b])) (ha : μ[a]? = some (.lst la)) (hb : μ[b]? = some (.lst lb)) (ga : Goods 3000 la) (gb : Goods 3000 lb) : fRepr [.ref n] μ = .ok (.str (PyData.list [.list (PV.pds la), .list (PV.pds lb)]).shown) μ := by
  refine repr_ok (toD_cells (ks := [a, b]) (ls := [la, lb]) h ⟨ha, hb, trivial⟩ (by simp [ga.data, gb.data])) (by simp [ga.sm, gb.sm]) (by have := ga.wt; have := gb.wt; simp; omega) (by have := ga.dp; have := gb.dp; simp; omega)
end PL
end
section
set_option autoImplicit false
/-! Values with empty dicts in them: repr; a value beside a text, beside a tuple of texts. -/
namespace PL
open PySem
def toEn (μ : Mem) : Nat → PV → Option PyData
  | 0 => PV.conv fun _ => none
  | n + 1 => PV.conv fun k => match μ[k]? with
    | some (.lst l) => (PV.convs (fun j => toEn μ n (.ref j)) l).map .list
    | some (.ro l) => (PV.convs (fun j => toEn μ n (.ref j)) l).map .list
    | some (.dct []) => some (.dict [])
    | _ => none
/-- data, empty dicts among them -/
def toE (μ : Mem) (p : PV) : Option PyData := toEn μ 5 p
def fReprE : Fn
  | [p], μ => match toE μ p with
    | some d => if d.showable = true ∧ d.shown.length ≤ SL ∧ d.depth ≤ 60 then .ok (.str d.shown) μ else .stuck
    | none => .stuck
  | _, _ => .stuck
/-- a value beside a text -/
def strEq (μ : Mem) (p : PV) (y : Str) : Option Bool := match p with
  | .str x => some (decide (x = y))
  | .non => some false | .bl _ => some false | .int _ => some false | .tup _ => some false
  | .ref n => match μ[n]? with | some (.lst _) => some false | some (.dct _) => some false | _ => none
  | .cst _ => none
def strsEq (μ : Mem) : List PV → List Str → Option Bool
  | [], [] => some true
  | [], _ :: _ => some false
  | _ :: _, [] => some false
  | p :: r, y :: ys => match strEq μ p y, strsEq μ r ys with | some a, some b => some (a && b) | _, _ => none
def strIn (μ : Mem) (p : PV) : List Str → Option Bool
  | [] => some false
  | y :: ys => match strEq μ p y, strIn μ p ys with | some a, some b => some (a || b) | _, _ => none
def textsOf : List PV → Option (List Str)
  | [] => some []
  | .str x :: r => (textsOf r).map (x :: ·)
  | _ :: _ => none
def fEqX : Fn
  | [p, q], μ => match q with
    | .str y => match strEq μ p y with | some b => .ok (.bl b) μ | none => .stuck
    | .tup ys => match p with
      | .tup xs => match textsOf ys with
        | some ts => match strsEq μ xs ts with | some b => .ok (.bl b) μ | none => .stuck
        | none => .stuck
      | _ => .stuck
    | _ => .stuck
  | _, _ => .stuck
def fInX : Fn
  | [p, q], μ => match q with
    | .tup ys => match textsOf ys with
      | some ts => match strIn μ p ts with | some b => .ok (.bl b) μ | none => .stuck
      | none => .stuck
    | _ => .stuck
  | _, _ => .stuck
end PL
end
section
set_option autoImplicit false
set_option Elab.async false
set_option linter.all false
set_option maxRecDepth 100000
set_option maxHeartbeats 4000000
/-! Values with empty dicts in them. -/
namespace PL
section
open PySem PySem.Spec PyProof.Rows PySem.SeqAt AutoSeq1 MeetsSeq
theorem dict_no_str (l : Addr) (es : Array DictEntry) (ep : Nat) (dd : Option Addr) (sl : Array (Option Value)) (b : Str) (u : Tok) :
    Meets (Builtin.«dict.__eq__» ⟨[.ref l, .str b u], []⟩) (fun _ R s => s.heap.get? l = some { cls := .type "dict", dict := dd, data := .dict es ep, slots := sl } ∧ R (.ok (.ret .notImplemented)) s) :=
  .of_wp fun prog w A R s h => by
    obtain ⟨hp, g, d, tk, os⟩ := s
    obtain ⟨hl, h⟩ := h
    have f1 := F.sub_str_dict
    wp_walk using wpAny_loadPart' hl
    exact ⟨_, rfl, h⟩
theorem str_no_dict (b : Str) (u : Tok) (l : Addr) (c : Value) (es : Array DictEntry) (ep : Nat) (dd : Option Addr) (sl : Array (Option Value)) :
    Meets (Builtin.«str.__eq__» ⟨[.str b u, .ref l], []⟩) (fun _ R s => s.heap.get? l = some { cls := c, dict := dd, data := .dict es ep, slots := sl } ∧ R (.ok (.ret .notImplemented)) s) :=
  .of_wp fun prog w A R s h => by
    obtain ⟨hp, g, d, tk, os⟩ := s
    obtain ⟨hl, h⟩ := h
    wp_walk using wpAny_loadPart' hl, wpAny_load hl
    exact ⟨_, rfl, h⟩
variable {A : Around} {s : Shared}
theorem rc_dict_str {l : Addr} {o : Obj} {es : Array DictEntry} {ep : Nat} (b : Str) (u : Tok) (ho : s.heap.get? l = some o) (hc : o.cls = .type "dict") (hd : o.data = .dict es ep) (hu : A.units < cLine) : RcAt A s (.ref l) (.str b u) false := fun prog w E Q h => by
  obtain ⟨cls, dd, data, sl⟩ := o
  simp only at hc hd
  subst hc hd
  exact rc_eq_decline_or (k := false) ⟨_, ho, rfl⟩ (typeIs_str s b u) (by decide) F.sub_str_dict F.slot_dict_eq F.slot_str_eq_refl
    (fun _ hq => call_meets F.slot_dict_eq ⟨_, ho, rfl⟩ F.entry_dict_eq (F.args_dict_eq_2 _ _) (dict_no_str l es ep dd sl b u) ⟨ho, hq⟩)
    (fun _ hq => call_meets F.slot_str_eq_refl (typeIs_str s b u) F.entry_str_eq (F.args_str_eq_2 _ _) (str_no_dict b u l (.type "dict") es ep dd sl) ⟨ho, hq⟩)
    (fun _ hq => wpAny_of_eq (rfl : isSame (.ref l) (.str b u) = pure false) hq) (.inr hu) h
theorem rc_str_dict {l : Addr} {o : Obj} {es : Array DictEntry} {ep : Nat} (b : Str) (u : Tok) (ho : s.heap.get? l = some o) (hc : o.cls = .type "dict") (hd : o.data = .dict es ep) (hu : A.units < cLine) : RcAt A s (.str b u) (.ref l) false := fun prog w E Q h => by
  obtain ⟨cls, dd, data, sl⟩ := o
  simp only at hc hd
  subst hc hd
  exact rc_eq_decline_or (k := false) (typeIs_str s b u) ⟨_, ho, rfl⟩ (by decide) F.sub_dict_str F.slot_str_eq F.slot_dict_eq_refl
    (fun _ hq => call_meets F.slot_str_eq (typeIs_str s b u) F.entry_str_eq (F.args_str_eq_2 _ _) (str_no_dict b u l (.type "dict") es ep dd sl) ⟨ho, hq⟩)
    (fun _ hq => call_meets F.slot_dict_eq_refl ⟨_, ho, rfl⟩ F.entry_dict_eq (F.args_dict_eq_2 _ _) (dict_no_str l es ep dd sl b u) ⟨ho, hq⟩)
    (fun _ hq => wpAny_of_eq (rfl : isSame (.str b u) (.ref l) = pure false) hq) (.inr hu) h
theorem eq_dict_str {l : Addr} {o : Obj} {es : Array DictEntry} {ep : Nat} (b : Str) (u : Tok) (ho : s.heap.get? l = some o) (hc : o.cls = .type "dict") (hd : o.data = .dict es ep) (hu : A.units < cLine) : EqAt A s (.ref l) (.str b u) false := fun prog w E Q h => by
  unfold eqBool
  refine wpAny_holding ?_
  refine wpAny_ite_split (fun hab => absurd (eq_of_beq hab) nofun) (fun _ => ?_)
  exact wpAny_bind (rc_dict_str b u ho hc hd hu prog w E _ (wpAny_truthy_bool h))
theorem eq_str_dict {l : Addr} {o : Obj} {es : Array DictEntry} {ep : Nat} (b : Str) (u : Tok) (ho : s.heap.get? l = some o) (hc : o.cls = .type "dict") (hd : o.data = .dict es ep) (hu : A.units < cLine) : EqAt A s (.str b u) (.ref l) false := fun prog w E Q h => by
  unfold eqBool
  refine wpAny_holding ?_
  refine wpAny_ite_split (fun hab => absurd (eq_of_beq hab) nofun) (fun _ => ?_)
  exact wpAny_bind (rc_str_dict b u ho hc hd hu prog w E _ (wpAny_truthy_bool h))
end

section
open PySem PySem.Spec PyProof.Rows PySem.SeqAt L2
theorem textsOf_map {K : PySem.W.Frag} {H : Hp} {ρ : List Addr} : ∀ {l : List PV} {ts : List Str} {xs : List V}, textsOf l = some ts → Reps K H ρ l xs → xs = ts.map V.str
  | [], ts, xs, e, r => by
    simp only [textsOf, Option.some.injEq] at e
    subst e
    simp only [Reps] at r
    exact r
  | p :: ps, ts, xs, e, r => by
    cases p with
    | str i =>
      obtain ⟨y, ys, rfl, h1, h2⟩ := Reps.cons_iff.mp r
      simp only [textsOf] at e
      cases q : textsOf ps with
      | none => rw [q] at e; simp at e
      | some js =>
        rw [q] at e
        simp only [Option.map_some, Option.some.injEq] at e
        subst e
        simp only [Rep] at h1
        rw [h1, textsOf_map q h2]
        rfl
    | _ => simp [textsOf] at e
variable {X : Cx} {E : XK} {pins : List (Addr × Obj)} {σ : L2.St} {H : Hp} {s : Shared} {ρ : List Addr} {μ : Mem}
theorem beq_dec (x y : Str) : (x == y) = decide (x = y) := by
  by_cases h : x = y
  · subst h; simp
  · rw [decide_eq_false h]; exact beq_eq_false_iff_ne.mpr h
theorem str_eqs (I : Inv X pins σ H s) (M : MemOk X.K H ρ μ) {p : PV} {x : V} {u : Value} (hp : Rep X.K H ρ p x) (rx : RelV x u) {y : Str} {b : Bool} (e : strEq μ p y = some b) (t : Tok) {A : Around} (hu : A.units < cLine) :
    RcAt A s u (.str y t) b ∧ EqAt A s u (.str y t) b ∧ EqAt A s (.str y t) u b := by
  cases p with
  | non =>
    obtain rfl := vnon hp
    cases rx
    simp only [strEq, Option.some.injEq] at e
    subst e
    exact ⟨RcAt.none_str y t, EqAt.none_str y t, EqAt.str_none y t⟩
  | bl c =>
    obtain rfl := vbl hp
    cases rx
    simp only [strEq, Option.some.injEq] at e
    subst e
    exact ⟨RcAt.bool_str c y t, EqAt.bool_str c y t, EqAt.str_bool y t c⟩
  | int i =>
    obtain rfl := vint hp
    obtain ⟨t', rfl⟩ := rx
    simp only [strEq, Option.some.injEq] at e
    subst e
    exact ⟨RcAt.int_str i t' y t, EqAt.int_str i t' y t, EqAt.str_int y t i t'⟩
  | str z =>
    obtain rfl := vstr hp
    obtain ⟨t', rfl⟩ := rx
    simp only [strEq, Option.some.injEq] at e
    subst e
    have h1 := RcAt.str_str (A := A) (s := s) z t' y t
    have h2 := EqAt.str_str (A := A) (s := s) z t' y t
    have h3 := EqAt.str_str (A := A) (s := s) y t z t'
    rw [beq_dec] at h1 h2 h3
    refine ⟨h1, h2, ?_⟩
    rw [show decide (z = y) = decide (y = z) from by
      by_cases c : z = y
      · rw [c]
      · have c2 : ¬ y = z := fun h => c h.symm
        rw [decide_eq_false c, decide_eq_false c2]]
    exact h3
  | tup l =>
    obtain ⟨a, xs, rfl, k1, k2⟩ := rep_tup hp
    cases rx
    simp only [strEq, Option.some.injEq] at e
    subst e
    obtain ⟨its, r, pl, hz⟩ := I.tuple k1
    exact ⟨RcAt.tuple_str y t pl hu, EqAt.tuple_str y t pl hu, EqAt.str_tuple y t pl hu⟩
  | ref n =>
    obtain ⟨a, h1, rfl⟩ := rep_ref M hp
    cases rx
    simp only [strEq] at e
    split at e
    · rename_i l hl
      cases e
      obtain ⟨xs, h3, h4⟩ := M.at' n _ a hl h1
      obtain ⟨its, r, pl, hz⟩ := I.list (SqL.of h3)
      exact ⟨RcAt.list_str y t pl.isList hu, EqAt.list_str y t pl.isList hu, EqAt.str_list y t pl.isList hu⟩
    · rename_i kvs hl
      cases e
      obtain ⟨xs, h3, h4⟩ := M.at' n _ a hl h1
      obtain ⟨_, ns, vs, kv, o, es, ep, q1, q2, q3, _⟩ := L2.dk_of I.hok h3
      exact ⟨rc_dict_str y t q1 q2.1 q3 hu, eq_dict_str y t q1 q2.1 q3 hu, eq_str_dict y t q1 q2.1 q3 hu⟩
    · cases e
  | cst a => simp [strEq] at e
theorem strsEq_all : ∀ {xs : List PV} {ts : List Str} {b : Bool}, strsEq μ xs ts = some b → ∃ e : Nat → Bool, (∀ j p y, xs[j]? = some p → ts[j]? = some y → strEq μ p y = some (e j)) ∧ ((List.range (min xs.length ts.length)).all e && xs.length == ts.length) = b
  | [], [], b, h => by
    simp only [strsEq, Option.some.injEq] at h
    subst h
    exact ⟨fun _ => true, fun j p y h => by simp at h, rfl⟩
  | [], y :: ys, b, h => by
    simp only [strsEq, Option.some.injEq] at h
    subst h
    exact ⟨fun _ => true, fun j p y h => by simp at h, by simp⟩
  | p :: r, [], b, h => by
    simp only [strsEq, Option.some.injEq] at h
    subst h
    exact ⟨fun _ => true, fun j p y _ h => by simp at h, by simp⟩
  | p :: r, y :: ys, b, h => by
    simp only [strsEq] at h
    split at h
    · rename_i a c h1 h2
      cases h
      obtain ⟨e, e1, e2⟩ := strsEq_all h2
      refine ⟨fun j => match j with | 0 => a | j + 1 => e j, fun j q z hq hz => ?_, ?_⟩
      · cases j with
        | zero =>
          simp only [List.getElem?_cons_zero, Option.some.injEq] at hq hz
          subst hq hz
          exact h1
        | succ j =>
          simp only [List.getElem?_cons_succ] at hq hz
          exact e1 j q z hq hz
      · rw [← e2]
        have hm : min (p :: r).length (y :: ys).length = min r.length ys.length + 1 := by simp only [List.length_cons]; omega
        rw [hm, List.range_succ_eq_map, List.all_cons, List.all_map]
        have hl : ((p :: r).length == (y :: ys).length) = (r.length == ys.length) := by simp
        rw [hl, Bool.and_assoc]
        rfl
    · cases h
theorem cmpP_eqX (hu : X.A.units + 64 < cLine) : OpR X (compareOp .Eq) (rP2 X.K X.mg E fEqX) := by
  intro pins s σ H x y v u Q I rx ry h
  obtain ⟨μ, ρ, p, q, M, hp, hq, h⟩ := h
  simp only [fEqX] at h
  cases q with
  | str z =>
    obtain rfl := vstr hq
    obtain ⟨t, rfl⟩ := ry
    simp only at h
    split at h
    · rename_i b hb
      have hv := h.val M rbl
      exact (str_eqs I M hp rx hb t (A := X.A) (by omega)).1 _ _ _ _ ⟨.bl b, H, I, rfl, hv⟩
    · exact h.elim
  | tup ys =>
    simp only at h
    cases p with
    | tup xs =>
      simp only at h
      split at h
      · rename_i ts hts
        split at h
        · rename_i b hb
          have hv := h.val M rbl
          obtain ⟨a1, vs1, rfl, k1, k2⟩ := rep_tup hp
          obtain ⟨a2, vs2, rfl, k3, k4⟩ := rep_tup hq
          cases rx
          cases ry
          have e4 := textsOf_map hts k4
          subst e4
          obtain ⟨its1, r1, pl1, _⟩ := I.tuple k1
          obtain ⟨its2, r2, pl2, _⟩ := I.tuple k3
          obtain ⟨e, e1, e2⟩ := strsEq_all hb
          have z1 : its1.length = xs.length := by rw [← k2.length]; exact r1.length.symm
          have z2 : its2.length = ts.length := by rw [← r2.length, List.length_map]
          refine PySem.W.eq_tuplesT (n := 0) (e := e) pl1 pl2 ?_ (by omega) ⟨.bl b, H, I, ?_, hv⟩
          · intro j h1 h2
            have h1' : j < its1.length := by simpa using h1
            have h2' : j < its2.length := by simpa using h2
            have hx1 : xs[j]? = some xs[j] := List.getElem?_eq_getElem (by omega)
            have ht1 : ts[j]? = some ts[j] := List.getElem?_eq_getElem (by omega)
            obtain ⟨w, w1, w2⟩ := k2.get hx1
            obtain ⟨w', w3, w4⟩ := paired_get r1 w1
            have hy : (ts.map V.str)[j]? = some (.str ts[j]) := by rw [List.getElem?_map, ht1]; rfl
            obtain ⟨w'', w5, w6⟩ := paired_get r2 hy
            obtain ⟨tk, rfl⟩ := w6
            have g1 : its1.toArray[j] = w' := by
              have := List.getElem?_eq_getElem h1'
              rw [w3] at this
              simpa using this.symm
            have g2 : its2.toArray[j] = .str ts[j] tk := by
              have := List.getElem?_eq_getElem h2'
              rw [w5] at this
              simpa using this.symm
            rw [g1, g2]
            exact .leaf fun A hA => (str_eqs I M w2 w4 (e1 j _ _ hx1 ht1) tk (A := A) (by omega)).2.1
          · have : ((List.range (min its1.toArray.size its2.toArray.size)).all e && its1.toArray.size == its2.toArray.size) = b := by
              rw [← e2]
              simp only [List.size_toArray, z1, z2]
            rw [this]
            rfl
        · exact h.elim
      · exact h.elim
    | _ => exact h.elim
  | _ => exact h.elim
theorem strIn_any {p : PV} : ∀ {ts : List Str} {b : Bool}, strIn μ p ts = some b → (∀ y ∈ ts, ∃ a, strEq μ p y = some a) ∧ ts.any (fun y => (strEq μ p y).getD false) = b
  | [], b, h => by
    simp only [strIn, Option.some.injEq] at h
    subst h
    exact ⟨by simp, rfl⟩
  | y :: ys, b, h => by
    simp only [strIn] at h
    split at h
    · rename_i a c h1 h2
      cases h
      obtain ⟨e1, e2⟩ := strIn_any h2
      refine ⟨fun z hz => ?_, by rw [List.any_cons, e2, h1]; rfl⟩
      rcases List.mem_cons.mp hz with rfl | hz
      · exact ⟨a, h1⟩
      · exact e1 z hz
    · cases h
def strOfV : Value → Str
  | .str z _ => z
  | _ => default
theorem cmpP_inX (hu : X.A.units + 65 < cLine) : OpR X (compareOp .In) (rP2 X.K X.mg E fInX) := by
  intro pins s σ H x y v u Q I rx ry h
  obtain ⟨μ, ρ, p, q, M, hp, hq, h⟩ := h
  simp only [fInX] at h
  cases q with
  | tup ys =>
    simp only at h
    split at h
    · rename_i ts hts
      split at h
      · rename_i b hb
        have hv := h.val M rbl
        obtain ⟨a2, vs2, rfl, k3, k4⟩ := rep_tup hq
        cases ry
        have e4 := textsOf_map hts k4
        subst e4
        obtain ⟨its2, r2, pl2, _⟩ := I.tuple k3
        obtain ⟨i1, i2⟩ := strIn_any hb
        have hits : ∀ {ts : List Str} {its : List Value}, Vals (ts.map V.str) its → (its.map strOfV = ts) ∧ ∀ w ∈ its, ∃ z t, w = .str z t ∧ z ∈ ts := by
          intro ts
          induction ts with
          | nil => intro its h; cases h; exact ⟨rfl, by simp⟩
          | cons z zs ih =>
            intro its h
            cases h with
            | cons h1 h2 =>
              obtain ⟨t, rfl⟩ := h1
              obtain ⟨j1, j2⟩ := ih h2
              refine ⟨by simp [strOfV, j1], fun w hw => ?_⟩
              rcases List.mem_cons.mp hw with rfl | hw
              · exact ⟨z, t, rfl, by simp⟩
              · obtain ⟨z', t', e1, e2⟩ := j2 w hw
                exact ⟨z', t', e1, List.mem_cons_of_mem _ e2⟩
        obtain ⟨m1, m2⟩ := hits r2
        refine in_tupleAt (fun w => (strEq μ p (strOfV w)).getD false) pl2 (fun w hw => ?_) ⟨.bl b, H, I, ?_, hv⟩
        · obtain ⟨z, t, rfl, hz⟩ := m2 w (by simpa using hw)
          obtain ⟨a, ha⟩ := i1 z hz
          have := (str_eqs I M hp rx ha t (A := X.A.in1) (by show X.A.units + 1 < cLine; omega)).2.2
          simp only [strOfV, ha, Option.getD_some]
          exact this
        · have : its2.toArray.any (fun w => (strEq μ p (strOfV w)).getD false) = b := by
            rw [← i2, ← m1]
            simp [List.any_map, Function.comp_def]
          rw [this]
          rfl
      · exact h.elim
    · exact h.elim
  | _ => exact h.elim
end
end PL
end
section
set_option autoImplicit false
set_option Elab.async false
set_option linter.all false
set_option maxRecDepth 100000
set_option maxHeartbeats 4000000
/-! repr of values with empty dicts in them. -/
namespace PL
open PySem L2
mutual
inductive De (K : PySem.W.Frag) (H : Hp) : V → PyData → Prop
  | non : De K H .non .none
  | bl (b : Bool) : De K H (.bl b) (.bool b)
  | int (i : Int) : De K H (.int i) (.int i)
  | str (x : Str) : De K H (.str x) (.str x)
  | lst {a : Addr} {xs : List V} {ds : List PyData} : SqL K H a xs → DeAll K H xs ds → De K H (.ref a) (.list ds)
  | tup {a : Addr} {xs : List V} {ds : List PyData} : SqT K H a xs → DeAll K H xs ds → De K H (.ref a) (.tuple ds)
  | dct {a : Addr} : H a = some (.dK []) → De K H (.ref a) (.dict [])
inductive DeAll (K : PySem.W.Frag) (H : Hp) : List V → List PyData → Prop
  | nil : DeAll K H [] []
  | cons {v : V} {vs : List V} {d : PyData} {ds : List PyData} : De K H v d → DeAll K H vs ds → DeAll K H (v :: vs) (d :: ds)
end
section
variable {K : PySem.W.Frag} {H : Hp} {ρ : List Addr} {μ : Mem}
mutual
theorem de_conv {r : Nat → Option PyData} (hr : ∀ n d x, r n = some d → Rep K H ρ (.ref n) x → De K H x d) : ∀ (p : PV) (d : PyData) (x : V), PV.conv r p = some d → Rep K H ρ p x → De K H x d
  | .non, d, x, e, h => by simp only [PV.conv, Option.some.injEq] at e; subst e; rw [vnon h]; exact .non
  | .bl b, d, x, e, h => by simp only [PV.conv, Option.some.injEq] at e; subst e; rw [vbl h]; exact .bl b
  | .int b, d, x, e, h => by simp only [PV.conv, Option.some.injEq] at e; subst e; rw [vint h]; exact .int b
  | .str b, d, x, e, h => by simp only [PV.conv, Option.some.injEq] at e; subst e; rw [vstr h]; exact .str b
  | .tup l, d, x, e, h => by
    simp only [PV.conv] at e
    obtain ⟨a, xs, rfl, h2, h3⟩ := rep_tup h
    cases q : PV.convs r l with
    | none => rw [q] at e; cases e
    | some ds =>
      rw [q] at e
      cases e
      exact .tup h2 (de_convs hr l ds xs q h3)
  | .ref n, d, x, e, h => hr n d x (by simpa only [PV.conv] using e) h
  | .cst _, d, x, e, h => by simp [PV.conv] at e
theorem de_convs {r : Nat → Option PyData} (hr : ∀ n d x, r n = some d → Rep K H ρ (.ref n) x → De K H x d) : ∀ (l : List PV) (ds : List PyData) (xs : List V), PV.convs r l = some ds → Reps K H ρ l xs → DeAll K H xs ds
  | [], ds, xs, e, h => by simp only [PV.convs, Option.some.injEq] at e; subst e; simp only [Reps] at h; subst h; exact .nil
  | p :: ps, ds, xs, e, h => by
    obtain ⟨y, ys, rfl, h1, h2⟩ := Reps.cons_iff.mp h
    simp only [PV.convs] at e
    cases q : PV.conv r p with
    | none => rw [q] at e; cases e
    | some d =>
      rw [q] at e
      simp only [Option.bind_some] at e
      cases q2 : PV.convs r ps with
      | none => rw [q2] at e; cases e
      | some es =>
        rw [q2] at e
        cases e
        exact .cons (de_conv hr p d y q h1) (de_convs hr ps es ys q2 h2)
end
theorem de_toEn (M : MemOk K H ρ μ) : ∀ (n : Nat) (p : PV) (d : PyData) (x : V), toEn μ n p = some d → Rep K H ρ p x → De K H x d
  | 0, p, d, x, e, h => de_conv (fun _ _ _ q => by cases q) p d x e h
  | n + 1, p, d, x, e, h => by
    refine de_conv (fun k d x e h => ?_) p d x e h
    have go : ∀ l, getL μ (.ref k) = some l → (PV.convs (fun j => toEn μ n (.ref j)) l).map PyData.list = some d → De K H x d := fun l hl e => by
      obtain ⟨a, xs, rfl, h2, h3, _⟩ := getL_ref M h hl
      cases q : PV.convs (fun j => toEn μ n (.ref j)) l with
      | none => rw [q] at e; cases e
      | some ds =>
        rw [q] at e
        cases e
        exact .lst h2 (de_convs (fun j d x q h => de_toEn M n (.ref j) d x q h) l ds xs q h3)
    split at e
    · rename_i l q; exact go l (by simp [getL, q]) e
    · rename_i l q; exact go l (by simp [getL, q]) e
    · rename_i q
      cases e
      obtain ⟨a, h1, rfl⟩ := rep_ref M h
      obtain ⟨xs, h3, h4⟩ := M.at' k _ a q h1
      have h5 : xs = [] := h4
      subst h5
      exact .dct h3
    · cases e
end
section
variable {X : Cx} {E : XK} {pins : List (Addr × Obj)} {σ : L2.St} {H : Hp} {s : Shared} {ρ : List Addr} {μ : Mem}
theorem dct_rd (I : Inv X pins σ H s) {a : Addr} (h3 : H a = some (.dK [])) : (∃ as, Reads s.heap (.ref a) (.dict []) as ∧ sysModules ∉ as) := by
  obtain ⟨_, ns, vs, kv, o, es, ep, q1, q2, q3, _, q5, _⟩ := L2.dk_of I.hok h3
  cases kv
  have hes : es.toList = [] := by
    cases hh : es.toList with
    | nil => rfl
    | cons a l => rw [hh] at q5; nomatch q5
  refine ⟨a :: [] ++ [], .dict q1 q2.1 q3 (by rw [hes]; exact .nil) (by rw [hes]; exact .nil), fun hm => ?_⟩
  simp only [List.append_nil, List.mem_singleton] at hm
  rw [← hm] at ns
  exact absurd ns (by simp)
mutual
theorem de_repr (I : Inv X pins σ H s) : ∀ {v : V} {d : PyData} {u : Value}, De X.K H v d → RelV v u → (∃ as, Reads s.heap u d as) ∧ (d.showable = true → d.shown.length ≤ sizeLine → ∃ bs, ReadAtMost s.heap d.depth bs ∧ ReprK X.prog X.w bs s.heap d.depth u d.shown)
  | _, _, _, .non, r => by cases r; exact ⟨⟨_, .none⟩, fun a b => ReprK.of_reads .none a (fun h => by simp [PyData.hasDict] at h) b⟩
  | _, _, _, .bl c, r => by cases r; exact ⟨⟨_, .bool c⟩, fun a b => ReprK.of_reads (.bool c) a (fun h => by simp [PyData.hasDict] at h) b⟩
  | _, _, _, .int i, r => by obtain ⟨t, rfl⟩ := r; exact ⟨⟨_, .int i t⟩, fun a b => ReprK.of_reads (.int i t) a (fun h => by simp [PyData.hasDict] at h) b⟩
  | _, _, _, .str x, r => by obtain ⟨t, rfl⟩ := r; exact ⟨⟨_, .str x t⟩, fun a b => ReprK.of_reads (.str x t) a (fun h => by simp [PyData.hasDict] at h) b⟩
  | _, _, _, .dct h, r => by
    cases r
    obtain ⟨as, rd, ns⟩ := dct_rd I h
    exact ⟨⟨as, rd⟩, fun a b => ReprK.of_reads rd a (fun _ => ns) b⟩
  | _, _, _, .lst (ds := ds) hs ha, r => by
    cases r
    obtain ⟨its, rv, ⟨o, n, ho, hc, _, hd⟩, _⟩ := I.list hs
    obtain ⟨⟨as, rd⟩, rp⟩ := de_reprs I ha rv
    refine ⟨⟨_, .list ho hc hd rd⟩, fun hsh hz => ?_⟩
    have hz' : (listText (PyData.shownAll ds)).length ≤ sizeLine := by simpa only [PyData.shown] using hz
    obtain ⟨bs, hb, hk⟩ := rp (by simpa [PyData.showable] using hsh) (fun t ht => Nat.le_trans (listText_mem_le ht) hz')
    have rr : Reads s.heap _ (.list ds) _ := .list ho hc hd rd
    have hna := not_mem_of_deeper rr (by simp only [PyData.depth]; omega) hb
    refine ⟨_ :: bs, ReadAtMost.cons rr (by simp only [PyData.depth]; omega) hb, ?_⟩
    simp only [PyData.depth, PyData.shown]
    cases its with
    | nil =>
      cases rd
      simp only [PyData.shownAll, listText_nil]
      exact ReprK.listEmpty ho hc hd
    | cons x l => exact ReprK.list ho hc hd hna (by simpa using hk.length_eq) (fun i y e => hk.item i y (by simpa using e))
  | _, _, _, .tup (ds := ds) hs ha, r => by
    cases r
    obtain ⟨its, rv, ⟨o, ho, hc, n, hd⟩, _⟩ := I.tuple hs
    obtain ⟨⟨as, rd⟩, rp⟩ := de_reprs I ha rv
    refine ⟨⟨_, .tuple ho hc hd rd⟩, fun hsh hz => ?_⟩
    have hz' : (tupleText (PyData.shownAll ds)).length ≤ sizeLine := by simpa only [PyData.shown] using hz
    obtain ⟨bs, hb, hk⟩ := rp (by simpa [PyData.showable] using hsh) (fun t ht => Nat.le_trans (tupleText_mem_le ht) hz')
    have rr : Reads s.heap _ (.tuple ds) _ := .tuple ho hc hd rd
    have hna := not_mem_of_deeper rr (by simp only [PyData.depth]; omega) hb
    refine ⟨_ :: bs, ReadAtMost.cons rr (by simp only [PyData.depth]; omega) hb, ?_⟩
    simp only [PyData.depth, PyData.shown]
    exact ReprK.tuple ho hc hd hna hk
theorem de_reprs (I : Inv X pins σ H s) : ∀ {vs : List V} {ds : List PyData} {us : List Value}, DeAll X.K H vs ds → Vals vs us → (∃ as, ReadsAll s.heap us ds as) ∧ (PyData.showableAll ds = true → (∀ t ∈ PyData.shownAll ds, t.length ≤ sizeLine) → ∃ bs, ReadAtMost s.heap (PyData.depthAll ds) bs ∧ ReprAllK X.prog X.w bs s.heap (PyData.depthAll ds) us (PyData.shownAll ds))
  | _, _, _, .nil, v => by
    cases v
    exact ⟨⟨_, .nil⟩, fun _ _ => ⟨[], (fun _ h => nomatch h), by simp only [PyData.shownAll]; exact .nil⟩⟩
  | _, _, _, .cons (d := d) (ds := es) h1 h2, v => by
    cases v with
    | cons v1 v2 =>
      obtain ⟨⟨as, j1⟩, j2⟩ := de_repr I h1 v1
      obtain ⟨⟨bs, k1⟩, k2⟩ := de_reprs I h2 v2
      refine ⟨⟨_, .cons j1 k1⟩, fun sh sz => ?_⟩
      simp only [PyData.showableAll, Bool.and_eq_true] at sh
      simp only [PyData.shownAll, List.mem_cons, forall_eq_or_imp] at sz
      obtain ⟨cs, x1, x2⟩ := j2 sh.1 sz.1
      obtain ⟨gs, y1, y2⟩ := k2 sh.2 sz.2
      have l1 := Nat.le_max_left d.depth (PyData.depthAll es)
      have l2 := Nat.le_max_right d.depth (PyData.depthAll es)
      refine ⟨cs ++ gs, ?_, ?_⟩
      · simp only [PyData.depthAll]
        exact (x1.mono l1).append (y1.mono l2)
      · have m1 : ∀ b ∈ cs, b ∈ cs ++ gs := fun b hb => by simp [hb]
        have m2 : ∀ b ∈ gs, b ∈ cs ++ gs := fun b hb => by simp [hb]
        simp only [PyData.depthAll, PyData.shownAll]
        exact .cons ((x2.more m1).level_le l1) (y2.more_le m2 l2)
end
theorem crP_reprE (hg : X.A.guards = some []) (hu : X.A.units + 65 < cLine) : CallR X (.builtin "repr") (rPn X.K X.mg E fReprE) := by
  intro pins s σ H xs us Q I rs h
  obtain ⟨μ, ρ, ps, M, hp, h⟩ := h
  match ps, hp with
  | [p], hp =>
    obtain ⟨x, rfl, r⟩ := reps1 hp
    simp only [fReprE] at h
    split at h
    · rename_i d hd
      split at h
      · rename_i hz
        obtain ⟨z1, z2, z3⟩ := hz
        have hv := h.val M rstr
        have de := de_toEn M 5 p d x hd r
        obtain ⟨u, rfl, rx⟩ := vals1 rs
        have sz : d.shown.length ≤ sizeLine := by rw [SL_eq]; exact z2
        have fin : ∀ h' t tk, (∀ b o, s.heap.get? b = some o → h'.get? b = some o) → EP X pins σ Q (.str d.shown t) { s with heap := h', toks := tk } := fun h' t tk hk => ⟨.str _, H, I.kept (t' := tk) hk, ⟨t, rfl⟩, hv⟩
        cases de with
        | non => cases rx; exact PySem.P.repr_of_none ⟨.str _, H, I.tok _, ⟨_, rfl⟩, hv⟩
        | bl b =>
          cases rx
          refine PySem.P.repr_of_bool ⟨.str _, H, I.tok _, ⟨_, rfl⟩, ?_⟩
          exact hv
        | int i =>
          obtain ⟨t, rfl⟩ := rx
          refine PySem.P.repr_of_int (by simpa [PyData.showable] using z1) ⟨.str _, H, I.tok _, ⟨_, rfl⟩, ?_⟩
          exact hv
        | str y =>
          obtain ⟨t, rfl⟩ := rx
          refine PySem.P.repr_of_str ⟨.str _, H, I.tok _, ⟨_, rfl⟩, ?_⟩ (by simpa [PyData.shown] using sz)
          exact hv
        | dct h0 =>
          cases rx
          obtain ⟨as, rd, ns⟩ := dct_rd I h0
          exact PySem.repr_of_reads' rd z1 (fun _ => ns) hg (by omega) (fun _ _ e => e) fin sz
        | @lst a ys ds h1 h2 =>
          cases rx
          obtain ⟨its, rv, ⟨o, n, ho, hc, _, hd'⟩, _⟩ := I.list h1
          obtain ⟨⟨as, rd⟩, rp⟩ := de_reprs I h2 rv
          have hz' : (listText (PyData.shownAll ds)).length ≤ sizeLine := by simpa only [PyData.shown] using sz
          obtain ⟨bs, hb, hk⟩ := rp (by simpa [PyData.showable] using z1) (fun t ht => Nat.le_trans (listText_mem_le ht) hz')
          have rr : Reads s.heap (.ref a) (.list ds) _ := .list ho hc hd' rd
          have hna := not_mem_of_deeper rr (by simp only [PyData.depth]; omega) hb
          simp only [PyData.depth] at z3
          simp only [PyData.shown] at fin
          refine call_repr_slot (by omega) ⟨o, ho, hc⟩ F.slot_list_repr.toG ?_
          cases its with
          | nil =>
            cases rd
            simp only [PyData.shownAll, listText_nil] at fin
            exact call_list_repr_empty ⟨o, ho, hc⟩ ho hd' ⟨_, _, rfl, fin s.heap _ _ fun _ _ e => e⟩
          | cons x l =>
            exact call_list_reprK ho hc hd' hna (by simpa using hk.length_eq) (fun i y e => hk.item i y (by simpa using e)) hg (fun b _ => Clear.nil b) (by show X.A.units + 1 + _ < cLine; omega) (fun _ _ e => e) (fun h' t tk hk => ⟨_, _, rfl, fin h' t tk hk⟩) hz'
        | @tup a ys ds h1 h2 =>
          cases rx
          obtain ⟨its, rv, ⟨o, ho, hc, n, hd'⟩, _⟩ := I.tuple h1
          obtain ⟨⟨as, rd⟩, rp⟩ := de_reprs I h2 rv
          have hz' : (tupleText (PyData.shownAll ds)).length ≤ sizeLine := by simpa only [PyData.shown] using sz
          obtain ⟨bs, hb, hk⟩ := rp (by simpa [PyData.showable] using z1) (fun t ht => Nat.le_trans (tupleText_mem_le ht) hz')
          have rr : Reads s.heap (.ref a) (.tuple ds) _ := .tuple ho hc hd' rd
          have hna := not_mem_of_deeper rr (by simp only [PyData.depth]; omega) hb
          simp only [PyData.depth] at z3
          simp only [PyData.shown] at fin
          refine call_repr_slot (by omega) ⟨o, ho, hc⟩ F.slot_tuple_repr ?_
          exact call_tuple_reprK ho hc hd' hna hk hg (fun b _ => Clear.nil b) (by show X.A.units + 1 + _ < cLine; omega) (fun _ _ e => e) (fun h' t tk hk => ⟨_, _, rfl, fin h' t tk hk⟩) hz'
      · exact h.elim
    · exact h.elim
  | [], _ => exact h.elim
  | p :: _ :: _, _ => exact h.elim
end
end PL
end
section
/-! The pure bodies (printed by gen.py). -/
namespace Law
open PySem PL
abbrev K_MAX_PARTS : PV := .int 40
abbrev K_MAX_TICKS : PV := .int 1000000000000000000000000000000
/- is_integer: 0 value -/
noncomputable def b_is_integer : Sm :=
  (ret (PL.and (app1 (fIsi .int) (v 0)) (app1 fNot (app1 (fIsi .bool) (v 0)))))
noncomputable def m_is_integer : Fn := fn 1 b_is_integer
/- are_ticks: 0 values, 1 value -/
noncomputable def b_are_ticks : Sm :=
  (ret (app fAll (ac (lc (iVal (v 0)) (tn 1) yes (PL.and (app m_is_integer (ac (v 1) an)) (chain fLe fLe (c (.int 0)) (v 1) (c K_MAX_TICKS))) [1]) an)))
noncomputable def m_are_ticks : Fn := fn 2 b_are_ticks
/- is_timer: 0 part -/
noncomputable def b_is_timer : Sm :=
  (ret (app2 fInX (app2 fIx (v 0) (c (.int 0))) (app fTup (ac (c (.str ("on" : Str))) (ac (c (.str ("off" : Str))) an)))))
noncomputable def m_is_timer : Fn := fn 1 b_is_timer
/- is_loose_part: 0 value -/
noncomputable def b_is_loose_part : Sm :=
  (seq (PL.cond (PL.or (app1 fNot (app1 (fIsi .tuple) (v 0))) (app2 fEqX (v 0) (app fTup an)))
   (ret (c (.bl false)))
   skip)
  (seq (PL.cond (app2 fEqX (v 0) (app fTup (ac (c (.str ("turn" : Str))) an)))
   (ret (c (.bl true)))
   skip)
  (seq (PL.cond (app2 fEqX (app2 fIx (v 0) (c (.int 0))) (c (.str ("delay" : Str))))
   (ret (PL.and (app2 fEq (app fLen (ac (v 0) an)) (c (.int 2))) (app m_are_ticks (ac (sl (v 0) (app1 fPart (c (.int 1))) (c .non)) an))))
   skip)
  (ret (PL.and (app m_is_timer (ac (v 0) an)) (PL.and (app2 fEq (app fLen (ac (v 0) an)) (c (.int 3))) (PL.and (app m_are_ticks (ac (sl (v 0) (app1 fPart (c (.int 1))) (c .non)) an)) (app2 fLe (app2 fIx (v 0) (c (.int 1))) (app2 fIx (v 0) (c (.int 2)))))))))))
noncomputable def m_is_loose_part : Fn := fn 1 b_is_loose_part
/- loose_error: 0 value, 1 place, 2 part -/
noncomputable def b_loose_error : Sm :=
  (seq (PL.cond (PL.or (app1 fNot (app1 (fIsi .tuple) (v 0))) (app2 fGt (app fLen (ac (v 0) an)) (c K_MAX_PARTS)))
   (ret (c (.str ("form" : Str))))
   skip)
  (seq (forS (iEnum (v 0)) (tt 2 (tc (tn 1) (tc (tn 2) t0)))
   (PL.cond (app1 fNot (app m_is_loose_part (ac (v 2) an)))
    (ret (app fTup (ac (c (.str ("part" : Str))) (ac (v 1) an))))
    skip))
  (ret (c .non))))
noncomputable def m_loose_error : Fn := fn 3 b_loose_error
/- _law_stock: 0 script, 1 flat, 2 cell -/
noncomputable def b__law_stock : Sm :=
  (seq (setv 1 (lc (iVal (sl (v 0) (c .non) (app1 fPart (c (.int 63))))) (tn 2) yes (PL.ite (app2 fGe (v 2) (c (.int 0))) (app2 fMul (c (.int 2)) (v 2)) (app2 fSub (app2 fMul (app1 fNeg (c (.int 2))) (v 2)) (c (.int 1)))) [2]))
  (ret (app fLst (ac (lc (iVal (v 1)) (tn 2) (app2 fGe (v 2) (app2 fPow (c (.int 10)) (c (.int 15)))) (v 2) [2]) (ac (app2 fAdd (v 1) (app fLst (ac (app2 fAdd (app fLen (ac (v 1) an)) (c (.int 741))) an))) (ac (app fSum (ac (v 1) an)) (ac (c (.int 0)) an)))))))
noncomputable def m__law_stock : Fn := fn 3 b__law_stock
/- _law_draw: 0 stock, 1 size, 2 turn, 3 cell, 4 blend, 5 great -/
noncomputable def b__law_draw : Sm :=
  (seq (PL.cond (app2 fNe (app2 fIx (v 0) (c (.int 0))) (app fLst an))
   (seq (setv 5 (mth .list fPop (app2 fIx (v 0) (c (.int 0))) an))
   (seq (PL.cond (app2 fGe (v 5) (v 1))
    (PL.exp (mth .list fAppend (app2 fIx (v 0) (c (.int 0))) (ac (app2 fDiv (v 5) (v 1)) an)))
    skip)
   (ret (app2 fMod (app fInt (ac (v 5) an)) (v 1)))))
   skip)
  (seq (asg (tsub fSet (v 0) (c (.int 3))) (app2 fAdd (app2 fIx (v 0) (c (.int 3))) (c (.int 1))))
  (seq (setv 2 (app2 fIx (v 0) (c (.int 3))))
  (seq (setv 3 (app2 fMod (app fInt (ac (app2 fIx (app2 fIx (v 0) (c (.int 1))) (app2 fMod (app fInt (ac (v 2) an)) (app fLen (ac (app2 fIx (v 0) (c (.int 1))) an)))) an)) (c (.int 1000000007))))
  (seq (setv 4 (app2 fMod (app fInt (ac (app2 fAdd (app2 fAdd (app2 fMul (v 3) (c (.int 48271))) (app2 fMul (app2 fMod (app fInt (ac (app2 fIx (v 0) (c (.int 2))) an)) (c (.int 998244353))) (c (.int 69621)))) (app2 fMul (v 2) (c (.int 2654435761)))) an)) (c (.int 4294967291))))
  (seq (setv 4 (app2 fMod (app fInt (ac (app2 fAdd (app2 fAdd (app2 fMul (v 4) (v 4)) (app2 fMul (v 2) (c (.int 362437)))) (v 3)) an)) (c (.int 4294967279))))
  (ret (app2 fMod (app2 fDiv (app2 fMod (app fInt (ac (app2 fAdd (app2 fMul (v 4) (c (.int 40692))) (app2 fMul (v 2) (c (.int 65537)))) an)) (c (.int 4294967231))) (c (.int 4096))) (v 1)))))))))
noncomputable def m__law_draw : Fn := fn 6 b__law_draw
/- _law_pick: 0 stock, 1 row -/
noncomputable def b__law_pick : Sm :=
  (ret (app2 fIx (v 1) (app m__law_draw (ac (v 0) (ac (app fLen (ac (v 1) an)) an)))))
noncomputable def m__law_pick : Fn := fn 2 b__law_pick
/- _law_loose: 0 stock, 1 parts, 2 most, 3 wide, 4 found, 5 turn, 6 low, 7 way, 8 small -/
noncomputable def b__law_loose : Sm :=
  (seq (setv 4 (app fLst an))
  (seq (forS (iRng1 (app m__law_draw (ac (v 0) (ac (app2 fAdd (v 1) (c (.int 1))) an)))) (tn 5)
   (seq (par 7 8 (app m__law_draw (ac (v 0) (ac (c (.int 8)) an))) (app m__law_draw (ac (v 0) (ac (app2 fAdd (app fMin (ac (v 2) (ac (c (.int 9)) an))) (c (.int 1))) an))))
   (seq (setv 6 (app m__law_pick (ac (v 0) (ac (app fLst (ac (v 8) (ac (v 8) (ac (app2 fSub (v 2) (v 8)) (ac (app2 fDiv (v 2) (app2 fAdd (c (.int 1)) (v 8))) an))))) an))))
   (PL.cond (app2 fEq (v 7) (c (.int 6)))
    (PL.exp (mth .list fAppend (v 4) (ac (app fTup (ac (c (.str ("delay" : Str))) (ac (v 6) an))) an)))
    (PL.cond (app2 fEq (v 7) (c (.int 7)))
     (PL.exp (mth .list fAppend (v 4) (ac (app fTup (ac (c (.str ("turn" : Str))) an)) an)))
     (PL.exp (mth .list fAppend (v 4) (ac (app fTup (ac (app2 fIx (app fLst (ac (c (.str ("on" : Str))) (ac (c (.str ("off" : Str))) an))) (app2 fMod (v 7) (c (.int 2)))) (ac (v 6) (ac (app2 fAdd (v 6) (app m__law_draw (ac (v 0) (ac (app2 fAdd (v 3) (c (.int 1))) an)))) an)))) an))))))))
  (ret (app fTuple (ac (v 4) an)))))
noncomputable def m__law_loose : Fn := fn 9 b__law_loose
/- _law_is_whole: 0 value, 1 least, 2 most -/
noncomputable def b__law_is_whole : Sm :=
  (ret (PL.and (app1 (fIsi .int) (v 0)) (PL.and (app1 fNot (app1 (fIsi .bool) (v 0))) (chain fLe fLe (v 1) (v 0) (v 2)))))
noncomputable def m__law_is_whole : Fn := fn 3 b__law_is_whole
/- _law_is_part: 0 value -/
noncomputable def b__law_is_part : Sm :=
  (seq (PL.cond (PL.or (app1 fNot (app1 (fIsi .tuple) (v 0))) (PL.or (app2 fEqX (v 0) (app fTup an)) (app1 fNot (app1 (fIsi .str) (app2 fIx (v 0) (c (.int 0)))))))
   (ret (c (.bl false)))
   skip)
  (seq (PL.cond (app2 fEqX (app2 fIx (v 0) (c (.int 0))) (c (.str ("turn" : Str))))
   (ret (app2 fEq (app fLen (ac (v 0) an)) (c (.int 1))))
   skip)
  (seq (PL.cond (app2 fEqX (app2 fIx (v 0) (c (.int 0))) (c (.str ("delay" : Str))))
   (ret (PL.and (app2 fEq (app fLen (ac (v 0) an)) (c (.int 2))) (app m__law_is_whole (ac (app2 fIx (v 0) (c (.int 1))) (ac (c (.int 0)) (ac (app2 fPow (c (.int 10)) (c (.int 30))) an))))))
   skip)
  (seq (PL.cond (PL.or (app2 fNotIn (app2 fIx (v 0) (c (.int 0))) (app fTup (ac (c (.str ("on" : Str))) (ac (c (.str ("off" : Str))) an)))) (app2 fNe (app fLen (ac (v 0) an)) (c (.int 3))))
   (ret (c (.bl false)))
   skip)
  (ret (PL.and (app m__law_is_whole (ac (app2 fIx (v 0) (c (.int 1))) (ac (c (.int 0)) (ac (app2 fPow (c (.int 10)) (c (.int 30))) an)))) (app m__law_is_whole (ac (app2 fIx (v 0) (c (.int 2))) (ac (app2 fIx (v 0) (c (.int 1))) (ac (app2 fPow (c (.int 10)) (c (.int 30))) an))))))))))
noncomputable def m__law_is_part : Fn := fn 1 b__law_is_part
/- _law_due: 0 value, 1 place, 2 part -/
noncomputable def b__law_due : Sm :=
  (seq (PL.cond (PL.or (app1 fNot (app1 (fIsi .tuple) (v 0))) (app2 fGt (app fLen (ac (v 0) an)) (c (.int 40))))
   (ret (c (.str ("form" : Str))))
   skip)
  (seq (forS (iEnum (v 0)) (tt 2 (tc (tn 1) (tc (tn 2) t0)))
   (PL.cond (app1 fNot (app m__law_is_part (ac (v 2) an)))
    (ret (app fTup (ac (c (.str ("part" : Str))) (ac (v 1) an))))
    skip))
  (ret (c .non))))
noncomputable def m__law_due : Fn := fn 3 b__law_due
/- _law_odd: 0 stock, 1 word, 2 odd, 3 low, 4 far -/
noncomputable def b__law_odd : Sm :=
  (seq (par 3 4 (app m__law_draw (ac (v 0) (ac (c (.int 5)) an))) (app2 fPow (c (.int 10)) (c (.int 30))))
  (seq (setv 1 (app m__law_pick (ac (v 0) (ac (app fLst (ac (c (.str ("on" : Str))) (ac (c (.str ("off" : Str))) an))) an))))
  (seq (setv 2 (app fLst (ac (app fTup (ac (v 1) (ac (app2 fAdd (v 3) (c (.int 1))) (ac (v 3) an)))) (ac (app fTup (ac (v 1) (ac (v 3) an))) (ac (app fTup (ac (v 1) an)) (ac (app fTup (ac (v 1) (ac (v 3) (ac (v 4) an)))) (ac (app fTup (ac (v 1) (ac (v 3) (ac (app2 fAdd (v 4) (c (.int 1))) an)))) (ac (app fTup (ac (v 1) (ac (v 4) (ac (v 4) an)))) an))))))))
  (seq (setv 2 (app2 fAdd (v 2) (app fLst (ac (app fTup (ac (v 1) (ac (app1 fNeg (c (.int 1))) (ac (v 3) an)))) (ac (app fTup (ac (v 1) (ac (c (.bl true)) (ac (c (.int 2)) an)))) (ac (app fTup (ac (v 1) (ac (c (.int 0)) (ac (c (.bl true)) an)))) (ac (app fTup (ac (v 1) (ac (c (.bl false)) (ac (v 3) an)))) (ac (app fTup (ac (v 1) (ac (c .non) (ac (v 3) an)))) an))))))))
  (seq (setv 2 (app2 fAdd (v 2) (app fLst (ac (app fLst (ac (v 1) (ac (v 3) (ac (v 3) an)))) (ac (app fTup (ac (v 1) (ac (v 3) (ac (v 3) (ac (v 3) an))))) (ac (app fTup (ac (v 1) (ac (app fTup (ac (v 3) (ac (v 3) an))) an))) (ac (app fTup (ac (c (.str ("delay" : Str))) (ac (v 3) (ac (v 3) an)))) (ac (app fTup (ac (c (.str ("delay" : Str))) an)) an))))))))
  (seq (setv 2 (app2 fAdd (v 2) (app fLst (ac (app fTup (ac (c (.str ("delay" : Str))) (ac (app1 fNeg (c (.int 1))) an))) (ac (app fTup (ac (c (.str ("delay" : Str))) (ac (v 4) an))) (ac (app fTup (ac (c (.str ("delay" : Str))) (ac (app2 fAdd (v 4) (c (.int 1))) an))) (ac (app fTup (ac (c (.str ("delay" : Str))) (ac (c (.bl true)) an))) (ac (app fTup (ac (c (.str ("turn" : Str))) (ac (c (.int 0)) an))) (ac (app fTup (ac (c (.str ("turn" : Str))) an)) (ac (c (.str ("turn" : Str))) an))))))))))
  (seq (setv 2 (app2 fAdd (v 2) (app fLst (ac (app fLst (ac (c (.str ("turn" : Str))) an)) (ac (app fTup (ac (c (.str ("On" : Str))) (ac (c (.int 1)) (ac (c (.int 2)) an)))) (ac (app fTup (ac (c .non) (ac (c (.int 1)) (ac (c (.int 2)) an)))) (ac (app fTup (ac (app fTup (ac (c (.str ("on" : Str))) an)) (ac (c (.int 1)) (ac (c (.int 2)) an)))) (ac (app fTup an) (ac (c .non) (ac (c (.int 7)) (ac dnew (ac (app fTup (ac (v 1) (ac (v 3) (ac (app2 fAdd (v 3) (c (.int 1))) an)))) an))))))))))))
  (seq (setv 2 (app2 fAdd (v 2) (app fLst (ac (app fTup (ac (c (.str ("late" : Str))) (ac (c (.int 1)) (ac (c (.int 2)) an)))) (ac (app fTup (ac (c (.int 1)) (ac (v 1) (ac (c (.int 2)) an)))) (ac (app fTup (ac (v 1) (ac (app2 fMul (v 4) (v 4)) (ac (app2 fMul (app2 fMul (v 4) (v 4)) (v 4)) an)))) (ac (app fTup (ac (v 1) (ac (v 3) (ac (app2 fMul (app2 fMul (v 4) (v 4)) (v 4)) an)))) an)))))))
  (seq (setv 2 (app2 fAdd (v 2) (app fLst (ac (app fTup (ac (app fLst (ac (v 1) an)) (ac (v 3) (ac (v 3) an)))) (ac (app fTup (ac dnew (ac (c (.int 1)) (ac (c (.int 2)) an)))) (ac (app fTup (ac (app fLst an) an)) (ac (app fTup (ac (v 1) (ac (v 3) (ac (c .non) an)))) (ac (app fTup (ac (v 1) (ac (v 3) (ac (c (.str ("2" : Str))) an)))) (ac (app fTup (ac (c (.str ("delay" : Str))) (ac (c .non) an))) an)))))))))
  (ret (app m__law_pick (ac (v 0) (ac (app2 fAdd (v 2) (app fLst (ac (app fTup (ac (c (.str ("delay" : Str))) (ac (app fTup (ac (c (.int 1)) an)) an))) an))) an)))))))))))))
noncomputable def m__law_odd : Fn := fn 5 b__law_odd
/- law: 0 script, 1 stock, 2 turn, 3 great, 4 loose, 5 forty, 6 things, 7 nth, 8 once, 9 thing, 10 heard, 11 at, 12 to, 13 known, 14 due -/
noncomputable def b_law : Sm :=
  (seq (setv 1 (app m__law_stock (ac (v 0) an)))
  (seq (forS (iRng1 (c (.int 4))) (tn 2)
   (seq (setv 3 (app m__law_pick (ac (v 1) (ac (app fLst (ac (c (.int 4)) (ac (app2 fSub (app2 fPow (c (.int 10)) (c (.int 30))) (c (.int 9))) (ac (app2 fPow (c (.int 10)) (c (.int 29))) an)))) an))))
   (seq (setv 4 (app m__law_loose (ac (v 1) (ac (c (.int 6)) (ac (v 3) (ac (app m__law_pick (ac (v 1) (ac (app fLst (ac (c (.int 0)) (ac (c (.int 1)) (ac (c (.int 3)) (ac (c (.int 9)) an))))) an))) an))))))
   (seq (setv 5 (app2 fMul (app2 fAdd (v 4) (app fTup (ac (app fTup (ac (c (.str ("turn" : Str))) an)) an))) (c (.int 40))))
   (seq (setv 6 (app fLst (ac (v 4) (ac (app fList (ac (v 4) an)) (ac (sl (v 5) (c .non) (app1 fPart (c (.int 40)))) (ac (sl (v 5) (c .non) (app1 fPart (c (.int 41)))) (ac (app fTup an) (ac (c .non) (ac (app fTup (ac (v 4) an)) (ac dnew (ac (c (.int 7)) (ac (c (.str ("turn" : Str))) (ac (c (.bl true)) an)))))))))))))
   (seq (PL.exp (mth .list fAppend (v 6) (ac (app2 fAdd (v 4) (app fTup (ac (app fTup (ac (c (.str ("delay" : Str))) (ac (c (.int 0)) an))) an))) an)))
   (seq (forS (iRng1 (c (.int 10))) (tn 7)
    (seq (par 11 12 (app m__law_draw (ac (v 1) (ac (app2 fAdd (app fLen (ac (v 4) an)) (c (.int 1))) an))) (app m__law_draw (ac (v 1) (ac (app2 fAdd (app fLen (ac (v 4) an)) (c (.int 1))) an))))
    (seq (setv 8 (app2 fAdd (app2 fAdd (sl (v 4) (c .non) (app1 fPart (v 11))) (app fTup (ac (app m__law_odd (ac (v 1) an)) an))) (sl (v 4) (app1 fPart (app2 fAdd (v 11) (app m__law_draw (ac (v 1) (ac (c (.int 2)) an))))) (c .non))))
    (seq (PL.exp (mth .list fAppend (v 6) (ac (v 8) an)))
    (PL.exp (mth .list fAppend (v 6) (ac (app2 fAdd (app2 fAdd (sl (v 8) (c .non) (app1 fPart (v 12))) (app fTup (ac (app m__law_odd (ac (v 1) an)) an))) (sl (v 8) (app1 fPart (v 12)) (c .non))) an)))))))
   (seq (setv 6 (app2 fAdd (v 6) (app fLst (ac (app2 fAdd (sl (v 5) (c .non) (app1 fPart (c (.int 40)))) (app fTup (ac (app m__law_odd (ac (v 1) an)) an))) (ac (app fLst (ac (app m__law_odd (ac (v 1) an)) an)) an)))))
   (seq (PL.exp (mth .list fAppend (v 6) (ac (app2 fAdd (sl (v 5) (c .non) (app1 fPart (c (.int 39)))) (app fTup (ac (app m__law_odd (ac (v 1) an)) an))) an)))
   (forS (iEnum (v 6)) (tt 2 (tc (tn 7) (tc (tn 9) t0)))
    (seq (par 13 14 (app fReprE (ac (v 9) an)) (app fReprE (ac (app m__law_due (ac (v 9) an)) an)))
    (seq (setv 10 (PL.ite (app2 fEq (app2 fMod (v 7) (c (.int 3))) (c (.int 0))) (callK m_loose_error [0] an (ac (v 9) an)) (app m_loose_error (ac (v 9) an))))
    (PL.cond (PL.or (app2 fNe (app fReprE (ac (v 10) an)) (v 14)) (PL.or (app2 fNe (app fReprE (ac (app m_loose_error (ac (v 9) an)) an)) (v 14)) (app2 fNe (app fReprE (ac (v 9) an)) (v 13))))
     (ret (c (.bl false)))
     skip)))))))))))))
  (ret (app2 fEq (app m_loose_error (ac (app fTup (ac (app fTup (ac (c (.str ("off" : Str))) (ac (c (.bl true)) (ac (c (.int 2)) an)))) an)) an)) (app fTup (ac (c (.str ("part" : Str))) (ac (c (.int 0)) an)))))))
noncomputable def m_law : Fn := fn 15 b_law
end Law
end
section
set_option Elab.async false
set_option linter.all false
set_option maxRecDepth 100000
set_option maxHeartbeats 4000000
/-! The walk (printed by gen.py). -/
namespace Law
open PySem PySem.Spec PyProof.Rows L2 PL
def top (i : Nat) : Stmt := PySem.Challenge.pw_latewires_k41_what_is_a_loose_row.main.body.getD i (.Pass ⟨0, 0, 0, 0⟩)
abbrev s_is_integer : Stmt := top 3
abbrev N_is_integer : List Str := ["value"]
theorem sc_is_integer : FnScope N_is_integer ["value"] (defScope s_is_integer) := ⟨rfl, rfl, rfl, by decide +kernel, rfl, by decide +kernel, by decide +kernel⟩
theorem bd_is_integer : Bd "is_integer" s_is_integer ["value"] := fun _ _ _ _ _ _ _ us hl => match us, hl with | [_], _ => rfl
abbrev s_are_ticks : Stmt := top 5
abbrev N_are_ticks : List Str := ["values", "value"]
theorem sc_are_ticks : FnScope N_are_ticks ["values"] (defScope s_are_ticks) := ⟨rfl, rfl, rfl, by decide +kernel, rfl, by decide +kernel, by decide +kernel⟩
theorem bd_are_ticks : Bd "are_ticks" s_are_ticks ["values"] := fun _ _ _ _ _ _ _ us hl => match us, hl with | [_], _ => rfl
abbrev s_is_timer : Stmt := top 6
abbrev N_is_timer : List Str := ["part"]
theorem sc_is_timer : FnScope N_is_timer ["part"] (defScope s_is_timer) := ⟨rfl, rfl, rfl, by decide +kernel, rfl, by decide +kernel, by decide +kernel⟩
theorem bd_is_timer : Bd "is_timer" s_is_timer ["part"] := fun _ _ _ _ _ _ _ us hl => match us, hl with | [_], _ => rfl
abbrev s_is_loose_part : Stmt := top 7
abbrev N_is_loose_part : List Str := ["value"]
theorem sc_is_loose_part : FnScope N_is_loose_part ["value"] (defScope s_is_loose_part) := ⟨rfl, rfl, rfl, by decide +kernel, rfl, by decide +kernel, by decide +kernel⟩
theorem bd_is_loose_part : Bd "is_loose_part" s_is_loose_part ["value"] := fun _ _ _ _ _ _ _ us hl => match us, hl with | [_], _ => rfl
abbrev s_loose_error : Stmt := top 8
abbrev N_loose_error : List Str := ["value", "place", "part"]
theorem sc_loose_error : FnScope N_loose_error ["value"] (defScope s_loose_error) := ⟨rfl, rfl, rfl, by decide +kernel, rfl, by decide +kernel, by decide +kernel⟩
theorem bd_loose_error : Bd "loose_error" s_loose_error ["value"] := fun _ _ _ _ _ _ _ us hl => match us, hl with | [_], _ => rfl
abbrev s__law_stock : Stmt := top 10
abbrev N__law_stock : List Str := ["script", "flat", "cell"]
theorem sc__law_stock : FnScope N__law_stock ["script"] (defScope s__law_stock) := ⟨rfl, rfl, rfl, by decide +kernel, rfl, by decide +kernel, by decide +kernel⟩
theorem bd__law_stock : Bd "_law_stock" s__law_stock ["script"] := fun _ _ _ _ _ _ _ us hl => match us, hl with | [_], _ => rfl
abbrev s__law_draw : Stmt := top 11
abbrev N__law_draw : List Str := ["stock", "size", "turn", "cell", "blend", "great"]
theorem sc__law_draw : FnScope N__law_draw ["stock", "size"] (defScope s__law_draw) := ⟨rfl, rfl, rfl, by decide +kernel, rfl, by decide +kernel, by decide +kernel⟩
theorem bd__law_draw : Bd "_law_draw" s__law_draw ["stock", "size"] := fun _ _ _ _ _ _ _ us hl => match us, hl with | [_, _], _ => rfl
abbrev s__law_pick : Stmt := top 12
abbrev N__law_pick : List Str := ["stock", "row"]
theorem sc__law_pick : FnScope N__law_pick ["stock", "row"] (defScope s__law_pick) := ⟨rfl, rfl, rfl, by decide +kernel, rfl, by decide +kernel, by decide +kernel⟩
theorem bd__law_pick : Bd "_law_pick" s__law_pick ["stock", "row"] := fun _ _ _ _ _ _ _ us hl => match us, hl with | [_, _], _ => rfl
abbrev s__law_loose : Stmt := top 13
abbrev N__law_loose : List Str := ["stock", "parts", "most", "wide", "found", "turn", "low", "way", "small"]
theorem sc__law_loose : FnScope N__law_loose ["stock", "parts", "most", "wide"] (defScope s__law_loose) := ⟨rfl, rfl, rfl, by decide +kernel, rfl, by decide +kernel, by decide +kernel⟩
theorem bd__law_loose : Bd "_law_loose" s__law_loose ["stock", "parts", "most", "wide"] := fun _ _ _ _ _ _ _ us hl => match us, hl with | [_, _, _, _], _ => rfl
abbrev s__law_is_whole : Stmt := top 14
abbrev N__law_is_whole : List Str := ["value", "least", "most"]
theorem sc__law_is_whole : FnScope N__law_is_whole ["value", "least", "most"] (defScope s__law_is_whole) := ⟨rfl, rfl, rfl, by decide +kernel, rfl, by decide +kernel, by decide +kernel⟩
theorem bd__law_is_whole : Bd "_law_is_whole" s__law_is_whole ["value", "least", "most"] := fun _ _ _ _ _ _ _ us hl => match us, hl with | [_, _, _], _ => rfl
abbrev s__law_is_part : Stmt := top 15
abbrev N__law_is_part : List Str := ["value"]
theorem sc__law_is_part : FnScope N__law_is_part ["value"] (defScope s__law_is_part) := ⟨rfl, rfl, rfl, by decide +kernel, rfl, by decide +kernel, by decide +kernel⟩
theorem bd__law_is_part : Bd "_law_is_part" s__law_is_part ["value"] := fun _ _ _ _ _ _ _ us hl => match us, hl with | [_], _ => rfl
abbrev s__law_due : Stmt := top 16
abbrev N__law_due : List Str := ["value", "place", "part"]
theorem sc__law_due : FnScope N__law_due ["value"] (defScope s__law_due) := ⟨rfl, rfl, rfl, by decide +kernel, rfl, by decide +kernel, by decide +kernel⟩
theorem bd__law_due : Bd "_law_due" s__law_due ["value"] := fun _ _ _ _ _ _ _ us hl => match us, hl with | [_], _ => rfl
abbrev s__law_odd : Stmt := top 17
abbrev N__law_odd : List Str := ["stock", "word", "odd", "low", "far"]
theorem sc__law_odd : FnScope N__law_odd ["stock"] (defScope s__law_odd) := ⟨rfl, rfl, rfl, by decide +kernel, rfl, by decide +kernel, by decide +kernel⟩
theorem bd__law_odd : Bd "_law_odd" s__law_odd ["stock"] := fun _ _ _ _ _ _ _ us hl => match us, hl with | [_], _ => rfl
abbrev s_law : Stmt := top 18
abbrev N_law : List Str := ["script", "stock", "turn", "great", "loose", "forty", "things", "nth", "once", "thing", "heard", "at", "to", "known", "due"]
theorem sc_law : FnScope N_law ["script"] (defScope s_law) := ⟨rfl, rfl, rfl, by decide +kernel, rfl, by decide +kernel, by decide +kernel⟩
theorem bd_law : Bd "law" s_law ["script"] := fun _ _ _ _ _ _ _ us hl => match us, hl with | [_], _ => rfl
theorem bk_loose_error_0_value : BdK "loose_error" s_loose_error ["value"] ["value"] 0 [0] := fun _ _ _ _ _ _ _ us ws h1 h2 => match us, ws, h1, h2 with | [], [_], _, _ => rfl
/-- what is known of the top -/
structure Top (mg : Str → Option Value) (K : PySem.W.Frag) : Prop where
  b_all : mg "all" = none
  b_bool : mg "bool" = none
  b_enumerate : mg "enumerate" = none
  b_int : mg "int" = none
  b_isinstance : mg "isinstance" = none
  b_len : mg "len" = none
  b_list : mg "list" = none
  b_min : mg "min" = none
  b_range : mg "range" = none
  b_repr : mg "repr" = none
  b_str : mg "str" = none
  b_sum : mg "sum" = none
  b_tuple : mg "tuple" = none
  k_MAX_PARTS : ∃ t, mg "MAX_PARTS" = some (.int 40 t)
  k_MAX_TICKS : ∃ t, mg "MAX_TICKS" = some (.int 1000000000000000000000000000000 t)
/-- .. and of the defs -/
structure Cx0 (P : Program) (w : World) (K : PySem.W.Frag) (mg : Str → Option Value) (base : Heap) extends Top mg K where
  f_is_integer : FnM P w K mg base CX0 1 "is_integer" s_is_integer ["value"] m_is_integer
  f_are_ticks : FnM P w K mg base CX0 2 "are_ticks" s_are_ticks ["values"] m_are_ticks
  f_is_timer : FnM P w K mg base CX0 1 "is_timer" s_is_timer ["part"] m_is_timer
  f_is_loose_part : FnM P w K mg base CX0 3 "is_loose_part" s_is_loose_part ["value"] m_is_loose_part
  f_loose_error : FnM P w K mg base CX0 4 "loose_error" s_loose_error ["value"] m_loose_error
  f__law_stock : FnM P w K mg base CX0 1 "_law_stock" s__law_stock ["script"] m__law_stock
  f__law_draw : FnM P w K mg base CX0 1 "_law_draw" s__law_draw ["stock", "size"] m__law_draw
  f__law_pick : FnM P w K mg base CX0 2 "_law_pick" s__law_pick ["stock", "row"] m__law_pick
  f__law_loose : FnM P w K mg base CX0 3 "_law_loose" s__law_loose ["stock", "parts", "most", "wide"] m__law_loose
  f__law_is_whole : FnM P w K mg base CX0 1 "_law_is_whole" s__law_is_whole ["value", "least", "most"] m__law_is_whole
  f__law_is_part : FnM P w K mg base CX0 2 "_law_is_part" s__law_is_part ["value"] m__law_is_part
  f__law_due : FnM P w K mg base CX0 3 "_law_due" s__law_due ["value"] m__law_due
  f__law_odd : FnM P w K mg base CX0 3 "_law_odd" s__law_odd ["stock"] m__law_odd
  f_law : FnM P w K mg base CX0 5 "law" s_law ["script"] m_law
theorem k_MAX_PARTS {X : Cx} {E : XK} {pos : Pos} (T : Top X.mg X.K) (hg : Gl X "MAX_PARTS" := by rfl) : PP X E (.Name "MAX_PARTS" pos) (c K_MAX_PARTS) := let ⟨_, h⟩ := T.k_MAX_PARTS; pp_glob (w := .int 40) h ⟨_, rfl⟩ (fun _ _ => rint) hg
theorem k_MAX_TICKS {X : Cx} {E : XK} {pos : Pos} (T : Top X.mg X.K) (hg : Gl X "MAX_TICKS" := by rfl) : PP X E (.Name "MAX_TICKS" pos) (c K_MAX_TICKS) := let ⟨_, h⟩ := T.k_MAX_TICKS; pp_glob (w := .int 1000000000000000000000000000000) h ⟨_, rfl⟩ (fun _ _ => rint) hg
section
variable {P : Program} {w : World} {K : PySem.W.Frag} {mg : Str → Option Value} {base : Heap}
theorem ok_is_integer {f : Addr} {fd : FuncData} {ql : Str} (T : Top mg K)  (Fu : L2.Fun K "is_integer" ql s_is_integer f fd) (hm : mg "is_integer" = some (.ref f)) :
    FnM P w K mg base CX0 1 "is_integer" s_is_integer ["value"] m_is_integer :=
  fn_pure Fu hm sc_is_integer rfl fun cdv A outer s H E hr hg =>
  (ppb_one (pps_ret (pp_and (pp_isi (t := .int) (pp_v 0) T.b_isinstance T.b_int boot_isinstance boot_int) (pp_one (pp_not (pp_isi (t := .bool) (pp_v 0) T.b_isinstance T.b_bool boot_isinstance boot_bool))))))
theorem ok_are_ticks {f : Addr} {fd : FuncData} {ql : Str} (T : Top mg K) (f_is_integer : FnM P w K mg base CX0 1 "is_integer" s_is_integer ["value"] m_is_integer) (Fu : L2.Fun K "are_ticks" ql s_are_ticks f fd) (hm : mg "are_ticks" = some (.ref f)) :
    FnM P w K mg base CX0 2 "are_ticks" s_are_ticks ["values"] m_are_ticks :=
  fn_pure Fu hm sc_are_ticks rfl fun cdv A outer s H E hr hg =>
  (ppb_one (pps_ret (pp_callB (crP_all rfl) T.b_all boot_all (ppa_cons (pp_lc (own := [("value", 1)]) rfl sc_are_ticks.nd (ppi_val (pp_v 0)) (blkOk_by (N := N_are_ticks) (sc := defScope s_are_ticks) (by decide +kernel)) (fun _ _ _ _ _ => (ppg_n 1 sc_are_ticks.nd)) (fun _ _ _ _ _ => ppts_nil) (fun _ _ _ _ _ => (pp_and (pp_call f_is_integer bd_is_integer hr (by decide) hg pass0 (ppa_cons (pp_v 1) ppa_nil)) (pp_one (pp_chain cmpP_le cmpP_le pp_int (pp_v 1) (k_MAX_TICKS T)))))) ppa_nil))))
theorem ok_is_timer {f : Addr} {fd : FuncData} {ql : Str} (T : Top mg K)  (Fu : L2.Fun K "is_timer" ql s_is_timer f fd) (hm : mg "is_timer" = some (.ref f)) :
    FnM P w K mg base CX0 1 "is_timer" s_is_timer ["part"] m_is_timer :=
  fn_pure Fu hm sc_is_timer rfl fun cdv A outer s H E hr hg =>
  (ppb_one (pps_ret (pp_cmp (cmpP_inX (hu65 hr)) (pp_ix (pp_v 0) pp_int) (pp_tup (ppa_cons pp_str (ppa_cons pp_str ppa_nil))))))
theorem ok_is_loose_part {f : Addr} {fd : FuncData} {ql : Str} (T : Top mg K) (f_are_ticks : FnM P w K mg base CX0 2 "are_ticks" s_are_ticks ["values"] m_are_ticks) (f_is_timer : FnM P w K mg base CX0 1 "is_timer" s_is_timer ["part"] m_is_timer) (Fu : L2.Fun K "is_loose_part" ql s_is_loose_part f fd) (hm : mg "is_loose_part" = some (.ref f)) :
    FnM P w K mg base CX0 3 "is_loose_part" s_is_loose_part ["value"] m_is_loose_part :=
  fn_pure Fu hm sc_is_loose_part rfl fun cdv A outer s H E hr hg =>
  (ppb_cons (pps_if (PPW.t (ppw_or (ppt_not (PP.t (pp_isi (t := .tuple) (pp_v 0) T.b_isinstance T.b_tuple boot_isinstance boot_tuple))) (ppw_or1 (ppt_cmp (cmpP_eqX (hu64 hr)) (pp_v 0) (pp_tup ppa_nil)))))
   (ppb_one (pps_ret pp_bl))
   ppb_nil)
  (ppb_cons (pps_if (ppt_cmp (cmpP_eqX (hu64 hr)) (pp_v 0) (pp_tup (ppa_cons pp_str ppa_nil)))
   (ppb_one (pps_ret pp_bl))
   ppb_nil)
  (ppb_cons (pps_if (ppt_cmp (cmpP_eqX (hu64 hr)) (pp_ix (pp_v 0) pp_int) pp_str)
   (ppb_one (pps_ret (pp_and (pp_cmp (cmpP_eq (hu64 hr)) (pp_callB crP_len T.b_len boot_len (ppa_cons (pp_v 0) ppa_nil)) pp_int) (pp_one (pp_call f_are_ticks bd_are_ticks hr (by decide) hg pass0 (ppa_cons (pp_sl (pp_v 0) (ppo_some pp_int) ppo_none) ppa_nil))))))
   ppb_nil)
  (ppb_one (pps_ret (pp_and (pp_call f_is_timer bd_is_timer hr (by decide) hg pass0 (ppa_cons (pp_v 0) ppa_nil)) (pp_and (pp_cmp (cmpP_eq (hu64 hr)) (pp_callB crP_len T.b_len boot_len (ppa_cons (pp_v 0) ppa_nil)) pp_int) (pp_and (pp_call f_are_ticks bd_are_ticks hr (by decide) hg pass0 (ppa_cons (pp_sl (pp_v 0) (ppo_some pp_int) ppo_none) ppa_nil)) (pp_one (pp_cmp cmpP_le (pp_ix (pp_v 0) pp_int) (pp_ix (pp_v 0) pp_int)))))))))))
theorem ok_loose_error {f : Addr} {fd : FuncData} {ql : Str} (T : Top mg K) (f_is_loose_part : FnM P w K mg base CX0 3 "is_loose_part" s_is_loose_part ["value"] m_is_loose_part) (Fu : L2.Fun K "loose_error" ql s_loose_error f fd) (hm : mg "loose_error" = some (.ref f)) :
    FnM P w K mg base CX0 4 "loose_error" s_loose_error ["value"] m_loose_error :=
  fn_pure Fu hm sc_loose_error rfl fun cdv A outer s H E hr hg =>
  (ppb_cons (pps_if (PPW.t (ppw_or (ppt_not (PP.t (pp_isi (t := .tuple) (pp_v 0) T.b_isinstance T.b_tuple boot_isinstance boot_tuple))) (ppw_or1 (ppt_cmp cmpP_gt (pp_callB crP_len T.b_len boot_len (ppa_cons (pp_v 0) ppa_nil)) (k_MAX_PARTS T)))))
   (ppb_one (pps_ret pp_str))
   ppb_nil)
  (ppb_cons (pps_for PassesOwn.never rfl (ppi_enum T.b_enumerate (pp_v 0)) (ppg_tup (n := 2) rfl (ppgs_cons (ppg_n 1 sc_loose_error.nd) (ppgs_cons (ppg_n 2 sc_loose_error.nd) ppgs_nil)))
   (ppb_one (pps_if (ppt_not (PP.t (pp_call f_is_loose_part bd_is_loose_part hr (by decide) hg pass0 (ppa_cons (pp_v 2) ppa_nil))))
    (ppb_one (pps_ret (pp_tup (ppa_cons pp_str (ppa_cons (pp_v 1) ppa_nil)))))
    ppb_nil)))
  (ppb_one (pps_ret pp_non))))
theorem ok__law_stock {f : Addr} {fd : FuncData} {ql : Str} (T : Top mg K)  (Fu : L2.Fun K "_law_stock" ql s__law_stock f fd) (hm : mg "_law_stock" = some (.ref f)) :
    FnM P w K mg base CX0 1 "_law_stock" s__law_stock ["script"] m__law_stock :=
  fn_pure Fu hm sc__law_stock rfl fun cdv A outer s H E hr hg =>
  (ppb_cons (pps_setLc 1 (own := [("cell", 2)]) rfl sc__law_stock.nd (ppi_val (pp_sl (pp_v 0) ppo_none (ppo_some pp_int))) (blkOk_by (N := N__law_stock) (sc := defScope s__law_stock) (by decide +kernel)) (fun _ _ _ _ _ => (ppg_n 2 sc__law_stock.nd)) (fun _ _ _ _ _ => ppts_nil) (fun _ _ _ _ _ => (pp_ite (ppt_cmp cmpP_ge (pp_v 2) pp_int) (pp_op opP_mul pp_int (pp_v 2)) (pp_op opP_sub (pp_op opP_mul (pp_un unP_neg pp_int) (pp_v 2)) pp_int))) (sw_true rfl rfl rfl (by decide +kernel)))
  (ppb_one (pps_ret (pp_lst (ppa_cons (pp_lc (own := [("cell", 2)]) rfl sc__law_stock.nd (ppi_val (pp_v 1)) (blkOk_by (N := N__law_stock) (sc := defScope s__law_stock) (by decide +kernel)) (fun _ _ _ _ _ => (ppg_n 2 sc__law_stock.nd)) (fun _ _ _ _ _ => (ppts_one (ppt_cmp cmpP_ge (pp_v 2) (pp_op opP_pow pp_int pp_int)))) (fun _ _ _ _ _ => (pp_v 2))) (ppa_cons (pp_op opP_add (pp_v 1) (pp_lst (ppa_cons (pp_op opP_add (pp_callB crP_len T.b_len boot_len (ppa_cons (pp_v 1) ppa_nil)) pp_int) ppa_nil))) (ppa_cons (pp_callB (crP_sum rfl) T.b_sum boot_sum (ppa_cons (pp_v 1) ppa_nil)) (ppa_cons pp_int ppa_nil))))))))
theorem ok__law_draw {f : Addr} {fd : FuncData} {ql : Str} (T : Top mg K)  (Fu : L2.Fun K "_law_draw" ql s__law_draw f fd) (hm : mg "_law_draw" = some (.ref f)) :
    FnM P w K mg base CX0 1 "_law_draw" s__law_draw ["stock", "size"] m__law_draw :=
  fn_pure Fu hm sc__law_draw rfl fun cdv A outer s H E hr hg =>
  (ppb_cons (pps_if (ppt_cmp (cmpP_ne (hu64 hr)) (pp_ix (pp_v 0) pp_int) (pp_lst ppa_nil))
   (ppb_cons (pps_set 5 sc__law_draw.nd (pp_pop (pp_ix (pp_v 0) pp_int)))
   (ppb_cons (pps_if (ppt_cmp cmpP_ge (pp_v 5) (pp_v 1))
    (ppb_one (pps_exp (pp_append (pp_ix (pp_v 0) pp_int) (ppa_cons (pp_op opP_div (pp_v 5) (pp_v 1)) ppa_nil))))
    ppb_nil)
   (ppb_one (pps_ret (pp_op opP_mod (pp_callTy crP_int T.b_int boot_int (ppa_cons (pp_v 5) ppa_nil)) (pp_v 1))))))
   ppb_nil)
  (ppb_cons (pps_asg (pp_op opP_add (pp_ix (pp_v 0) pp_int) pp_int) (ppg_sub (pp_v 0) pp_int))
  (ppb_cons (pps_set 2 sc__law_draw.nd (pp_ix (pp_v 0) pp_int))
  (ppb_cons (pps_set 3 sc__law_draw.nd (pp_op opP_mod (pp_callTy crP_int T.b_int boot_int (ppa_cons (pp_ix (pp_ix (pp_v 0) pp_int) (pp_op opP_mod (pp_callTy crP_int T.b_int boot_int (ppa_cons (pp_v 2) ppa_nil)) (pp_callB crP_len T.b_len boot_len (ppa_cons (pp_ix (pp_v 0) pp_int) ppa_nil)))) ppa_nil)) pp_int))
  (ppb_cons (pps_set 4 sc__law_draw.nd (pp_op opP_mod (pp_callTy crP_int T.b_int boot_int (ppa_cons (pp_op opP_add (pp_op opP_add (pp_op opP_mul (pp_v 3) pp_int) (pp_op opP_mul (pp_op opP_mod (pp_callTy crP_int T.b_int boot_int (ppa_cons (pp_ix (pp_v 0) pp_int) ppa_nil)) pp_int) pp_int)) (pp_op opP_mul (pp_v 2) pp_int)) ppa_nil)) pp_int))
  (ppb_cons (pps_set 4 sc__law_draw.nd (pp_op opP_mod (pp_callTy crP_int T.b_int boot_int (ppa_cons (pp_op opP_add (pp_op opP_add (pp_op opP_mul (pp_v 4) (pp_v 4)) (pp_op opP_mul (pp_v 2) pp_int)) (pp_v 3)) ppa_nil)) pp_int))
  (ppb_one (pps_ret (pp_op opP_mod (pp_op opP_div (pp_op opP_mod (pp_callTy crP_int T.b_int boot_int (ppa_cons (pp_op opP_add (pp_op opP_mul (pp_v 4) pp_int) (pp_op opP_mul (pp_v 2) pp_int)) ppa_nil)) pp_int) pp_int) (pp_v 1))))))))))
theorem ok__law_pick {f : Addr} {fd : FuncData} {ql : Str} (T : Top mg K) (f__law_draw : FnM P w K mg base CX0 1 "_law_draw" s__law_draw ["stock", "size"] m__law_draw) (Fu : L2.Fun K "_law_pick" ql s__law_pick f fd) (hm : mg "_law_pick" = some (.ref f)) :
    FnM P w K mg base CX0 2 "_law_pick" s__law_pick ["stock", "row"] m__law_pick :=
  fn_pure Fu hm sc__law_pick rfl fun cdv A outer s H E hr hg =>
  (ppb_one (pps_ret (pp_ix (pp_v 1) (pp_call f__law_draw bd__law_draw hr (by decide) hg pass0 (ppa_cons (pp_v 0) (ppa_cons (pp_callB crP_len T.b_len boot_len (ppa_cons (pp_v 1) ppa_nil)) ppa_nil))))))
theorem ok__law_loose {f : Addr} {fd : FuncData} {ql : Str} (T : Top mg K) (f__law_draw : FnM P w K mg base CX0 1 "_law_draw" s__law_draw ["stock", "size"] m__law_draw) (f__law_pick : FnM P w K mg base CX0 2 "_law_pick" s__law_pick ["stock", "row"] m__law_pick) (Fu : L2.Fun K "_law_loose" ql s__law_loose f fd) (hm : mg "_law_loose" = some (.ref f)) :
    FnM P w K mg base CX0 3 "_law_loose" s__law_loose ["stock", "parts", "most", "wide"] m__law_loose :=
  fn_pure Fu hm sc__law_loose rfl fun cdv A outer s H E hr hg =>
  (ppb_cons (pps_set 4 sc__law_loose.nd (pp_lst ppa_nil))
  (ppb_cons (pps_for PassesOwn.never rfl (ppi_rng1 T.b_range (pp_call f__law_draw bd__law_draw hr (by decide) hg pass0 (ppa_cons (pp_v 0) (ppa_cons (pp_op opP_add (pp_v 1) pp_int) ppa_nil)))) (ppg_n 5 sc__law_loose.nd)
   (ppb_cons (pps_par 7 8 rfl sc__law_loose.nd (by decide) (pp_call f__law_draw bd__law_draw hr (by decide) hg pass0 (ppa_cons (pp_v 0) (ppa_cons pp_int ppa_nil))) (pp_call f__law_draw bd__law_draw hr (by decide) hg pass0 (ppa_cons (pp_v 0) (ppa_cons (pp_op opP_add (pp_callB (crP_min rfl) T.b_min boot_min (ppa_cons (pp_v 2) (ppa_cons pp_int ppa_nil))) pp_int) ppa_nil))))
   (ppb_cons (pps_set 6 sc__law_loose.nd (pp_call f__law_pick bd__law_pick hr (by decide) hg pass0 (ppa_cons (pp_v 0) (ppa_cons (pp_lst (ppa_cons (pp_v 8) (ppa_cons (pp_v 8) (ppa_cons (pp_op opP_sub (pp_v 2) (pp_v 8)) (ppa_cons (pp_op opP_div (pp_v 2) (pp_op opP_add pp_int (pp_v 8))) ppa_nil))))) ppa_nil))))
   (ppb_one (pps_if (ppt_cmp (cmpP_eq (hu64 hr)) (pp_v 7) pp_int)
    (ppb_one (pps_exp (pp_append (pp_v 4) (ppa_cons (pp_tup (ppa_cons pp_str (ppa_cons (pp_v 6) ppa_nil))) ppa_nil))))
    (ppb_one (pps_if (ppt_cmp (cmpP_eq (hu64 hr)) (pp_v 7) pp_int)
     (ppb_one (pps_exp (pp_append (pp_v 4) (ppa_cons (pp_tup (ppa_cons pp_str ppa_nil)) ppa_nil))))
     (ppb_one (pps_exp (pp_append (pp_v 4) (ppa_cons (pp_tup (ppa_cons (pp_ix (pp_lst (ppa_cons pp_str (ppa_cons pp_str ppa_nil))) (pp_op opP_mod (pp_v 7) pp_int)) (ppa_cons (pp_v 6) (ppa_cons (pp_op opP_add (pp_v 6) (pp_call f__law_draw bd__law_draw hr (by decide) hg pass0 (ppa_cons (pp_v 0) (ppa_cons (pp_op opP_add (pp_v 3) pp_int) ppa_nil)))) ppa_nil)))) ppa_nil)))))))))))
  (ppb_one (pps_ret (pp_callTy crP_tuple T.b_tuple boot_tuple (ppa_cons (pp_v 4) ppa_nil))))))
theorem ok__law_is_whole {f : Addr} {fd : FuncData} {ql : Str} (T : Top mg K)  (Fu : L2.Fun K "_law_is_whole" ql s__law_is_whole f fd) (hm : mg "_law_is_whole" = some (.ref f)) :
    FnM P w K mg base CX0 1 "_law_is_whole" s__law_is_whole ["value", "least", "most"] m__law_is_whole :=
  fn_pure Fu hm sc__law_is_whole rfl fun cdv A outer s H E hr hg =>
  (ppb_one (pps_ret (pp_and (pp_isi (t := .int) (pp_v 0) T.b_isinstance T.b_int boot_isinstance boot_int) (pp_and (pp_not (pp_isi (t := .bool) (pp_v 0) T.b_isinstance T.b_bool boot_isinstance boot_bool)) (pp_one (pp_chain cmpP_le cmpP_le (pp_v 1) (pp_v 0) (pp_v 2)))))))
theorem ok__law_is_part {f : Addr} {fd : FuncData} {ql : Str} (T : Top mg K) (f__law_is_whole : FnM P w K mg base CX0 1 "_law_is_whole" s__law_is_whole ["value", "least", "most"] m__law_is_whole) (Fu : L2.Fun K "_law_is_part" ql s__law_is_part f fd) (hm : mg "_law_is_part" = some (.ref f)) :
    FnM P w K mg base CX0 2 "_law_is_part" s__law_is_part ["value"] m__law_is_part :=
  fn_pure Fu hm sc__law_is_part rfl fun cdv A outer s H E hr hg =>
  (ppb_cons (pps_if (PPW.t (ppw_or (ppt_not (PP.t (pp_isi (t := .tuple) (pp_v 0) T.b_isinstance T.b_tuple boot_isinstance boot_tuple))) (ppw_or (ppt_cmp (cmpP_eqX (hu64 hr)) (pp_v 0) (pp_tup ppa_nil)) (ppw_or1 (ppt_not (PP.t (pp_isi (t := .str) (pp_ix (pp_v 0) pp_int) T.b_isinstance T.b_str boot_isinstance boot_str)))))))
   (ppb_one (pps_ret pp_bl))
   ppb_nil)
  (ppb_cons (pps_if (ppt_cmp (cmpP_eqX (hu64 hr)) (pp_ix (pp_v 0) pp_int) pp_str)
   (ppb_one (pps_ret (pp_cmp (cmpP_eq (hu64 hr)) (pp_callB crP_len T.b_len boot_len (ppa_cons (pp_v 0) ppa_nil)) pp_int)))
   ppb_nil)
  (ppb_cons (pps_if (ppt_cmp (cmpP_eqX (hu64 hr)) (pp_ix (pp_v 0) pp_int) pp_str)
   (ppb_one (pps_ret (pp_and (pp_cmp (cmpP_eq (hu64 hr)) (pp_callB crP_len T.b_len boot_len (ppa_cons (pp_v 0) ppa_nil)) pp_int) (pp_one (pp_call f__law_is_whole bd__law_is_whole hr (by decide) hg pass0 (ppa_cons (pp_ix (pp_v 0) pp_int) (ppa_cons pp_int (ppa_cons (pp_op opP_pow pp_int pp_int) ppa_nil))))))))
   ppb_nil)
  (ppb_cons (pps_if (PPW.t (ppw_or (ppt_cmp (cmpP_notIn (hu65 hr)) (pp_ix (pp_v 0) pp_int) (pp_tup (ppa_cons pp_str (ppa_cons pp_str ppa_nil)))) (ppw_or1 (ppt_cmp (cmpP_ne (hu64 hr)) (pp_callB crP_len T.b_len boot_len (ppa_cons (pp_v 0) ppa_nil)) pp_int))))
   (ppb_one (pps_ret pp_bl))
   ppb_nil)
  (ppb_one (pps_ret (pp_and (pp_call f__law_is_whole bd__law_is_whole hr (by decide) hg pass0 (ppa_cons (pp_ix (pp_v 0) pp_int) (ppa_cons pp_int (ppa_cons (pp_op opP_pow pp_int pp_int) ppa_nil)))) (pp_one (pp_call f__law_is_whole bd__law_is_whole hr (by decide) hg pass0 (ppa_cons (pp_ix (pp_v 0) pp_int) (ppa_cons (pp_ix (pp_v 0) pp_int) (ppa_cons (pp_op opP_pow pp_int pp_int) ppa_nil))))))))))))
theorem ok__law_due {f : Addr} {fd : FuncData} {ql : Str} (T : Top mg K) (f__law_is_part : FnM P w K mg base CX0 2 "_law_is_part" s__law_is_part ["value"] m__law_is_part) (Fu : L2.Fun K "_law_due" ql s__law_due f fd) (hm : mg "_law_due" = some (.ref f)) :
    FnM P w K mg base CX0 3 "_law_due" s__law_due ["value"] m__law_due :=
  fn_pure Fu hm sc__law_due rfl fun cdv A outer s H E hr hg =>
  (ppb_cons (pps_if (PPW.t (ppw_or (ppt_not (PP.t (pp_isi (t := .tuple) (pp_v 0) T.b_isinstance T.b_tuple boot_isinstance boot_tuple))) (ppw_or1 (ppt_cmp cmpP_gt (pp_callB crP_len T.b_len boot_len (ppa_cons (pp_v 0) ppa_nil)) pp_int))))
   (ppb_one (pps_ret pp_str))
   ppb_nil)
  (ppb_cons (pps_for PassesOwn.never rfl (ppi_enum T.b_enumerate (pp_v 0)) (ppg_tup (n := 2) rfl (ppgs_cons (ppg_n 1 sc__law_due.nd) (ppgs_cons (ppg_n 2 sc__law_due.nd) ppgs_nil)))
   (ppb_one (pps_if (ppt_not (PP.t (pp_call f__law_is_part bd__law_is_part hr (by decide) hg pass0 (ppa_cons (pp_v 2) ppa_nil))))
    (ppb_one (pps_ret (pp_tup (ppa_cons pp_str (ppa_cons (pp_v 1) ppa_nil)))))
    ppb_nil)))
  (ppb_one (pps_ret pp_non))))
theorem ok__law_odd {f : Addr} {fd : FuncData} {ql : Str} (T : Top mg K) (f__law_draw : FnM P w K mg base CX0 1 "_law_draw" s__law_draw ["stock", "size"] m__law_draw) (f__law_pick : FnM P w K mg base CX0 2 "_law_pick" s__law_pick ["stock", "row"] m__law_pick) (Fu : L2.Fun K "_law_odd" ql s__law_odd f fd) (hm : mg "_law_odd" = some (.ref f)) :
    FnM P w K mg base CX0 3 "_law_odd" s__law_odd ["stock"] m__law_odd :=
  fn_pure Fu hm sc__law_odd rfl fun cdv A outer s H E hr hg =>
  (ppb_cons (pps_par 3 4 rfl sc__law_odd.nd (by decide) (pp_call f__law_draw bd__law_draw hr (by decide) hg pass0 (ppa_cons (pp_v 0) (ppa_cons pp_int ppa_nil))) (pp_op opP_pow pp_int pp_int))
  (ppb_cons (pps_set 1 sc__law_odd.nd (pp_call f__law_pick bd__law_pick hr (by decide) hg pass0 (ppa_cons (pp_v 0) (ppa_cons (pp_lst (ppa_cons pp_str (ppa_cons pp_str ppa_nil))) ppa_nil))))
  (ppb_cons (pps_set 2 sc__law_odd.nd (pp_lst (ppa_cons (pp_tup (ppa_cons (pp_v 1) (ppa_cons (pp_op opP_add (pp_v 3) pp_int) (ppa_cons (pp_v 3) ppa_nil)))) (ppa_cons (pp_tup (ppa_cons (pp_v 1) (ppa_cons (pp_v 3) ppa_nil))) (ppa_cons (pp_tup (ppa_cons (pp_v 1) ppa_nil)) (ppa_cons (pp_tup (ppa_cons (pp_v 1) (ppa_cons (pp_v 3) (ppa_cons (pp_v 4) ppa_nil)))) (ppa_cons (pp_tup (ppa_cons (pp_v 1) (ppa_cons (pp_v 3) (ppa_cons (pp_op opP_add (pp_v 4) pp_int) ppa_nil)))) (ppa_cons (pp_tup (ppa_cons (pp_v 1) (ppa_cons (pp_v 4) (ppa_cons (pp_v 4) ppa_nil)))) ppa_nil))))))))
  (ppb_cons (pps_set 2 sc__law_odd.nd (pp_op opP_add (pp_v 2) (pp_lst (ppa_cons (pp_tup (ppa_cons (pp_v 1) (ppa_cons (pp_un unP_neg pp_int) (ppa_cons (pp_v 3) ppa_nil)))) (ppa_cons (pp_tup (ppa_cons (pp_v 1) (ppa_cons pp_bl (ppa_cons pp_int ppa_nil)))) (ppa_cons (pp_tup (ppa_cons (pp_v 1) (ppa_cons pp_int (ppa_cons pp_bl ppa_nil)))) (ppa_cons (pp_tup (ppa_cons (pp_v 1) (ppa_cons pp_bl (ppa_cons (pp_v 3) ppa_nil)))) (ppa_cons (pp_tup (ppa_cons (pp_v 1) (ppa_cons pp_non (ppa_cons (pp_v 3) ppa_nil)))) ppa_nil))))))))
  (ppb_cons (pps_set 2 sc__law_odd.nd (pp_op opP_add (pp_v 2) (pp_lst (ppa_cons (pp_lst (ppa_cons (pp_v 1) (ppa_cons (pp_v 3) (ppa_cons (pp_v 3) ppa_nil)))) (ppa_cons (pp_tup (ppa_cons (pp_v 1) (ppa_cons (pp_v 3) (ppa_cons (pp_v 3) (ppa_cons (pp_v 3) ppa_nil))))) (ppa_cons (pp_tup (ppa_cons (pp_v 1) (ppa_cons (pp_tup (ppa_cons (pp_v 3) (ppa_cons (pp_v 3) ppa_nil))) ppa_nil))) (ppa_cons (pp_tup (ppa_cons pp_str (ppa_cons (pp_v 3) (ppa_cons (pp_v 3) ppa_nil)))) (ppa_cons (pp_tup (ppa_cons pp_str ppa_nil)) ppa_nil))))))))
  (ppb_cons (pps_set 2 sc__law_odd.nd (pp_op opP_add (pp_v 2) (pp_lst (ppa_cons (pp_tup (ppa_cons pp_str (ppa_cons (pp_un unP_neg pp_int) ppa_nil))) (ppa_cons (pp_tup (ppa_cons pp_str (ppa_cons (pp_v 4) ppa_nil))) (ppa_cons (pp_tup (ppa_cons pp_str (ppa_cons (pp_op opP_add (pp_v 4) pp_int) ppa_nil))) (ppa_cons (pp_tup (ppa_cons pp_str (ppa_cons pp_bl ppa_nil))) (ppa_cons (pp_tup (ppa_cons pp_str (ppa_cons pp_int ppa_nil))) (ppa_cons (pp_tup (ppa_cons pp_str ppa_nil)) (ppa_cons pp_str ppa_nil))))))))))
  (ppb_cons (pps_set 2 sc__law_odd.nd (pp_op opP_add (pp_v 2) (pp_lst (ppa_cons (pp_lst (ppa_cons pp_str ppa_nil)) (ppa_cons (pp_tup (ppa_cons pp_str (ppa_cons pp_int (ppa_cons pp_int ppa_nil)))) (ppa_cons (pp_tup (ppa_cons pp_non (ppa_cons pp_int (ppa_cons pp_int ppa_nil)))) (ppa_cons (pp_tup (ppa_cons (pp_tup (ppa_cons pp_str ppa_nil)) (ppa_cons pp_int (ppa_cons pp_int ppa_nil)))) (ppa_cons (pp_tup ppa_nil) (ppa_cons pp_non (ppa_cons pp_int (ppa_cons pp_dnew (ppa_cons (pp_tup (ppa_cons (pp_v 1) (ppa_cons (pp_v 3) (ppa_cons (pp_op opP_add (pp_v 3) pp_int) ppa_nil)))) ppa_nil))))))))))))
  (ppb_cons (pps_set 2 sc__law_odd.nd (pp_op opP_add (pp_v 2) (pp_lst (ppa_cons (pp_tup (ppa_cons pp_str (ppa_cons pp_int (ppa_cons pp_int ppa_nil)))) (ppa_cons (pp_tup (ppa_cons pp_int (ppa_cons (pp_v 1) (ppa_cons pp_int ppa_nil)))) (ppa_cons (pp_tup (ppa_cons (pp_v 1) (ppa_cons (pp_op opP_mul (pp_v 4) (pp_v 4)) (ppa_cons (pp_op opP_mul (pp_op opP_mul (pp_v 4) (pp_v 4)) (pp_v 4)) ppa_nil)))) (ppa_cons (pp_tup (ppa_cons (pp_v 1) (ppa_cons (pp_v 3) (ppa_cons (pp_op opP_mul (pp_op opP_mul (pp_v 4) (pp_v 4)) (pp_v 4)) ppa_nil)))) ppa_nil)))))))
  (ppb_cons (pps_set 2 sc__law_odd.nd (pp_op opP_add (pp_v 2) (pp_lst (ppa_cons (pp_tup (ppa_cons (pp_lst (ppa_cons (pp_v 1) ppa_nil)) (ppa_cons (pp_v 3) (ppa_cons (pp_v 3) ppa_nil)))) (ppa_cons (pp_tup (ppa_cons pp_dnew (ppa_cons pp_int (ppa_cons pp_int ppa_nil)))) (ppa_cons (pp_tup (ppa_cons (pp_lst ppa_nil) ppa_nil)) (ppa_cons (pp_tup (ppa_cons (pp_v 1) (ppa_cons (pp_v 3) (ppa_cons pp_non ppa_nil)))) (ppa_cons (pp_tup (ppa_cons (pp_v 1) (ppa_cons (pp_v 3) (ppa_cons pp_str ppa_nil)))) (ppa_cons (pp_tup (ppa_cons pp_str (ppa_cons pp_non ppa_nil))) ppa_nil)))))))))
  (ppb_one (pps_ret (pp_call f__law_pick bd__law_pick hr (by decide) hg pass0 (ppa_cons (pp_v 0) (ppa_cons (pp_op opP_add (pp_v 2) (pp_lst (ppa_cons (pp_tup (ppa_cons pp_str (ppa_cons (pp_tup (ppa_cons pp_int ppa_nil)) ppa_nil))) ppa_nil))) ppa_nil))))))))))))))
theorem ok_law {f : Addr} {fd : FuncData} {ql : Str} (T : Top mg K) (f__law_stock : FnM P w K mg base CX0 1 "_law_stock" s__law_stock ["script"] m__law_stock) (f__law_pick : FnM P w K mg base CX0 2 "_law_pick" s__law_pick ["stock", "row"] m__law_pick) (f__law_loose : FnM P w K mg base CX0 3 "_law_loose" s__law_loose ["stock", "parts", "most", "wide"] m__law_loose) (f__law_draw : FnM P w K mg base CX0 1 "_law_draw" s__law_draw ["stock", "size"] m__law_draw) (f__law_odd : FnM P w K mg base CX0 3 "_law_odd" s__law_odd ["stock"] m__law_odd) (f__law_due : FnM P w K mg base CX0 3 "_law_due" s__law_due ["value"] m__law_due) (f_loose_error : FnM P w K mg base CX0 4 "loose_error" s_loose_error ["value"] m_loose_error) (Fu : L2.Fun K "law" ql s_law f fd) (hm : mg "law" = some (.ref f)) :
    FnM P w K mg base CX0 5 "law" s_law ["script"] m_law :=
  fn_pure Fu hm sc_law rfl fun cdv A outer s H E hr hg =>
  (ppb_cons (pps_set 1 sc_law.nd (pp_call f__law_stock bd__law_stock hr (by decide) hg pass0 (ppa_cons (pp_v 0) ppa_nil)))
  (ppb_cons (pps_for PassesOwn.never rfl (ppi_rng1 T.b_range pp_int) (ppg_n 2 sc_law.nd)
   (ppb_cons (pps_set 3 sc_law.nd (pp_call f__law_pick bd__law_pick hr (by decide) hg pass0 (ppa_cons (pp_v 1) (ppa_cons (pp_lst (ppa_cons pp_int (ppa_cons (pp_op opP_sub (pp_op opP_pow pp_int pp_int) pp_int) (ppa_cons (pp_op opP_pow pp_int pp_int) ppa_nil)))) ppa_nil))))
   (ppb_cons (pps_set 4 sc_law.nd (pp_call f__law_loose bd__law_loose hr (by decide) hg pass0 (ppa_cons (pp_v 1) (ppa_cons pp_int (ppa_cons (pp_v 3) (ppa_cons (pp_call f__law_pick bd__law_pick hr (by decide) hg pass0 (ppa_cons (pp_v 1) (ppa_cons (pp_lst (ppa_cons pp_int (ppa_cons pp_int (ppa_cons pp_int (ppa_cons pp_int ppa_nil))))) ppa_nil))) ppa_nil))))))
   (ppb_cons (pps_set 5 sc_law.nd (pp_op opP_mul (pp_op opP_add (pp_v 4) (pp_tup (ppa_cons (pp_tup (ppa_cons pp_str ppa_nil)) ppa_nil))) pp_int))
   (ppb_cons (pps_set 6 sc_law.nd (pp_lst (ppa_cons (pp_v 4) (ppa_cons (pp_callTy crP_list T.b_list boot_list (ppa_cons (pp_v 4) ppa_nil)) (ppa_cons (pp_sl (pp_v 5) ppo_none (ppo_some pp_int)) (ppa_cons (pp_sl (pp_v 5) ppo_none (ppo_some pp_int)) (ppa_cons (pp_tup ppa_nil) (ppa_cons pp_non (ppa_cons (pp_tup (ppa_cons (pp_v 4) ppa_nil)) (ppa_cons pp_dnew (ppa_cons pp_int (ppa_cons pp_str (ppa_cons pp_bl ppa_nil)))))))))))))
   (ppb_cons (pps_exp (pp_append (pp_v 6) (ppa_cons (pp_op opP_add (pp_v 4) (pp_tup (ppa_cons (pp_tup (ppa_cons pp_str (ppa_cons pp_int ppa_nil))) ppa_nil))) ppa_nil)))
   (ppb_cons (pps_for PassesOwn.never rfl (ppi_rng1 T.b_range pp_int) (ppg_n 7 sc_law.nd)
    (ppb_cons (pps_par 11 12 rfl sc_law.nd (by decide) (pp_call f__law_draw bd__law_draw hr (by decide) hg pass0 (ppa_cons (pp_v 1) (ppa_cons (pp_op opP_add (pp_callB crP_len T.b_len boot_len (ppa_cons (pp_v 4) ppa_nil)) pp_int) ppa_nil))) (pp_call f__law_draw bd__law_draw hr (by decide) hg pass0 (ppa_cons (pp_v 1) (ppa_cons (pp_op opP_add (pp_callB crP_len T.b_len boot_len (ppa_cons (pp_v 4) ppa_nil)) pp_int) ppa_nil))))
    (ppb_cons (pps_set 8 sc_law.nd (pp_op opP_add (pp_op opP_add (pp_sl (pp_v 4) ppo_none (ppo_some (pp_v 11))) (pp_tup (ppa_cons (pp_call f__law_odd bd__law_odd hr (by decide) hg pass0 (ppa_cons (pp_v 1) ppa_nil)) ppa_nil))) (pp_sl (pp_v 4) (ppo_some (pp_op opP_add (pp_v 11) (pp_call f__law_draw bd__law_draw hr (by decide) hg pass0 (ppa_cons (pp_v 1) (ppa_cons pp_int ppa_nil))))) ppo_none)))
    (ppb_cons (pps_exp (pp_append (pp_v 6) (ppa_cons (pp_v 8) ppa_nil)))
    (ppb_one (pps_exp (pp_append (pp_v 6) (ppa_cons (pp_op opP_add (pp_op opP_add (pp_sl (pp_v 8) ppo_none (ppo_some (pp_v 12))) (pp_tup (ppa_cons (pp_call f__law_odd bd__law_odd hr (by decide) hg pass0 (ppa_cons (pp_v 1) ppa_nil)) ppa_nil))) (pp_sl (pp_v 8) (ppo_some (pp_v 12)) ppo_none)) ppa_nil))))))))
   (ppb_cons (pps_set 6 sc_law.nd (pp_op opP_add (pp_v 6) (pp_lst (ppa_cons (pp_op opP_add (pp_sl (pp_v 5) ppo_none (ppo_some pp_int)) (pp_tup (ppa_cons (pp_call f__law_odd bd__law_odd hr (by decide) hg pass0 (ppa_cons (pp_v 1) ppa_nil)) ppa_nil))) (ppa_cons (pp_lst (ppa_cons (pp_call f__law_odd bd__law_odd hr (by decide) hg pass0 (ppa_cons (pp_v 1) ppa_nil)) ppa_nil)) ppa_nil)))))
   (ppb_cons (pps_exp (pp_append (pp_v 6) (ppa_cons (pp_op opP_add (pp_sl (pp_v 5) ppo_none (ppo_some pp_int)) (pp_tup (ppa_cons (pp_call f__law_odd bd__law_odd hr (by decide) hg pass0 (ppa_cons (pp_v 1) ppa_nil)) ppa_nil))) ppa_nil)))
   (ppb_one (pps_for PassesOwn.never rfl (ppi_enum T.b_enumerate (pp_v 6)) (ppg_tup (n := 2) rfl (ppgs_cons (ppg_n 7 sc_law.nd) (ppgs_cons (ppg_n 9 sc_law.nd) ppgs_nil)))
    (ppb_cons (pps_par 13 14 rfl sc_law.nd (by decide) (pp_callB (crP_reprE hg (hu65 hr)) T.b_repr boot_repr (ppa_cons (pp_v 9) ppa_nil)) (pp_callB (crP_reprE hg (hu65 hr)) T.b_repr boot_repr (ppa_cons (pp_call f__law_due bd__law_due hr (by decide) hg pass0 (ppa_cons (pp_v 9) ppa_nil)) ppa_nil)))
    (ppb_cons (pps_set 10 sc_law.nd (pp_ite (ppt_cmp (cmpP_eq (hu64 hr)) (pp_op opP_mod (pp_v 7) pp_int) pp_int) (pp_callK0 f_loose_error bk_loose_error_0_value hr (by decide) hg pass0 (ppk_cons (pp_v 9) ppk_nil) (fun l hl => match l, hl with | [_], _ => rfl)) (pp_call f_loose_error bd_loose_error hr (by decide) hg pass0 (ppa_cons (pp_v 9) ppa_nil))))
    (ppb_one (pps_if (PPW.t (ppw_or (ppt_cmp (cmpP_ne (hu64 hr)) (pp_callB (crP_reprE hg (hu65 hr)) T.b_repr boot_repr (ppa_cons (pp_v 10) ppa_nil)) (pp_v 14)) (ppw_or (ppt_cmp (cmpP_ne (hu64 hr)) (pp_callB (crP_reprE hg (hu65 hr)) T.b_repr boot_repr (ppa_cons (pp_call f_loose_error bd_loose_error hr (by decide) hg pass0 (ppa_cons (pp_v 9) ppa_nil)) ppa_nil)) (pp_v 14)) (ppw_or1 (ppt_cmp (cmpP_ne (hu64 hr)) (pp_callB (crP_reprE hg (hu65 hr)) T.b_repr boot_repr (ppa_cons (pp_v 9) ppa_nil)) (pp_v 13))))))
     (ppb_one (pps_ret pp_bl))
     ppb_nil)))))))))))))))
  (ppb_one (pps_ret (pp_cmp (cmpP_eq (hu64 hr)) (pp_call f_loose_error bd_loose_error hr (by decide) hg pass0 (ppa_cons (pp_tup (ppa_cons (pp_tup (ppa_cons pp_str (ppa_cons pp_bl (ppa_cons pp_int ppa_nil)))) ppa_nil)) ppa_nil)) (pp_tup (ppa_cons pp_str (ppa_cons pp_int ppa_nil))))))))
end
theorem all_mk {P : Program} {w : World} {K : PySem.W.Frag} {mg : Str → Option Value} {h base : Heap} (X : K.In h) (G : h.Ns mainGlobals mg)
    (z_all : PySem.W.nsIn K mainGlobals "all" = some none)
    (z_bool : PySem.W.nsIn K mainGlobals "bool" = some none)
    (z_enumerate : PySem.W.nsIn K mainGlobals "enumerate" = some none)
    (z_int : PySem.W.nsIn K mainGlobals "int" = some none)
    (z_isinstance : PySem.W.nsIn K mainGlobals "isinstance" = some none)
    (z_len : PySem.W.nsIn K mainGlobals "len" = some none)
    (z_list : PySem.W.nsIn K mainGlobals "list" = some none)
    (z_min : PySem.W.nsIn K mainGlobals "min" = some none)
    (z_range : PySem.W.nsIn K mainGlobals "range" = some none)
    (z_repr : PySem.W.nsIn K mainGlobals "repr" = some none)
    (z_str : PySem.W.nsIn K mainGlobals "str" = some none)
    (z_sum : PySem.W.nsIn K mainGlobals "sum" = some none)
    (z_tuple : PySem.W.nsIn K mainGlobals "tuple" = some none)
    {t_MAX_PARTS : Tok} (y_MAX_PARTS : PySem.W.nsIn K mainGlobals "MAX_PARTS" = some (some (.int 40 t_MAX_PARTS)))
    {t_MAX_TICKS : Tok} (y_MAX_TICKS : PySem.W.nsIn K mainGlobals "MAX_TICKS" = some (some (.int 1000000000000000000000000000000 t_MAX_TICKS)))
    {f_is_integer : Addr} {oc_is_integer kV_is_integer dc_is_integer pm_is_integer cd_is_integer ct_is_integer : Value} {od_is_integer an_is_integer : Option Addr} {sl_is_integer : Array (Option Value)}
    (a_is_integer : PySem.W.nsIn K mainGlobals "is_integer" = some (some (.ref f_is_integer)))
    (l_is_integer : K.lookup f_is_integer = some ⟨oc_is_integer, od_is_integer, .func (PySem.W.fnOf "is_integer" "is_integer" (defArgs s_is_integer) (defBody s_is_integer) (defScope s_is_integer) .none kV_is_integer dc_is_integer pm_is_integer an_is_integer cd_is_integer ct_is_integer), sl_is_integer⟩)
    (c_is_integer : PySem.W.codeIn K cd_is_integer "is_integer" = true) (k_is_integer : PySem.W.keepIn K (.ref f_is_integer) = true)
    {f_are_ticks : Addr} {oc_are_ticks kV_are_ticks dc_are_ticks pm_are_ticks cd_are_ticks ct_are_ticks : Value} {od_are_ticks an_are_ticks : Option Addr} {sl_are_ticks : Array (Option Value)}
    (a_are_ticks : PySem.W.nsIn K mainGlobals "are_ticks" = some (some (.ref f_are_ticks)))
    (l_are_ticks : K.lookup f_are_ticks = some ⟨oc_are_ticks, od_are_ticks, .func (PySem.W.fnOf "are_ticks" "are_ticks" (defArgs s_are_ticks) (defBody s_are_ticks) (defScope s_are_ticks) .none kV_are_ticks dc_are_ticks pm_are_ticks an_are_ticks cd_are_ticks ct_are_ticks), sl_are_ticks⟩)
    (c_are_ticks : PySem.W.codeIn K cd_are_ticks "are_ticks" = true) (k_are_ticks : PySem.W.keepIn K (.ref f_are_ticks) = true)
    {f_is_timer : Addr} {oc_is_timer kV_is_timer dc_is_timer pm_is_timer cd_is_timer ct_is_timer : Value} {od_is_timer an_is_timer : Option Addr} {sl_is_timer : Array (Option Value)}
    (a_is_timer : PySem.W.nsIn K mainGlobals "is_timer" = some (some (.ref f_is_timer)))
    (l_is_timer : K.lookup f_is_timer = some ⟨oc_is_timer, od_is_timer, .func (PySem.W.fnOf "is_timer" "is_timer" (defArgs s_is_timer) (defBody s_is_timer) (defScope s_is_timer) .none kV_is_timer dc_is_timer pm_is_timer an_is_timer cd_is_timer ct_is_timer), sl_is_timer⟩)
    (c_is_timer : PySem.W.codeIn K cd_is_timer "is_timer" = true) (k_is_timer : PySem.W.keepIn K (.ref f_is_timer) = true)
    {f_is_loose_part : Addr} {oc_is_loose_part kV_is_loose_part dc_is_loose_part pm_is_loose_part cd_is_loose_part ct_is_loose_part : Value} {od_is_loose_part an_is_loose_part : Option Addr} {sl_is_loose_part : Array (Option Value)}
    (a_is_loose_part : PySem.W.nsIn K mainGlobals "is_loose_part" = some (some (.ref f_is_loose_part)))
    (l_is_loose_part : K.lookup f_is_loose_part = some ⟨oc_is_loose_part, od_is_loose_part, .func (PySem.W.fnOf "is_loose_part" "is_loose_part" (defArgs s_is_loose_part) (defBody s_is_loose_part) (defScope s_is_loose_part) .none kV_is_loose_part dc_is_loose_part pm_is_loose_part an_is_loose_part cd_is_loose_part ct_is_loose_part), sl_is_loose_part⟩)
    (c_is_loose_part : PySem.W.codeIn K cd_is_loose_part "is_loose_part" = true) (k_is_loose_part : PySem.W.keepIn K (.ref f_is_loose_part) = true)
    {f_loose_error : Addr} {oc_loose_error kV_loose_error dc_loose_error pm_loose_error cd_loose_error ct_loose_error : Value} {od_loose_error an_loose_error : Option Addr} {sl_loose_error : Array (Option Value)}
    (a_loose_error : PySem.W.nsIn K mainGlobals "loose_error" = some (some (.ref f_loose_error)))
    (l_loose_error : K.lookup f_loose_error = some ⟨oc_loose_error, od_loose_error, .func (PySem.W.fnOf "loose_error" "loose_error" (defArgs s_loose_error) (defBody s_loose_error) (defScope s_loose_error) .none kV_loose_error dc_loose_error pm_loose_error an_loose_error cd_loose_error ct_loose_error), sl_loose_error⟩)
    (c_loose_error : PySem.W.codeIn K cd_loose_error "loose_error" = true) (k_loose_error : PySem.W.keepIn K (.ref f_loose_error) = true)
    {f__law_stock : Addr} {oc__law_stock kV__law_stock dc__law_stock pm__law_stock cd__law_stock ct__law_stock : Value} {od__law_stock an__law_stock : Option Addr} {sl__law_stock : Array (Option Value)}
    (a__law_stock : PySem.W.nsIn K mainGlobals "_law_stock" = some (some (.ref f__law_stock)))
    (l__law_stock : K.lookup f__law_stock = some ⟨oc__law_stock, od__law_stock, .func (PySem.W.fnOf "_law_stock" "_law_stock" (defArgs s__law_stock) (defBody s__law_stock) (defScope s__law_stock) .none kV__law_stock dc__law_stock pm__law_stock an__law_stock cd__law_stock ct__law_stock), sl__law_stock⟩)
    (c__law_stock : PySem.W.codeIn K cd__law_stock "_law_stock" = true) (k__law_stock : PySem.W.keepIn K (.ref f__law_stock) = true)
    {f__law_draw : Addr} {oc__law_draw kV__law_draw dc__law_draw pm__law_draw cd__law_draw ct__law_draw : Value} {od__law_draw an__law_draw : Option Addr} {sl__law_draw : Array (Option Value)}
    (a__law_draw : PySem.W.nsIn K mainGlobals "_law_draw" = some (some (.ref f__law_draw)))
    (l__law_draw : K.lookup f__law_draw = some ⟨oc__law_draw, od__law_draw, .func (PySem.W.fnOf "_law_draw" "_law_draw" (defArgs s__law_draw) (defBody s__law_draw) (defScope s__law_draw) .none kV__law_draw dc__law_draw pm__law_draw an__law_draw cd__law_draw ct__law_draw), sl__law_draw⟩)
    (c__law_draw : PySem.W.codeIn K cd__law_draw "_law_draw" = true) (k__law_draw : PySem.W.keepIn K (.ref f__law_draw) = true)
    {f__law_pick : Addr} {oc__law_pick kV__law_pick dc__law_pick pm__law_pick cd__law_pick ct__law_pick : Value} {od__law_pick an__law_pick : Option Addr} {sl__law_pick : Array (Option Value)}
    (a__law_pick : PySem.W.nsIn K mainGlobals "_law_pick" = some (some (.ref f__law_pick)))
    (l__law_pick : K.lookup f__law_pick = some ⟨oc__law_pick, od__law_pick, .func (PySem.W.fnOf "_law_pick" "_law_pick" (defArgs s__law_pick) (defBody s__law_pick) (defScope s__law_pick) .none kV__law_pick dc__law_pick pm__law_pick an__law_pick cd__law_pick ct__law_pick), sl__law_pick⟩)
    (c__law_pick : PySem.W.codeIn K cd__law_pick "_law_pick" = true) (k__law_pick : PySem.W.keepIn K (.ref f__law_pick) = true)
    {f__law_loose : Addr} {oc__law_loose kV__law_loose dc__law_loose pm__law_loose cd__law_loose ct__law_loose : Value} {od__law_loose an__law_loose : Option Addr} {sl__law_loose : Array (Option Value)}
    (a__law_loose : PySem.W.nsIn K mainGlobals "_law_loose" = some (some (.ref f__law_loose)))
    (l__law_loose : K.lookup f__law_loose = some ⟨oc__law_loose, od__law_loose, .func (PySem.W.fnOf "_law_loose" "_law_loose" (defArgs s__law_loose) (defBody s__law_loose) (defScope s__law_loose) .none kV__law_loose dc__law_loose pm__law_loose an__law_loose cd__law_loose ct__law_loose), sl__law_loose⟩)
    (c__law_loose : PySem.W.codeIn K cd__law_loose "_law_loose" = true) (k__law_loose : PySem.W.keepIn K (.ref f__law_loose) = true)
    {f__law_is_whole : Addr} {oc__law_is_whole kV__law_is_whole dc__law_is_whole pm__law_is_whole cd__law_is_whole ct__law_is_whole : Value} {od__law_is_whole an__law_is_whole : Option Addr} {sl__law_is_whole : Array (Option Value)}
    (a__law_is_whole : PySem.W.nsIn K mainGlobals "_law_is_whole" = some (some (.ref f__law_is_whole)))
    (l__law_is_whole : K.lookup f__law_is_whole = some ⟨oc__law_is_whole, od__law_is_whole, .func (PySem.W.fnOf "_law_is_whole" "_law_is_whole" (defArgs s__law_is_whole) (defBody s__law_is_whole) (defScope s__law_is_whole) .none kV__law_is_whole dc__law_is_whole pm__law_is_whole an__law_is_whole cd__law_is_whole ct__law_is_whole), sl__law_is_whole⟩)
    (c__law_is_whole : PySem.W.codeIn K cd__law_is_whole "_law_is_whole" = true) (k__law_is_whole : PySem.W.keepIn K (.ref f__law_is_whole) = true)
    {f__law_is_part : Addr} {oc__law_is_part kV__law_is_part dc__law_is_part pm__law_is_part cd__law_is_part ct__law_is_part : Value} {od__law_is_part an__law_is_part : Option Addr} {sl__law_is_part : Array (Option Value)}
    (a__law_is_part : PySem.W.nsIn K mainGlobals "_law_is_part" = some (some (.ref f__law_is_part)))
    (l__law_is_part : K.lookup f__law_is_part = some ⟨oc__law_is_part, od__law_is_part, .func (PySem.W.fnOf "_law_is_part" "_law_is_part" (defArgs s__law_is_part) (defBody s__law_is_part) (defScope s__law_is_part) .none kV__law_is_part dc__law_is_part pm__law_is_part an__law_is_part cd__law_is_part ct__law_is_part), sl__law_is_part⟩)
    (c__law_is_part : PySem.W.codeIn K cd__law_is_part "_law_is_part" = true) (k__law_is_part : PySem.W.keepIn K (.ref f__law_is_part) = true)
    {f__law_due : Addr} {oc__law_due kV__law_due dc__law_due pm__law_due cd__law_due ct__law_due : Value} {od__law_due an__law_due : Option Addr} {sl__law_due : Array (Option Value)}
    (a__law_due : PySem.W.nsIn K mainGlobals "_law_due" = some (some (.ref f__law_due)))
    (l__law_due : K.lookup f__law_due = some ⟨oc__law_due, od__law_due, .func (PySem.W.fnOf "_law_due" "_law_due" (defArgs s__law_due) (defBody s__law_due) (defScope s__law_due) .none kV__law_due dc__law_due pm__law_due an__law_due cd__law_due ct__law_due), sl__law_due⟩)
    (c__law_due : PySem.W.codeIn K cd__law_due "_law_due" = true) (k__law_due : PySem.W.keepIn K (.ref f__law_due) = true)
    {f__law_odd : Addr} {oc__law_odd kV__law_odd dc__law_odd pm__law_odd cd__law_odd ct__law_odd : Value} {od__law_odd an__law_odd : Option Addr} {sl__law_odd : Array (Option Value)}
    (a__law_odd : PySem.W.nsIn K mainGlobals "_law_odd" = some (some (.ref f__law_odd)))
    (l__law_odd : K.lookup f__law_odd = some ⟨oc__law_odd, od__law_odd, .func (PySem.W.fnOf "_law_odd" "_law_odd" (defArgs s__law_odd) (defBody s__law_odd) (defScope s__law_odd) .none kV__law_odd dc__law_odd pm__law_odd an__law_odd cd__law_odd ct__law_odd), sl__law_odd⟩)
    (c__law_odd : PySem.W.codeIn K cd__law_odd "_law_odd" = true) (k__law_odd : PySem.W.keepIn K (.ref f__law_odd) = true)
    {f_law : Addr} {oc_law kV_law dc_law pm_law cd_law ct_law : Value} {od_law an_law : Option Addr} {sl_law : Array (Option Value)}
    (a_law : PySem.W.nsIn K mainGlobals "law" = some (some (.ref f_law)))
    (l_law : K.lookup f_law = some ⟨oc_law, od_law, .func (PySem.W.fnOf "law" "law" (defArgs s_law) (defBody s_law) (defScope s_law) .none kV_law dc_law pm_law an_law cd_law ct_law), sl_law⟩)
    (c_law : PySem.W.codeIn K cd_law "law" = true) (k_law : PySem.W.keepIn K (.ref f_law) = true) :
    FnM P w K mg base CX0 5 "law" s_law ["script"] m_law := by
  have T : Top mg K := ⟨PySem.W.mg_none_of X G z_all, PySem.W.mg_none_of X G z_bool, PySem.W.mg_none_of X G z_enumerate, PySem.W.mg_none_of X G z_int, PySem.W.mg_none_of X G z_isinstance, PySem.W.mg_none_of X G z_len, PySem.W.mg_none_of X G z_list, PySem.W.mg_none_of X G z_min, PySem.W.mg_none_of X G z_range, PySem.W.mg_none_of X G z_repr, PySem.W.mg_none_of X G z_str, PySem.W.mg_none_of X G z_sum, PySem.W.mg_none_of X G z_tuple, ⟨_, PySem.W.mg_of X G y_MAX_PARTS⟩, ⟨_, PySem.W.mg_of X G y_MAX_TICKS⟩⟩
  have F_is_integer : FnM P w K mg base CX0 1 "is_integer" s_is_integer ["value"] m_is_integer := ok_is_integer T  (fun_mk (st := s_is_integer) l_is_integer c_is_integer k_is_integer) (PySem.W.mg_of X G a_is_integer)
  have F_are_ticks : FnM P w K mg base CX0 2 "are_ticks" s_are_ticks ["values"] m_are_ticks := ok_are_ticks T F_is_integer (fun_mk (st := s_are_ticks) l_are_ticks c_are_ticks k_are_ticks) (PySem.W.mg_of X G a_are_ticks)
  have F_is_timer : FnM P w K mg base CX0 1 "is_timer" s_is_timer ["part"] m_is_timer := ok_is_timer T  (fun_mk (st := s_is_timer) l_is_timer c_is_timer k_is_timer) (PySem.W.mg_of X G a_is_timer)
  have F_is_loose_part : FnM P w K mg base CX0 3 "is_loose_part" s_is_loose_part ["value"] m_is_loose_part := ok_is_loose_part T F_are_ticks F_is_timer (fun_mk (st := s_is_loose_part) l_is_loose_part c_is_loose_part k_is_loose_part) (PySem.W.mg_of X G a_is_loose_part)
  have F_loose_error : FnM P w K mg base CX0 4 "loose_error" s_loose_error ["value"] m_loose_error := ok_loose_error T F_is_loose_part (fun_mk (st := s_loose_error) l_loose_error c_loose_error k_loose_error) (PySem.W.mg_of X G a_loose_error)
  have F__law_stock : FnM P w K mg base CX0 1 "_law_stock" s__law_stock ["script"] m__law_stock := ok__law_stock T  (fun_mk (st := s__law_stock) l__law_stock c__law_stock k__law_stock) (PySem.W.mg_of X G a__law_stock)
  have F__law_draw : FnM P w K mg base CX0 1 "_law_draw" s__law_draw ["stock", "size"] m__law_draw := ok__law_draw T  (fun_mk (st := s__law_draw) l__law_draw c__law_draw k__law_draw) (PySem.W.mg_of X G a__law_draw)
  have F__law_pick : FnM P w K mg base CX0 2 "_law_pick" s__law_pick ["stock", "row"] m__law_pick := ok__law_pick T F__law_draw (fun_mk (st := s__law_pick) l__law_pick c__law_pick k__law_pick) (PySem.W.mg_of X G a__law_pick)
  have F__law_loose : FnM P w K mg base CX0 3 "_law_loose" s__law_loose ["stock", "parts", "most", "wide"] m__law_loose := ok__law_loose T F__law_draw F__law_pick (fun_mk (st := s__law_loose) l__law_loose c__law_loose k__law_loose) (PySem.W.mg_of X G a__law_loose)
  have F__law_is_whole : FnM P w K mg base CX0 1 "_law_is_whole" s__law_is_whole ["value", "least", "most"] m__law_is_whole := ok__law_is_whole T  (fun_mk (st := s__law_is_whole) l__law_is_whole c__law_is_whole k__law_is_whole) (PySem.W.mg_of X G a__law_is_whole)
  have F__law_is_part : FnM P w K mg base CX0 2 "_law_is_part" s__law_is_part ["value"] m__law_is_part := ok__law_is_part T F__law_is_whole (fun_mk (st := s__law_is_part) l__law_is_part c__law_is_part k__law_is_part) (PySem.W.mg_of X G a__law_is_part)
  have F__law_due : FnM P w K mg base CX0 3 "_law_due" s__law_due ["value"] m__law_due := ok__law_due T F__law_is_part (fun_mk (st := s__law_due) l__law_due c__law_due k__law_due) (PySem.W.mg_of X G a__law_due)
  have F__law_odd : FnM P w K mg base CX0 3 "_law_odd" s__law_odd ["stock"] m__law_odd := ok__law_odd T F__law_draw F__law_pick (fun_mk (st := s__law_odd) l__law_odd c__law_odd k__law_odd) (PySem.W.mg_of X G a__law_odd)
  have F_law : FnM P w K mg base CX0 5 "law" s_law ["script"] m_law := ok_law T F__law_stock F__law_pick F__law_loose F__law_draw F__law_odd F__law_due F_loose_error (fun_mk (st := s_law) l_law c_law k_law) (PySem.W.mg_of X G a_law)
  exact F_law
end Law
end
section
set_option autoImplicit false
/-! Signals in plain Lean: bursts, runs of ons, grouping from the left. -/
namespace Law
open PySem PL
structure Bu where
  tick : Int
  on : Int
  off : Int
  times : Int
deriving DecidableEq
abbrev Run := Int × Int
def Bu.end (b : Bu) : Int := b.tick + b.times * b.on + (b.times - 1) * b.off
/-- n runs of length on, gaps g, the first at t -/
def train (t on g : Int) : Nat → List Run
  | 0 => []
  | n + 1 => (t, t + on) :: train (t + on + g) on g n
def Bu.runs (b : Bu) : List Run := train b.tick b.on b.off b.times.toNat
structure Bu.ok (b : Bu) : Prop where
  times : 1 ≤ b.times
  off : b.times = 1 → b.off = 0
def one (r : Run) : Bu := ⟨r.1, r.2 - r.1, 0, 1⟩
def takes (u : Bu) (tick on : Int) : Bool := decide (u.on = on) && (decide (u.times = 1) || decide (u.off = tick - u.end))
def add (f : List Bu) (r : Run) : List Bu := match f.getLast? with
  | none => f ++ [one r]
  | some u => if takes u r.1 (r.2 - r.1) then f.dropLast ++ [⟨u.tick, u.on, r.1 - u.end, u.times + 1⟩] else f ++ [one r]
def adds (f : List Bu) (rs : List Run) : List Bu := rs.foldl add f
def group (rs : List Run) : List Bu := adds [] rs
theorem adds_nil (f : List Bu) : adds f [] = f := rfl
theorem adds_cons (f : List Bu) (r : Run) (rs : List Run) : adds f (r :: rs) = adds (add f r) rs := rfl
theorem adds_app (f : List Bu) (a b : List Run) : adds f (a ++ b) = adds (adds f a) b := by unfold adds; rw [List.foldl_append]
theorem add_snoc (f : List Bu) (u : Bu) (r : Run) : add (f ++ [u]) r = if takes u r.1 (r.2 - r.1) then f ++ [⟨u.tick, u.on, r.1 - u.end, u.times + 1⟩] else f ++ [u] ++ [one r] := by
  unfold add
  rw [List.getLast?_append]
  simp
/-- a run of like gaps behind a burst that takes it -/
theorem adds_train (f : List Bu) (on g : Int) : ∀ (n : Nat) (t off k : Int), 1 ≤ k → (k = 1 ∨ off = g) →
    adds (f ++ [⟨t, on, off, k⟩]) (train ((⟨t, on, off, k⟩ : Bu).end + g) on g n) = f ++ [⟨t, on, if n = 0 then off else g, k + n⟩]
  | 0, t, off, k, _, _ => by simp [train, adds_nil]
  | n + 1, t, off, k, hk, h => by
    unfold train
    rw [adds_cons, add_snoc]
    have ht : takes ⟨t, on, off, k⟩ ((⟨t, on, off, k⟩ : Bu).end + g) ((⟨t, on, off, k⟩ : Bu).end + g + on - ((⟨t, on, off, k⟩ : Bu).end + g)) = true := by
      unfold takes
      rcases h with h | h
      · simp [h]; omega
      · simp [h]; omega
    rw [if_pos ht]
    have e1 : (⟨t, on, off, k⟩ : Bu).end + g - (⟨t, on, off, k⟩ : Bu).end = g := by omega
    simp only [e1]
    have e2 : (⟨t, on, off, k⟩ : Bu).end + g + on + g = (⟨t, on, g, k + 1⟩ : Bu).end + g := by
      unfold Bu.end
      rcases h with h | h
      · subst h; simp only; grind
      · subst h; simp only; grind
    rw [e2, adds_train f on g n t g (k + 1) (by omega) (.inr rfl)]
    simp
    omega
theorem train_one (t on g : Int) : train t on g 1 = [(t, t + on)] := rfl
/-- a burst put behind as a new one -/
theorem adds_new (f : List Bu) (b : Bu) (hb : b.ok) (h : ∀ u, f.getLast? = some u → takes u b.tick b.on = false) : adds f b.runs = f ++ [b] := by
  have h1 := hb.times
  have e : b.times.toNat = (b.times.toNat - 1) + 1 := by omega
  unfold Bu.runs
  rw [e]
  unfold train
  rw [adds_cons]
  have ha : add f (b.tick, b.tick + b.on) = f ++ [⟨b.tick, b.on, 0, 1⟩] := by
    unfold add
    have e1 : b.tick + b.on - b.tick = b.on := by omega
    cases hf : f.getLast? with
    | none => simp [one, e1]
    | some u => simp only [e1, h u hf]; simp [one, e1]
  rw [ha]
  have e2 : b.tick + b.on + b.off = (⟨b.tick, b.on, 0, 1⟩ : Bu).end + b.off := by unfold Bu.end; simp
  rw [e2, adds_train f b.on b.off _ b.tick 0 1 (by omega) (.inl rfl)]
  rcases b with ⟨t, on, off, k⟩
  have h2 := hb.off
  simp only at *
  by_cases hk : k.toNat - 1 = 0
  · have : k = 1 := by omega
    subst this
    simp [h2 rfl]
  · rw [if_neg hk]
    have : 1 + ((k.toNat - 1 : Nat) : Int) = k := by omega
    rw [this]
/-- .. taken by the last one: so many of its runs -/
theorem adds_takes (f : List Bu) (u b : Bu) (hu : 1 ≤ u.times) (ht : takes u b.tick b.on = true) (n : Nat) (hg : n = 1 ∨ b.off = b.tick - u.end) (hn : 1 ≤ n) :
    adds (f ++ [u]) (train b.tick b.on b.off n) = f ++ [⟨u.tick, u.on, b.tick - u.end, u.times + n⟩] := by
  unfold takes at ht
  simp only [Bool.and_eq_true, decide_eq_true_eq, Bool.or_eq_true] at ht
  rcases u with ⟨t, on, off, k⟩
  simp only at *
  have e0 : b.tick = (⟨t, on, off, k⟩ : Bu).end + (b.tick - (⟨t, on, off, k⟩ : Bu).end) := by omega
  rcases hg with rfl | hg
  · have := adds_train f on (b.tick - (⟨t, on, off, k⟩ : Bu).end) 1 t off k hu ht.2
    rw [← e0] at this
    rw [← ht.1]
    simpa [train] using this
  · have := adds_train f on (b.tick - (⟨t, on, off, k⟩ : Bu).end) n t off k hu ht.2
    rw [← e0] at this
    rw [← ht.1, hg, this, if_neg (by omega)]
theorem train_succ (t on g : Int) (n : Nat) : train t on g (n + 1) = (t, t + on) :: train (t + on + g) on g n := rfl
theorem train_split (t on g : Int) : ∀ (a b : Nat), train t on g (a + b) = train t on g a ++ train (t + a * (on + g)) on g b
  | 0, b => by simp [train]
  | a + 1, b => by
    have e : a + 1 + b = (a + b) + 1 := by omega
    rw [e, train_succ, train_succ, train_split (t + on + g) on g a b]
    have e2 : t + on + g + a * (on + g) = t + ((a + 1 : Nat) : Int) * (on + g) := by push_cast; grind
    rw [e2, List.cons_append]
theorem train_len (t on g : Int) : ∀ n, (train t on g n).length = n
  | 0 => rfl
  | n + 1 => by simp [train, train_len]
def mkb (t on off k : Int) : Bu := ⟨t, on, if k > 1 then off else 0, k⟩
theorem mkb_ok {t on off k : Int} (h : 1 ≤ k) : (mkb t on off k).ok := ⟨h, fun e => by simp [mkb] at e ⊢; omega⟩
theorem mkb_runs {t on off k : Int} (h : 1 ≤ k) : (mkb t on off k).runs = train t on off k.toNat := by
  unfold Bu.runs mkb
  simp only
  by_cases h1 : k > 1
  · rw [if_pos h1]
  · have : k = 1 := by omega
    subst this
    simp [train]
/-- a burst put behind: what is put, what is left -/
def put (f : List Bu) (b : Bu) : List Bu × Option Bu := match f.getLast? with
  | none => (f ++ [b], none)
  | some u => if takes u b.tick b.on then
      (f.dropLast ++ [⟨u.tick, b.on, b.tick - u.end, u.times + (if b.times = 1 ∨ b.off = b.tick - u.end then b.times else 1)⟩],
        if b.times = 1 ∨ b.off = b.tick - u.end then none else some (mkb (b.tick + b.on + b.off) b.on b.off (b.times - 1)))
    else (f ++ [b], none)
def restRuns : Option Bu → List Run
  | none => []
  | some b => b.runs
def OkB (f : List Bu) : Prop := ∀ b ∈ f, b.ok
theorem put_adds (f : List Bu) (b : Bu) (hf : OkB f) (hb : b.ok) : adds (put f b).1 (restRuns (put f b).2) = adds f b.runs := by
  rcases List.eq_nil_or_concat f with rfl | ⟨f', u, rfl⟩
  · rw [adds_new [] b hb (by simp)]; rfl
  · rw [List.concat_eq_append] at *
    have hu := hf u (by simp)
    unfold put
    simp only [List.getLast?_append, List.getLast?_singleton, Option.some_or]
    by_cases ht : takes u b.tick b.on = true
    · rw [if_pos ht]
      have e1 : u.on = b.on := by
        unfold takes at ht
        simp only [Bool.and_eq_true, decide_eq_true_eq] at ht
        exact ht.1
      simp only [List.dropLast_concat]
      have h1 := hb.times
      by_cases hg : b.times = 1 ∨ b.off = b.tick - u.end
      · rw [if_pos hg, if_pos hg]
        have := adds_takes f' u b hu.times ht b.times.toNat (by rcases hg with h | h; left; omega; right; exact h) (by omega)
        unfold Bu.runs
        rw [this]
        have e : ((b.times.toNat : Nat) : Int) = b.times := by omega
        rw [e, e1]; rfl
      · rw [if_neg hg, if_neg hg]
        have e : b.times.toNat = 1 + (b.times.toNat - 1) := by omega
        have h2 : 1 ≤ b.times - 1 := by omega
        unfold restRuns
        simp only
        rw [mkb_runs h2]
        unfold Bu.runs
        rw [e, train_split, adds_app]
        have := adds_takes f' u b hu.times ht 1 (.inl rfl) (by omega)
        rw [this, e1]
        have e3 : (b.times - 1).toNat = b.times.toNat - 1 := by omega
        have e4 : b.tick + ((1 : Nat) : Int) * (b.on + b.off) = b.tick + b.on + b.off := by push_cast; omega
        rw [e3, e4]; rfl
    · have ht' : takes u b.tick b.on = false := by simpa using ht
      rw [if_neg ht]
      rw [adds_new (f' ++ [u]) b hb (by simp [ht'])]; rfl
/-- how often it may be put -/
def left (f : List Bu) : Option Bu → Nat
  | none => 0
  | some b => match f.getLast? with | none => 1 | some u => if takes u b.tick b.on then 2 else 1
theorem put_left (f : List Bu) (b : Bu) (hf : OkB f) : left (put f b).1 (put f b).2 < left f (some b) := by
  rcases List.eq_nil_or_concat f with rfl | ⟨f', u, rfl⟩
  · simp [put, left]
  · rw [List.concat_eq_append] at *
    have hu := hf u (by simp)
    unfold put left
    simp only [List.getLast?_append, List.getLast?_singleton, Option.some_or]
    by_cases ht : takes u b.tick b.on = true
    · simp only [ht, if_true]
      by_cases hg : b.times = 1 ∨ b.off = b.tick - u.end
      · simp [hg]
      · simp only [if_neg hg, List.getLast?_append, List.getLast?_singleton, Option.some_or]
        have e1 : u.on = b.on := by
          unfold takes at ht
          simp only [Bool.and_eq_true, decide_eq_true_eq] at ht
          exact ht.1
        unfold takes at ht
        simp only [Bool.and_eq_true, decide_eq_true_eq, Bool.or_eq_true] at ht
        have h1 := hu.times
        have hn : takes ⟨u.tick, b.on, b.tick - u.end, u.times + 1⟩ (mkb (b.tick + b.on + b.off) b.on b.off (b.times - 1)).tick (mkb (b.tick + b.on + b.off) b.on b.off (b.times - 1)).on = false := by
          unfold takes mkb
          simp only [decide_true, Bool.true_and, Bool.or_eq_false_iff, decide_eq_false_iff_not]
          refine ⟨by omega, fun h => hg (.inr ?_)⟩
          have e2 : (⟨u.tick, b.on, b.tick - u.end, u.times + 1⟩ : Bu).end = b.tick + b.on := by
            have h3 : u.end = u.tick + u.times * u.on + (u.times - 1) * u.off := rfl
            unfold Bu.end
            simp only
            rcases ht.2 with h4 | h4
            · rw [h4]; grind
            · rw [h3] at h4; rw [← e1]; grind
          omega
        simp only [hn, Bool.false_eq_true, if_false]
        decide
    · have ht' : takes u b.tick b.on = false := by simpa using ht
      simp [ht']
theorem put_ok (f : List Bu) (b : Bu) (hf : OkB f) (hb : b.ok) : OkB (put f b).1 ∧ ∀ r, (put f b).2 = some r → r.ok := by
  have h1 := hb.times
  rcases List.eq_nil_or_concat f with rfl | ⟨f', u, rfl⟩
  · exact ⟨fun x hx => by simp [put] at hx; subst hx; exact hb, fun r h => by simp [put] at h⟩
  · rw [List.concat_eq_append] at *
    have hu := hf u (by simp)
    have hu1 := hu.times
    unfold put
    simp only [List.getLast?_append, List.getLast?_singleton, Option.some_or]
    split
    · constructor
      · intro x hx
        simp only [List.dropLast_concat] at hx
        rcases List.mem_append.mp hx with hx | hx
        · exact hf x (List.mem_append_left _ hx)
        · simp at hx; subst hx
          refine ⟨by simp only; split <;> omega, fun e => ?_⟩
          simp only at e
          split at e <;> omega
      · intro r hr
        simp only at hr
        split at hr
        · cases hr
        · rename_i hg
          cases hr
          exact mkb_ok (by omega)
    · constructor
      · intro x hx
        rcases List.mem_append.mp hx with hx | hx
        · exact hf x hx
        · simp at hx; subst hx; exact hb
      · intro r hr; cases hr
def Bu.pv (b : Bu) : PV := .tup [.int b.tick, .int b.on, .int b.off, .int b.times]
theorem Bu_data (b : Bu) : b.pv.data = true := by simp [Bu.pv]
structure Bu.fit (M : Int) (b : Bu) : Prop where
  ok : b.ok
  on : 1 ≤ b.on
  off : 0 ≤ b.off
  lo : -M ≤ b.tick
  hi : b.end ≤ M
theorem fit_more {M : Int} {b : Bu} (h : b.fit M) : b.times ≤ 2 * M ∧ b.on ≤ 2 * M ∧ b.off ≤ 2 * M ∧ b.tick + b.on ≤ b.end ∧ -M ≤ b.end ∧ b.tick ≤ M := by
  have h1 := h.ok.times
  have h2 := h.on
  have h3 := h.off
  have h4 := h.lo
  have h5 := h.hi
  unfold Bu.end at *
  have a1 : 0 ≤ (b.times - 1) * b.off := Int.mul_nonneg (by omega) h3
  have a2 : b.times ≤ b.times * b.on := by have := Int.mul_le_mul_of_nonneg_left h2 (by omega : 0 ≤ b.times); omega
  have a3 : b.on ≤ b.times * b.on := by have := Int.mul_le_mul_of_nonneg_right h1 (by omega : 0 ≤ b.on); omega
  have a4 : b.off ≤ (b.times - 1) * b.off ∨ b.off = 0 := by
    by_cases e : b.times = 1
    · right; exact h.ok.off e
    · left; have := Int.mul_le_mul_of_nonneg_right (by omega : 1 ≤ b.times - 1) h3; omega
  refine ⟨by omega, by omega, by omega, by omega, by omega, by omega⟩
abbrev Big (M : Int) : Prop := 0 ≤ M ∧ M ≤ 10 ^ 100
theorem end_put {u b : Bu} (ht : takes u b.tick b.on = true) (k : Int) : (⟨u.tick, b.on, b.tick - u.end, u.times + k⟩ : Bu).end = b.tick + k * b.on + (k - 1) * (b.tick - u.end) := by
  unfold takes at ht
  simp only [Bool.and_eq_true, decide_eq_true_eq, Bool.or_eq_true] at ht
  have h3 : u.end = u.tick + u.times * u.on + (u.times - 1) * u.off := rfl
  rw [ht.1] at h3
  have h4 : u.end = u.tick + u.times * b.on + (u.times - 1) * (b.tick - u.end) := by
    rcases ht.2 with h | h
    · rw [h] at h3 ⊢; grind
    · rw [h] at h3; exact h3
  show u.tick + (u.times + k) * b.on + (u.times + k - 1) * (b.tick - u.end) = _
  grind
structure PutFit (M : Int) (t : Int) (f : List Bu) (r : Option Bu) : Prop where
  fs : ∀ x ∈ f, x.fit M
  r : ∀ x, r = some x → x.fit M ∧ x.end = t ∧ ∀ u, f.getLast? = some u → u.end ≤ x.tick
  l : ∀ u, f.getLast? = some u → u.end ≤ t
theorem put_fit {M : Int} {f : List Bu} {b : Bu} {t : Int} (h : PutFit M t f (some b)) : PutFit M t (put f b).1 (put f b).2 := by
  obtain ⟨hb, hbt, ho⟩ := h.r b rfl
  have hm := fit_more hb
  rcases List.eq_nil_or_concat f with rfl | ⟨f', u, rfl⟩
  · refine ⟨fun x hx => ?_, fun x hx => ?_, fun u hu => ?_⟩
    · simp [put] at hx; subst hx; exact hb
    · simp [put] at hx
    · simp [put] at hu; subst hu; omega
  · rw [List.concat_eq_append] at *
    have hu := h.fs u (by simp)
    have hol := ho u (by simp)
    unfold put
    simp only [List.getLast?_append, List.getLast?_singleton, Option.some_or]
    by_cases ht : takes u b.tick b.on = true
    · simp only [ht, if_true, List.dropLast_concat]
      have e := end_put ht
      have hut := hu.ok.times
      have hbt1 := hb.ok.times
      have hbon := hb.on
      have hboff := hb.off
      by_cases hg : b.times = 1 ∨ b.off = b.tick - u.end
      · simp only [if_pos hg]
        have e1 : (⟨u.tick, b.on, b.tick - u.end, u.times + b.times⟩ : Bu).end = b.end := by
          rw [e]
          rcases hg with h | h
          · unfold Bu.end; rw [h]; simp
          · rw [← h]; rfl
        have nf : (⟨u.tick, b.on, b.tick - u.end, u.times + b.times⟩ : Bu).fit M := ⟨⟨by simp only; omega, fun e => by simp only at e; omega⟩, hbon, by simp only; omega, hu.lo, by rw [e1]; exact hb.hi⟩
        refine ⟨fun x hx => ?_, fun x hx => (nomatch hx), fun x hx => ?_⟩
        · rcases List.mem_append.mp hx with hx | hx
          · exact h.fs x (List.mem_append_left _ hx)
          · simp at hx; subst hx; exact nf
        · simp at hx; subst hx; rw [e1]; omega
      · simp only [if_neg hg]
        have e1 : (⟨u.tick, b.on, b.tick - u.end, u.times + 1⟩ : Bu).end = b.tick + b.on := by rw [e]; omega
        have h1 : 1 < b.times := by omega
        have nf : (⟨u.tick, b.on, b.tick - u.end, u.times + 1⟩ : Bu).fit M := ⟨⟨by simp only; omega, fun e => by simp only at e; omega⟩, hbon, by simp only; omega, hu.lo, by rw [e1]; have := hb.hi; omega⟩
        have e2 : (mkb (b.tick + b.on + b.off) b.on b.off (b.times - 1)).end = b.end := by
          unfold mkb Bu.end
          simp only
          by_cases h2 : b.times - 1 > 1
          · rw [if_pos h2]; grind
          · have h3 : b.times = 2 := by omega
            rw [if_neg h2, h3]; grind
        have rf : (mkb (b.tick + b.on + b.off) b.on b.off (b.times - 1)).fit M := ⟨mkb_ok (by omega), hbon, by unfold mkb; simp only; split <;> omega, by have := hb.lo; unfold mkb; simp only; omega, by rw [e2]; exact hb.hi⟩
        refine ⟨fun x hx => ?_, fun x hx => ?_, fun x hx => ?_⟩
        · rcases List.mem_append.mp hx with hx | hx
          · exact h.fs x (List.mem_append_left _ hx)
          · simp at hx; subst hx; exact nf
        · simp only [Option.some.injEq] at hx; subst hx
          refine ⟨rf, by rw [e2]; exact hbt, fun v hv => ?_⟩
          simp at hv; subst hv; rw [e1]; unfold mkb; simp only; omega
        · simp at hx; subst hx; rw [e1]; omega
    · have ht' : takes u b.tick b.on = false := by simpa using ht
      simp only [ht', Bool.false_eq_true, if_false]
      refine ⟨fun x hx => ?_, fun x hx => (nomatch hx), fun x hx => ?_⟩
      · rcases List.mem_append.mp hx with hx | hx
        · exact h.fs x hx
        · simp at hx; subst hx; exact hb
      · simp at hx; subst hx; omega
theorem put_len (f : List Bu) (b : Bu) : (put f b).1.length ≤ f.length + 1 := by
  rcases List.eq_nil_or_concat f with rfl | ⟨f', u, rfl⟩
  · simp [put]
  · rw [List.concat_eq_append]
    unfold put
    simp only [List.getLast?_append, List.getLast?_singleton, Option.some_or]
    split <;> simp
/-- bursts one behind the other -/
def Chain (bs : List Bu) : Prop := ∀ i x y, bs[i]? = some x → bs[i + 1]? = some y → x.end ≤ y.tick
theorem runs_one (r : Run) : (one r).runs = [r] := by
  rcases r with ⟨a, b⟩
  unfold Bu.runs one
  simp [train]
  omega
theorem add_runs (f : List Bu) (r : Run) (hf : OkB f) : (add f r).flatMap Bu.runs = f.flatMap Bu.runs ++ [r] ∧ OkB (add f r) := by
  rcases List.eq_nil_or_concat f with rfl | ⟨f', u, rfl⟩
  · refine ⟨by simp [add, runs_one], fun b hb => ?_⟩
    simp [add] at hb; subst hb; exact ⟨by simp [one], by simp [one]⟩
  · rw [List.concat_eq_append] at *
    rw [add_snoc]
    have hu := hf u (by simp)
    by_cases ht : takes u r.1 (r.2 - r.1) = true
    · rw [if_pos ht]
      have ht0 := ht
      unfold takes at ht
      simp only [Bool.and_eq_true, decide_eq_true_eq, Bool.or_eq_true] at ht
      have h1 := hu.times
      constructor
      · rw [List.flatMap_append, List.flatMap_append]
        simp only [List.flatMap_cons, List.flatMap_nil, List.append_nil, List.append_assoc]
        congr 1
        unfold Bu.runs
        simp only
        have e : (u.times + 1).toNat = u.times.toNat + 1 := by omega
        rw [e, train_split]
        have h3 : u.end = u.tick + u.times * u.on + (u.times - 1) * u.off := rfl
        have e2 : ((u.times.toNat : Nat) : Int) = u.times := by omega
        have e3 : u.tick + (u.times.toNat : Nat) * (u.on + (r.1 - u.end)) = r.1 := by
          rw [e2]
          rcases ht.2 with h | h
          · rw [h] at h3 ⊢; grind
          · rw [h] at h3; grind
        have e4 : train u.tick u.on (r.1 - u.end) u.times.toNat = train u.tick u.on u.off u.times.toNat := by
          rcases ht.2 with h | h
          · rw [h]; rfl
          · rw [h]
        rw [e3, e4]
        have e5 : r.1 + (r.2 - r.1) = r.2 := by omega
        simp [train, ht.1, e5]
      · intro b hb
        rcases List.mem_append.mp hb with hb | hb
        · exact hf b (List.mem_append_left _ hb)
        · simp at hb; subst hb; exact ⟨by simp only; omega, fun e => by simp only at e; omega⟩
    · rw [if_neg ht]
      refine ⟨by simp [runs_one], fun b hb => ?_⟩
      rcases List.mem_append.mp hb with hb | hb
      · exact hf b hb
      · simp at hb; subst hb; exact ⟨by simp [one], by simp [one]⟩
theorem adds_runs (rs : List Run) : ∀ f : List Bu, OkB f → (adds f rs).flatMap Bu.runs = f.flatMap Bu.runs ++ rs ∧ OkB (adds f rs) := by
  induction rs with
  | nil => intro f hf; simp [adds_nil]; exact hf
  | cons r rs ih =>
    intro f hf
    obtain ⟨h1, h2⟩ := add_runs f r hf
    obtain ⟨h3, h4⟩ := ih (add f r) h2
    rw [adds_cons]
    exact ⟨by rw [h3, h1]; simp, h4⟩
/-- the runs of what is grouped are what was grouped -/
theorem group_runs (rs : List Run) : (group rs).flatMap Bu.runs = rs := by
  have := (adds_runs rs [] (fun _ h => (nomatch h))).1
  simp at this
  exact this
/-- runs in order, between -M and M -/
structure RunOk (M : Int) (r : Run) : Prop where
  len : r.1 < r.2
  lo : -M ≤ r.1
  hi : r.2 ≤ M
def RunsOk (M : Int) (rs : List Run) : Prop := (∀ r ∈ rs, RunOk M r) ∧ rs.Pairwise fun x y => x.2 ≤ y.1
structure AddFit (M : Int) (t : Int) (f : List Bu) : Prop where
  fs : ∀ x ∈ f, x.fit M
  ch : f.Pairwise fun x y => x.end ≤ y.tick
  l : ∀ u, f.getLast? = some u → u.end ≤ t
theorem add_fit {M t : Int} {f : List Bu} {r : Run} (h : AddFit M t f) (hr : RunOk M r) (ht : t ≤ r.1) : AddFit M r.2 (add f r) := by
  have h1 := hr.len
  rcases List.eq_nil_or_concat f with rfl | ⟨f', u, rfl⟩
  · have hx : add [] r = [one r] := rfl
    rw [hx]
    refine ⟨fun x hx => ?_, by simp, fun u hu => ?_⟩
    · simp at hx; subst hx
      exact ⟨⟨by simp [one], by simp [one]⟩, by simp [one]; omega, by simp [one], hr.lo, by simp [one, Bu.end]; have := hr.hi; omega⟩
    · simp at hu; subst hu; simp [one, Bu.end]; omega
  · rw [List.concat_eq_append] at *
    rw [add_snoc]
    have hu := h.fs u (by simp)
    have hul := h.l u (by simp)
    have hch := List.pairwise_append.mp h.ch
    by_cases htk : takes u r.1 (r.2 - r.1) = true
    · rw [if_pos htk]
      have e := end_put (b := ⟨r.1, r.2 - r.1, 0, 1⟩) htk 1
      simp only at e
      have hon : u.on = r.2 - r.1 := by
        unfold takes at htk
        simp only [Bool.and_eq_true, decide_eq_true_eq] at htk
        exact htk.1
      rw [← hon] at e
      have e1 : (⟨u.tick, u.on, r.1 - u.end, u.times + 1⟩ : Bu).end = r.2 := by rw [e]; omega
      have hut := hu.ok.times
      have nf : (⟨u.tick, u.on, r.1 - u.end, u.times + 1⟩ : Bu).fit M := ⟨⟨by simp only; omega, fun e => by simp only at e; omega⟩, hu.on, by simp only; omega, hu.lo, by rw [e1]; exact hr.hi⟩
      refine ⟨fun x hx => ?_, ?_, fun x hx => ?_⟩
      · rcases List.mem_append.mp hx with hx | hx
        · exact h.fs x (List.mem_append_left _ hx)
        · simp at hx; subst hx; exact nf
      · refine List.pairwise_append.mpr ⟨hch.1, by simp, fun x hx y hy => ?_⟩
        simp at hy; subst hy
        exact hch.2.2 x hx u (by simp)
      · simp at hx; subst hx; rw [e1]; omega
    · rw [if_neg htk]
      have nf : (one r).fit M := ⟨⟨by simp [one], by simp [one]⟩, by simp [one]; omega, by simp [one], hr.lo, by simp [one, Bu.end]; have := hr.hi; omega⟩
      refine ⟨fun x hx => ?_, ?_, fun x hx => ?_⟩
      · rcases List.mem_append.mp hx with hx | hx
        · exact h.fs x hx
        · simp at hx; subst hx; exact nf
      · refine List.pairwise_append.mpr ⟨h.ch, by simp, fun x hx y hy => ?_⟩
        simp at hy; subst hy
        rcases List.mem_append.mp hx with hx | hx
        · have a := hch.2.2 x hx u (by simp)
          have b := fit_more hu
          have := hu.on
          show x.end ≤ r.1
          omega
        · simp at hx; subst hx; show x.end ≤ r.1; omega
      · simp at hx; subst hx; simp [one, Bu.end]; omega
theorem group_fit {M : Int} {rs : List Run} (h : RunsOk M rs) : ∃ t, AddFit M t (group rs) := by
  have : ∀ (rs : List Run) (t : Int) (f : List Bu), (∀ r ∈ rs, RunOk M r) → rs.Pairwise (fun x y => x.2 ≤ y.1) → (∀ r ∈ rs, t ≤ r.1) → AddFit M t f → ∃ t', AddFit M t' (adds f rs) := by
    intro rs
    induction rs with
    | nil => intro t f _ _ _ h; exact ⟨t, h⟩
    | cons r rs ih =>
      intro t f h1 h2 h3 h4
      rw [adds_cons]
      have hp := List.pairwise_cons.mp h2
      exact ih r.2 (add f r) (fun x hx => h1 x (List.mem_cons_of_mem _ hx)) hp.2 hp.1 (add_fit h4 (h1 r List.mem_cons_self) (h3 r List.mem_cons_self))
  exact this rs (-M) [] h.1 h.2 (fun r hr => (h.1 r hr).lo) ⟨by simp, by simp, by simp⟩
theorem chain_of {bs : List Bu} (h : bs.Pairwise fun x y => x.end ≤ y.tick) : Chain bs := by
  intro i x y hx hy
  obtain ⟨h1, e1⟩ := List.getElem?_eq_some_iff.mp hx
  obtain ⟨h2, e2⟩ := List.getElem?_eq_some_iff.mp hy
  rw [← e1, ← e2]
  exact List.pairwise_iff_getElem.mp h i (i + 1) h1 h2 (by omega)
end Law
end
section
set_option autoImplicit false
/-! Dropping and filling runs. -/
namespace Law
open PySem PL
structure Tri where
  u : Option Int
  R : List Run
  s : Option Int
def opt : Option Int → PV
  | none => .non
  | some i => .int i
def sigP (u : Option Int) (bs : List Bu) (s : Option Int) : PV := .tup [opt u, .tup (bs.map Bu.pv), opt s]
def Tri.pv (t : Tri) : PV := sigP t.u (group t.R) t.s
abbrev Z := Option Int × List Run
def lastEnd (z : Z) : Option Int := match z.2.getLast? with
  | some r => some r.2
  | none => z.1
def flR (n : Int) (z : Z) (r : Run) : Z := match lastEnd z with
  | none => (z.1, z.2 ++ [r])
  | some e => if r.1 - e ≤ n then (match z.2.getLast? with
      | none => (some r.2, [])
      | some l => (z.1, z.2.dropLast ++ [(l.1, r.2)])) else (z.1, z.2 ++ [r])
def fill (n : Int) (t : Tri) : Tri :=
  let z := t.R.foldl (flR n) (t.u, [])
  match t.s, lastEnd z with
  | some v, some e => if v - e ≤ n then (match z.2.getLast? with
      | none => ⟨some 0, [], some 0⟩
      | some l => ⟨z.1, z.2.dropLast, some l.1⟩) else ⟨z.1, z.2, some v⟩
  | s, _ => ⟨z.1, z.2, s⟩
def drop (n : Int) (t : Tri) : Tri := ⟨t.u, t.R.filter (fun r => decide (r.2 - r.1 > n)), t.s⟩
theorem lastEnd_snoc (u : Option Int) (l : List Run) (r : Run) : lastEnd (u, l ++ [r]) = some r.2 := by unfold lastEnd; simp
theorem lastEnd_nil (u : Option Int) : lastEnd (u, []) = u := rfl
theorem flR_none (n : Int) (r : Run) : flR n (none, []) r = (none, [r]) := rfl
theorem flR_nil (n e : Int) (r : Run) : flR n (some e, []) r = if r.1 - e ≤ n then (some r.2, []) else (some e, [r]) := rfl
theorem flR_snoc (n : Int) (u : Option Int) (l : List Run) (x r : Run) : flR n (u, l ++ [x]) r = if r.1 - x.2 ≤ n then (u, l ++ [(x.1, r.2)]) else (u, l ++ [x] ++ [r]) := by
  unfold flR
  rw [lastEnd_snoc]
  simp
theorem flR_last (n : Int) (z : Z) (r : Run) : lastEnd (flR n z r) = some r.2 := by
  rcases z with ⟨u, l⟩
  rcases List.eq_nil_or_concat l with rfl | ⟨l', x, rfl⟩
  · cases u with
    | none => rfl
    | some e => rw [flR_nil]; split <;> rfl
  · rw [List.concat_eq_append, flR_snoc]
    split
    · rw [lastEnd_snoc]
    · rw [lastEnd_snoc]
theorem flR_far {n : Int} {z : Z} {r : Run} (h : ∀ e, lastEnd z = some e → n < r.1 - e) : flR n z r = (z.1, z.2 ++ [r]) := by
  rcases z with ⟨u, l⟩
  rcases List.eq_nil_or_concat l with rfl | ⟨l', x, rfl⟩
  · cases u with
    | none => rfl
    | some e => rw [flR_nil, if_neg (by have := h e rfl; omega)]; rfl
  · rw [List.concat_eq_append] at *
    rw [flR_snoc, if_neg (by have := h x.2 (lastEnd_snoc _ _ _); omega)]
theorem flR_ext {n : Int} (z : Z) (a e : Int) (r : Run) (h : r.1 - e ≤ n) : flR n (flR n z (a, e)) r = flR n z (a, r.2) := by
  rcases z with ⟨u, l⟩
  rcases List.eq_nil_or_concat l with rfl | ⟨l', x, rfl⟩
  · cases u with
    | none =>
      rw [flR_none, flR_none]
      have := flR_snoc n none [] (a, e) r
      simp only [List.nil_append] at this
      rw [this, if_pos h]
    | some e' =>
      rw [flR_nil, flR_nil]
      by_cases c : a - e' ≤ n
      · rw [if_pos c, if_pos c, flR_nil, if_pos h]
      · rw [if_neg c, if_neg c]
        have := flR_snoc n (some e') [] (a, e) r
        simp only [List.nil_append] at this
        rw [this, if_pos h]
  · rw [List.concat_eq_append, flR_snoc, flR_snoc]
    by_cases c : a - x.2 ≤ n
    · rw [if_pos c, if_pos c, flR_snoc, if_pos h]
    · rw [if_neg c, if_neg c, flR_snoc, if_pos h]
/-- a train whose gaps are filled -/
theorem fl_whole {n on g : Int} (hg : g ≤ n) : ∀ (k : Nat) (z : Z) (a e : Int), (train (e + g) on g k).foldl (flR n) (flR n z (a, e)) = flR n z (a, e + k * (on + g))
  | 0, z, a, e => by simp [train]
  | k + 1, z, a, e => by
    rw [train_succ, List.foldl_cons, flR_ext z a e _ (by simp only; omega), fl_whole hg k z a (e + g + on)]
    congr 2
    push_cast
    grind
/-- a train whose gaps stay -/
theorem fl_stay {n on g : Int} (hg : n < g) : ∀ (k : Nat) (z : Z) (e : Int), lastEnd z = some e → (train (e + g) on g k).foldl (flR n) z = (z.1, z.2 ++ train (e + g) on g k)
  | 0, z, e, _ => by simp [train]
  | k + 1, z, e, h => by
    rw [train_succ, List.foldl_cons, flR_far (by intro e' h'; rw [h] at h'; cases h'; simp only; omega)]
    rw [fl_stay hg k (z.1, z.2 ++ [(e + g, e + g + on)]) (e + g + on) (lastEnd_snoc _ _ _)]
    simp
/-- a burst's runs, the first one apart -/
def Bu.rest (b : Bu) : Option Bu := if b.times = 1 then none else some (mkb (b.tick + b.on + b.off) b.on b.off (b.times - 1))
theorem runs_first {b : Bu} (h : b.ok) : b.runs = (b.tick, b.tick + b.on) :: restRuns b.rest := by
  have h1 := h.times
  have e : b.times.toNat = (b.times.toNat - 1) + 1 := by omega
  unfold Bu.runs Bu.rest
  rw [e, train_succ]
  by_cases h2 : b.times = 1
  · rw [if_pos h2]
    have : b.times.toNat - 1 = 0 := by omega
    rw [this]; rfl
  · rw [if_neg h2]
    unfold restRuns
    simp only
    rw [mkb_runs (by omega)]
    have : (b.times - 1).toNat = b.times.toNat - 1 := by omega
    rw [this]
def wholeB (n : Int) (b : Bu) : Bu := if b.times > 1 ∧ b.off ≤ n then ⟨b.tick, b.end - b.tick, 0, 1⟩ else b
theorem whole_fl {n : Int} {b : Bu} (h : b.ok) (z : Z) : (wholeB n b).runs.foldl (flR n) z = b.runs.foldl (flR n) z := by
  unfold wholeB
  by_cases c : b.times > 1 ∧ b.off ≤ n
  · rw [if_pos c]
    have e : b.times.toNat = (b.times.toNat - 1) + 1 := by omega
    have r1 : (⟨b.tick, b.end - b.tick, 0, 1⟩ : Bu).runs = [(b.tick, b.end)] := by unfold Bu.runs; simp [train]; omega
    rw [r1]
    have r2 : b.runs = (b.tick, b.tick + b.on) :: train (b.tick + b.on + b.off) b.on b.off (b.times.toNat - 1) := by
      unfold Bu.runs; rw [e, train_succ]; rfl
    rw [r2, List.foldl_cons, List.foldl_cons, List.foldl_nil, fl_whole c.2]
    congr 2
    have e2 : ((b.times.toNat - 1 : Nat) : Int) = b.times - 1 := by omega
    rw [e2]
    unfold Bu.end
    grind
  · rw [if_neg c]
/-- what is left of it goes behind -/
theorem first_fl {n : Int} {b : Bu} (h : b.ok) (z : Z) : (wholeB n b).runs.foldl (flR n) z = ((flR n z ((wholeB n b).tick, (wholeB n b).tick + (wholeB n b).on)).1, (flR n z ((wholeB n b).tick, (wholeB n b).tick + (wholeB n b).on)).2 ++ restRuns (wholeB n b).rest) := by
  have hok : (wholeB n b).ok := by unfold wholeB; split; exact ⟨by simp, by simp⟩; exact h
  have hc : (wholeB n b).times = 1 ∨ n < (wholeB n b).off := by
    unfold wholeB
    by_cases c : b.times > 1 ∧ b.off ≤ n
    · rw [if_pos c]; exact .inl rfl
    · rw [if_neg c]
      have := h.times
      by_cases e : b.times = 1
      · exact .inl e
      · right; omega
  generalize wholeB n b = w at *
  rw [runs_first hok, List.foldl_cons]
  unfold Bu.rest
  rcases hc with hc | hc
  · rw [if_pos hc]; simp [restRuns]
  · by_cases h2 : w.times = 1
    · rw [if_pos h2]; simp [restRuns]
    · rw [if_neg h2]
      have := hok.times
      unfold restRuns
      simp only
      rw [mkb_runs (by omega)]
      exact fl_stay hc _ _ _ (flR_last _ _ _)
/-- the last run taken away -/
def wlast (f : List Bu) (u : Bu) : List Bu := if u.times = 1 then f else f ++ [mkb u.tick u.on u.off (u.times - 1)]
theorem wlast_runs (f : List Bu) (u : Bu) (h : u.ok) : (f ++ [u]).flatMap Bu.runs = (wlast f u).flatMap Bu.runs ++ [(u.end - u.on, u.end)] := by
  have h1 := h.times
  unfold wlast
  by_cases h2 : u.times = 1
  · rw [if_pos h2]
    have e1 : u.runs = [(u.tick, u.tick + u.on)] := by unfold Bu.runs; rw [h2]; rfl
    have e2 : u.end = u.tick + u.on := by unfold Bu.end; rw [h2]; simp
    rw [List.flatMap_append, e2]
    have e3 : u.tick + u.on - u.on = u.tick := by omega
    simp [e1, e3]
  · rw [if_neg h2, List.flatMap_append, List.flatMap_append]
    simp only [List.flatMap_cons, List.flatMap_nil, List.append_nil]
    rw [mkb_runs (by omega), List.append_assoc]
    congr 1
    unfold Bu.runs
    have e : u.times.toNat = (u.times - 1).toNat + 1 := by omega
    rw [e, train_split]
    congr 1
    have e2 : (((u.times - 1).toNat : Nat) : Int) = u.times - 1 := by omega
    simp only [train, e2]
    congr 1
    unfold Bu.end
    refine Prod.ext ?_ ?_
    · simp only; grind
    · simp only; grind
def aheadOf (z : Option Int × List Bu) : Option Int := match z.2.getLast? with | some u => some u.end | none => z.1
/-- the program's filling, step by step -/
def fstep (n : Int) (z : Option Int × List Bu) (b : Bu) : Option Int × List Bu :=
  let w := wholeB n b
  match aheadOf z with
  | none => (z.1, z.2 ++ [w])
  | some e => if w.tick - e > n then (z.1, z.2 ++ [w]) else match z.2.getLast? with
      | none => (some (w.tick + w.on), w.rest.toList)
      | some u => (z.1, wlast z.2.dropLast u ++ [⟨u.end - u.on, w.tick + w.on - (u.end - u.on), 0, 1⟩] ++ w.rest.toList)
theorem fstep_none {n : Int} {z : Option Int × List Bu} {b : Bu} (h : aheadOf z = none) : fstep n z b = (z.1, z.2 ++ [wholeB n b]) := by unfold fstep; simp only; rw [h]
theorem fstep_far {n e : Int} {z : Option Int × List Bu} {b : Bu} (h : aheadOf z = some e) (c : (wholeB n b).tick - e > n) : fstep n z b = (z.1, z.2 ++ [wholeB n b]) := by unfold fstep; simp only; rw [h]; simp only; rw [if_pos c]
theorem fstep_nil {n e : Int} {u : Option Int} {b : Bu} (h : aheadOf (u, []) = some e) (c : ¬ (wholeB n b).tick - e > n) : fstep n (u, []) b = (some ((wholeB n b).tick + (wholeB n b).on), (wholeB n b).rest.toList) := by unfold fstep; simp only; rw [h]; simp only; rw [if_neg c]; rfl
theorem fstep_snoc {n e : Int} {u : Option Int} {f : List Bu} {x b : Bu} (h : aheadOf (u, f ++ [x]) = some e) (c : ¬ (wholeB n b).tick - e > n) : fstep n (u, f ++ [x]) b = (u, wlast f x ++ [⟨x.end - x.on, (wholeB n b).tick + (wholeB n b).on - (x.end - x.on), 0, 1⟩] ++ (wholeB n b).rest.toList) := by unfold fstep; simp only; rw [h]; simp only; rw [if_neg c]; simp
def zOf (z : Option Int × List Bu) : Z := (z.1, z.2.flatMap Bu.runs)
theorem last_runs (u : Option Int) (f : List Bu) (x : Bu) (h : x.ok) : lastEnd (zOf (u, f ++ [x])) = some x.end := by
  unfold zOf
  simp only
  rw [wlast_runs f x h, lastEnd_snoc]
theorem toList_runs (r : Option Bu) : r.toList.flatMap Bu.runs = restRuns r := by cases r <;> simp [restRuns]
theorem fstep_eq {n : Int} {z : Option Int × List Bu} {b : Bu} (hz : OkB z.2) (hb : b.ok) : zOf (fstep n z b) = b.runs.foldl (flR n) (zOf z) := by
  rw [← whole_fl hb, first_fl hb]
  have hok : (wholeB n b).ok := by unfold wholeB; split; exact ⟨by simp, by simp⟩; exact hb
  unfold fstep aheadOf
  simp only
  generalize wholeB n b = w at *
  have rf := runs_first hok
  rcases z with ⟨u, f⟩
  rcases List.eq_nil_or_concat f with rfl | ⟨f', x, rfl⟩
  · cases u with
    | none => simp [zOf, flR_none, rf]
    | some e =>
      simp only [List.getLast?_nil]
      by_cases c : w.tick - e > n
      · rw [if_pos c]
        have : flR n (zOf (some e, [])) (w.tick, w.tick + w.on) = (some e, [(w.tick, w.tick + w.on)]) := by
          show flR n (some e, []) _ = _
          rw [flR_nil, if_neg (by simp only; omega)]
        rw [this]
        simp [zOf, rf]
      · rw [if_neg c]
        have : flR n (zOf (some e, [])) (w.tick, w.tick + w.on) = (some (w.tick + w.on), []) := by
          show flR n (some e, []) _ = _
          rw [flR_nil, if_pos (by simp only; omega)]
        rw [this]
        simp [zOf, toList_runs]
  · rw [List.concat_eq_append] at *
    have hx := hz x (by simp)
    simp only [List.getLast?_append, List.getLast?_singleton, Option.some_or, List.dropLast_concat]
    have e1 : zOf (u, f' ++ [x]) = (u, (wlast f' x).flatMap Bu.runs ++ [(x.end - x.on, x.end)]) := by unfold zOf; simp only; rw [wlast_runs f' x hx]
    by_cases c : w.tick - x.end > n
    · rw [if_pos c, e1, flR_snoc, if_neg (by simp only; omega)]
      unfold zOf
      simp only
      rw [List.flatMap_append, wlast_runs f' x hx]
      simp [rf]
    · rw [if_neg c, e1, flR_snoc, if_pos (by simp only; omega)]
      unfold zOf
      simp only
      rw [List.flatMap_append, List.flatMap_append, toList_runs]
      have r1 : (⟨x.end - x.on, w.tick + w.on - (x.end - x.on), 0, 1⟩ : Bu).runs = [(x.end - x.on, w.tick + w.on)] := by unfold Bu.runs; simp [train]; omega
      simp [r1]
theorem mkb_end (b : Bu) (h : 1 < b.times) : (mkb (b.tick + b.on + b.off) b.on b.off (b.times - 1)).end = b.end := by
  unfold mkb Bu.end
  simp only
  by_cases h2 : b.times - 1 > 1
  · rw [if_pos h2]; grind
  · have h3 : b.times = 2 := by omega
    rw [if_neg h2, h3]; grind
theorem mkb_end' (b : Bu) (h : 1 < b.times) : (mkb b.tick b.on b.off (b.times - 1)).end = b.end - b.on - b.off := by
  unfold mkb Bu.end
  simp only
  by_cases h2 : b.times - 1 > 1
  · rw [if_pos h2]; grind
  · have h3 : b.times = 2 := by omega
    rw [if_neg h2, h3]; grind
theorem rest_fit {M : Int} {b r : Bu} (h : b.fit M) (e : b.rest = some r) : r.fit M ∧ r.end = b.end ∧ b.tick + b.on ≤ r.tick := by
  unfold Bu.rest at e
  have h1 := h.ok.times
  have h2 := h.on
  have h3 := h.off
  have h4 := h.lo
  split at e
  · cases e
  · cases e
    have e2 := mkb_end b (by omega)
    exact ⟨⟨mkb_ok (by omega), h2, by unfold mkb; simp only; split <;> omega, by unfold mkb; simp only; omega, by rw [e2]; exact h.hi⟩, e2, by unfold mkb; simp only; omega⟩
theorem whole_fit {M n : Int} {b : Bu} (h : b.fit M) : (wholeB n b).fit M ∧ (wholeB n b).end = b.end ∧ (wholeB n b).tick = b.tick := by
  unfold wholeB
  split
  · have hm := fit_more h
    have h2 := h.on
    have e : (⟨b.tick, b.end - b.tick, 0, 1⟩ : Bu).end = b.end := by simp only [Bu.end]; omega
    exact ⟨⟨⟨by simp, by simp⟩, by simp only; omega, by simp, h.lo, by rw [e]; exact h.hi⟩, e, rfl⟩
  · exact ⟨h, rfl, rfl⟩
theorem wlast_fit {M t : Int} {f : List Bu} {u : Bu} (h : AddFit M t (f ++ [u])) : AddFit M (u.end - u.on) (wlast f u) ∧ -M ≤ u.end - u.on := by
  have hu := h.fs u (by simp)
  have hm := fit_more hu
  have h1 := hu.ok.times
  have h2 := hu.on
  have h3 := hu.off
  have hch := List.pairwise_append.mp h.ch
  have hlo := hu.lo
  refine ⟨?_, by omega⟩
  unfold wlast
  split
  · refine ⟨fun x hx => h.fs x (List.mem_append_left _ hx), hch.1, fun x hx => ?_⟩
    have := hch.2.2 x (List.mem_of_getLast? hx) u (by simp)
    omega
  · have e := mkb_end' u (by omega)
    have nf : (mkb u.tick u.on u.off (u.times - 1)).fit M := ⟨mkb_ok (by omega), h2, by unfold mkb; simp only; split <;> omega, hlo, by rw [e]; have := hu.hi; omega⟩
    refine ⟨fun x hx => ?_, List.pairwise_append.mpr ⟨hch.1, by simp, fun x hx y hy => ?_⟩, fun x hx => ?_⟩
    · rcases List.mem_append.mp hx with hx | hx
      · exact h.fs x (List.mem_append_left _ hx)
      · simp at hx; subst hx; exact nf
    · simp at hy; subst hy
      exact hch.2.2 x hx u (by simp)
    · simp at hx; subst hx; rw [e]; omega
theorem addFit_snoc {M t : Int} {f : List Bu} {b : Bu} (h : AddFit M t f) (hb : b.fit M) (ht : t ≤ b.tick) : AddFit M b.end (f ++ [b]) := by
  refine ⟨fun x hx => ?_, List.pairwise_append.mpr ⟨h.ch, by simp, fun x hx y hy => ?_⟩, fun x hx => ?_⟩
  · rcases List.mem_append.mp hx with hx | hx
    · exact h.fs x hx
    · simp at hx; subst hx; exact hb
  · simp at hy; subst hy
    rcases List.eq_nil_or_concat f with rfl | ⟨f', u, rfl⟩
    · simp at hx
    · rw [List.concat_eq_append] at *
      have hul := h.l u (by simp)
      rcases List.mem_append.mp hx with hx | hx
      · have a := (List.pairwise_append.mp h.ch).2.2 x hx u (by simp)
        have b := fit_more (h.fs u (by simp))
        have := (h.fs u (by simp)).on
        omega
      · simp at hx; subst hx; omega
  · simp at hx; subst hx; omega
theorem addFit_rest {M : Int} {f : List Bu} {b : Bu} (h : AddFit M (b.tick + b.on) f) (hb : b.fit M) : AddFit M b.end (f ++ b.rest.toList) := by
  cases e : b.rest with
  | none =>
    have hm := fit_more hb
    simp
    exact ⟨h.fs, h.ch, fun u hu => Int.le_trans (h.l u hu) (by omega)⟩
  | some r =>
    obtain ⟨h1, h2, h3⟩ := rest_fit hb e
    have := addFit_snoc h h1 h3
    rw [h2] at this
    simpa using this
theorem fstep_fit {M n t : Int} {z : Option Int × List Bu} {b : Bu} (h : AddFit M t z.2) (hb : b.fit M) (ht : t ≤ b.tick) : AddFit M b.end (fstep n z b).2 := by
  obtain ⟨hw, hwe, hwt⟩ := whole_fit (n := n) hb
  have hm := fit_more hw
  have hon := hw.on
  unfold fstep aheadOf
  simp only
  rw [← hwe]
  rw [← hwt] at ht
  generalize wholeB n b = w at *
  rcases z with ⟨u, f⟩
  simp only at *
  split
  · exact addFit_snoc h hw ht
  · rename_i e he
    split
    · exact addFit_snoc h hw ht
    · rcases List.eq_nil_or_concat f with rfl | ⟨f', x, rfl⟩
      · simp only [List.getLast?_nil]
        have := addFit_rest (f := []) (b := w) ⟨by simp, by simp, by simp⟩ hw
        simpa using this
      · rw [List.concat_eq_append] at *
        simp only [List.getLast?_append, List.getLast?_singleton, Option.some_or, List.dropLast_concat]
        have hx := h.fs x (by simp)
        have hxl := h.l x (by simp)
        have hxm := fit_more hx
        have hxon := hx.on
        obtain ⟨h1, h2⟩ := wlast_fit h
        have e1 : (⟨x.end - x.on, w.tick + w.on - (x.end - x.on), 0, 1⟩ : Bu).end = w.tick + w.on := by unfold Bu.end; simp only; omega
        have nf : (⟨x.end - x.on, w.tick + w.on - (x.end - x.on), 0, 1⟩ : Bu).fit M := ⟨⟨by simp, by simp⟩, by simp only; omega, by simp, h2, by rw [e1]; have := hw.hi; omega⟩
        have s1 := addFit_snoc h1 nf (by simp)
        rw [e1] at s1
        exact addFit_rest s1 hw
theorem fstep_len (n : Int) (z : Option Int × List Bu) (b : Bu) : (fstep n z b).2.length ≤ z.2.length + 2 := by
  have hr : ∀ r : Option Bu, r.toList.length ≤ 1 := fun r => by cases r <;> simp
  unfold fstep aheadOf
  simp only
  split
  · simp
  · split
    · simp
    · rcases z with ⟨u, f⟩
      rcases List.eq_nil_or_concat f with rfl | ⟨f', x, rfl⟩
      · simp only [List.getLast?_nil]; have := hr (wholeB n b).rest; simp; omega
      · rw [List.concat_eq_append]
        simp only [List.getLast?_append, List.getLast?_singleton, Option.some_or, List.dropLast_concat]
        have := hr (wholeB n b).rest
        have : (wlast f' x).length ≤ f'.length + 1 := by unfold wlast; split <;> simp
        simp; omega
end Law
end
section
set_option autoImplicit false
/-! Signals that are in order stay so. -/
namespace Law
open PySem PL
def AO : Tri := ⟨some 0, [], some 0⟩
structure ZF (M : Int) (z : Z) : Prop where
  runs : ∀ r ∈ z.2, RunOk M r
  pw : z.2.Pairwise fun x y => x.2 < y.1
  u : ∀ v, z.1 = some v → -M ≤ v ∧ v ≤ M ∧ ∀ r ∈ z.2, v < r.1
structure WF (M : Int) (t : Tri) : Prop where
  z : ZF M (t.u, t.R)
  s : ∀ w, t.s = some w → -M ≤ w ∧ w ≤ M ∧ ∀ r ∈ t.R, r.2 < w
  us : ∀ v w, t.u = some v → t.s = some w → v < w
theorem zf_snoc {M : Int} {u : Option Int} {l : List Run} {r : Run} : ZF M (u, l ++ [r]) ↔ ZF M (u, l) ∧ RunOk M r ∧ (∀ x ∈ l, x.2 < r.1) ∧ ∀ v, u = some v → v < r.1 := by
  constructor
  · intro h
    have hp := List.pairwise_append.mp h.pw
    exact ⟨⟨fun x hx => h.runs x (List.mem_append_left _ hx), hp.1, fun v hv => ⟨(h.u v hv).1, (h.u v hv).2.1, fun x hx => (h.u v hv).2.2 x (List.mem_append_left _ hx)⟩⟩, h.runs r (by simp), fun x hx => hp.2.2 x hx r (by simp), fun v hv => (h.u v hv).2.2 r (by simp)⟩
  · rintro ⟨h, h1, h2, h3⟩
    refine ⟨fun x hx => ?_, List.pairwise_append.mpr ⟨h.pw, by simp, fun x hx y hy => ?_⟩, fun v hv => ⟨(h.u v hv).1, (h.u v hv).2.1, fun x hx => ?_⟩⟩
    · rcases List.mem_append.mp hx with hx | hx
      · exact h.runs x hx
      · simp at hx; subst hx; exact h1
    · simp at hy; subst hy; exact h2 x hx
    · rcases List.mem_append.mp hx with hx | hx
      · exact (h.u v hv).2.2 x hx
      · simp at hx; subst hx; exact h3 v hv
theorem flR_zf {M n : Int} {z : Z} {r : Run} (h : ZF M z) (hr : RunOk M r) (ho : ∀ e, lastEnd z = some e → e < r.1) : ZF M (flR n z r) := by
  rcases z with ⟨u, l⟩
  have hl := hr.len
  have hlo := hr.lo
  have hhi := hr.hi
  rcases List.eq_nil_or_concat l with rfl | ⟨l', x, rfl⟩
  · cases u with
    | none => rw [flR_none]; exact ⟨by simp; exact hr, by simp, fun v hv => (nomatch hv)⟩
    | some e =>
      have := ho e rfl
      rw [flR_nil]
      split
      · exact ⟨by simp, by simp, fun v hv => by cases hv; exact ⟨by omega, by omega, by simp⟩⟩
      · have hu := h.u e rfl
        exact ⟨by simp; exact hr, by simp, fun v hv => by cases hv; exact ⟨hu.1, hu.2.1, by simp; omega⟩⟩
  · rw [List.concat_eq_append] at *
    have hx := ho x.2 (lastEnd_snoc _ _ _)
    obtain ⟨h1, h2, h3, h4⟩ := zf_snoc.mp h
    have hxl := h2.len
    rw [flR_snoc]
    split
    · exact zf_snoc.mpr ⟨h1, ⟨by simp only; omega, h2.lo, hhi⟩, h3, h4⟩
    · refine zf_snoc.mpr ⟨h, hr, fun y hy => ?_, fun v hv => ?_⟩
      · rcases List.mem_append.mp hy with hy | hy
        · have := h3 y hy; omega
        · simp at hy; subst hy; exact hx
      · have := h4 v hv; omega
theorem fl_zf {M n : Int} (rs : List Run) : ∀ z : Z, ZF M z → (∀ r ∈ rs, RunOk M r) → rs.Pairwise (fun x y => x.2 < y.1) → (∀ e, lastEnd z = some e → ∀ r ∈ rs, e < r.1) →
    ZF M (rs.foldl (flR n) z) ∧ ∀ w, (∀ e, lastEnd z = some e → e < w) → (∀ r ∈ rs, r.2 < w) → ∀ e, lastEnd (rs.foldl (flR n) z) = some e → e < w := by
  induction rs with
  | nil => intro z h _ _ _; exact ⟨h, fun w h _ => h⟩
  | cons r rs ih =>
    intro z h h1 h2 h3
    have hp := List.pairwise_cons.mp h2
    have hz := flR_zf (n := n) h (h1 r List.mem_cons_self) (fun e he => h3 e he r List.mem_cons_self)
    obtain ⟨a, b⟩ := ih (flR n z r) hz (fun x hx => h1 x (List.mem_cons_of_mem _ hx)) hp.2 (fun e he x hx => by rw [flR_last] at he; cases he; exact hp.1 x hx)
    exact ⟨a, fun w _ hw => b w (fun e he => by rw [flR_last] at he; cases he; exact hw r List.mem_cons_self) fun x hx => hw x (List.mem_cons_of_mem _ hx)⟩
theorem lastEnd_mem {z : Z} {e : Int} (h : lastEnd z = some e) : (z.2 = [] ∧ z.1 = some e) ∨ ∃ r ∈ z.2, r.2 = e := by
  rcases z with ⟨u, l⟩
  rcases List.eq_nil_or_concat l with rfl | ⟨l', x, rfl⟩
  · exact .inl ⟨rfl, h⟩
  · rw [List.concat_eq_append] at *
    rw [lastEnd_snoc] at h
    cases h
    exact .inr ⟨x, by simp, rfl⟩
theorem all_lt_last {M : Int} {z : Z} (h : ZF M z) {e : Int} (he : lastEnd z = some e) : ∀ r ∈ z.2, r.2 ≤ e := by
  rcases z with ⟨u, l⟩
  rcases List.eq_nil_or_concat l with rfl | ⟨l', x, rfl⟩
  · simp
  · rw [List.concat_eq_append] at *
    rw [lastEnd_snoc] at he
    cases he
    obtain ⟨_, h2, h3, _⟩ := zf_snoc.mp h
    have := h2.len
    intro r hr
    rcases List.mem_append.mp hr with hr | hr
    · have := h3 r hr; omega
    · simp at hr; subst hr; omega
theorem u_le_last {M : Int} {z : Z} (h : ZF M z) {e v : Int} (he : lastEnd z = some e) (hv : z.1 = some v) : v ≤ e := by
  rcases lastEnd_mem he with ⟨_, h2⟩ | ⟨r, hr, rfl⟩
  · rw [hv] at h2; cases h2; omega
  · have := (h.u v hv).2.2 r hr
    have := (h.runs r hr).len
    omega
theorem lastEnd_some {z : Z} {r : Run} (h : r ∈ z.2) : ∃ e, lastEnd z = some e := by
  rcases z with ⟨u, l⟩
  rcases List.eq_nil_or_concat l with rfl | ⟨l', x, rfl⟩
  · simp at h
  · rw [List.concat_eq_append]; exact ⟨_, lastEnd_snoc _ _ _⟩
theorem lastEnd_some' {u : Option Int} {l : List Run} {v : Int} (h : u = some v) : ∃ e, lastEnd (u, l) = some e := by
  rcases List.eq_nil_or_concat l with rfl | ⟨l', x, rfl⟩
  · exact ⟨v, h⟩
  · rw [List.concat_eq_append]; exact ⟨_, lastEnd_snoc _ _ _⟩
theorem fill_wf {M n : Int} {t : Tri} (h : WF M t) : WF M (fill n t) ∨ fill n t = AO := by
  have h0 : ZF M (t.u, []) := ⟨by simp, by simp, fun v hv => ⟨(h.z.u v hv).1, (h.z.u v hv).2.1, by simp⟩⟩
  obtain ⟨hz, hw⟩ := fl_zf (n := n) t.R (t.u, []) h0 h.z.runs h.z.pw (fun e he r hr => (h.z.u e he).2.2 r hr)
  unfold fill
  simp only
  have hs2 : ∀ w, t.s = some w → ∀ e, lastEnd (t.R.foldl (flR n) (t.u, [])) = some e → e < w := fun w hs => hw w (fun e he => h.us e w he hs) (fun r hr => (h.s w hs).2.2 r hr)
  generalize t.R.foldl (flR n) (t.u, []) = z at *
  have keep : WF M ⟨z.1, z.2, t.s⟩ := by
    refine ⟨hz, fun w hs => ⟨(h.s w hs).1, (h.s w hs).2.1, fun r hr => ?_⟩, fun v w hv hs => ?_⟩
    · obtain ⟨e, he⟩ := lastEnd_some hr
      have a := all_lt_last hz he r hr
      have b := hs2 w hs e he
      omega
    · obtain ⟨e, he⟩ := lastEnd_some' (l := z.2) hv
      have a := u_le_last hz he hv
      have b := hs2 w hs e he
      omega
  cases hs : t.s with
  | none => rw [hs] at keep; left; cases lastEnd z <;> exact keep
  | some w =>
    rw [hs] at keep
    cases he : lastEnd z with
    | none => exact .inl keep
    | some e =>
      simp only
      by_cases c : w - e ≤ n
      · rw [if_pos c]
        rcases z with ⟨u, l⟩
        rcases List.eq_nil_or_concat l with rfl | ⟨l', x, rfl⟩
        · exact .inr rfl
        · rw [List.concat_eq_append] at *
          left
          obtain ⟨h1, h2, h3, h4⟩ := zf_snoc.mp hz
          have := h2.len
          have := h2.lo
          have := h2.hi
          simp only [List.getLast?_append, List.getLast?_singleton, Option.some_or, List.dropLast_concat]
          exact ⟨h1, fun w' hw' => by cases hw'; exact ⟨by omega, by omega, h3⟩, fun v w' hv hw' => by cases hw'; exact h4 v hv⟩
      · rw [if_neg c]
        exact .inl keep
theorem drop_wf {M n : Int} {t : Tri} (h : WF M t) : WF M (drop n t) := by
  refine ⟨⟨fun r hr => h.z.runs r (List.mem_filter.mp hr).1, h.z.pw.filter _, fun v hv => ⟨(h.z.u v hv).1, (h.z.u v hv).2.1, fun r hr => (h.z.u v hv).2.2 r (List.mem_filter.mp hr).1⟩⟩, fun w hw => ⟨(h.s w hw).1, (h.s w hw).2.1, fun r hr => (h.s w hw).2.2 r (List.mem_filter.mp hr).1⟩, h.us⟩
theorem fill_AO {n : Int} (hn : 0 ≤ n) : fill n AO = AO := by
  unfold fill AO
  simp only [List.foldl_nil]
  have e : lastEnd (some 0, []) = some 0 := rfl
  simp [e, hn]
theorem drop_AO (n : Int) : drop n AO = AO := rfl
theorem wf_ok {M : Int} {t : Tri} (h : WF M t) : RunsOk M t.R := ⟨h.z.runs, h.z.pw.imp fun h => Int.le_of_lt h⟩
end Law
end
section
set_option autoImplicit false
namespace Law
open PySem PL
inductive Part | turn | on (k : Int) | off (k : Int) | delay (k : Int)
def Part.pv : Part → PV
  | .turn => .tup [.str "turn"]
  | .on k => .tup [.str "on", .int k]
  | .off k => .tup [.str "off", .int k]
  | .delay k => .tup [.str "delay", .int k]
def Part.up (t : Bool) : Part → Int
  | .on k => if t then -k else k
  | .off k => if t then k else -k
  | _ => 0
def Part.flip (t : Bool) : Part → Bool
  | .turn => !t
  | _ => t
abbrev pvs (row : List Part) : PV := .tup (row.map Part.pv)
/-- moves: the ticks of each part, whether it is turned -/
def mvStep (s : List Int × Bool) (p : Part) : List Int × Bool := (s.1 ++ [p.up (p.flip s.2)], p.flip s.2)
def mvs (row : List Part) : List Int × Bool := row.foldl mvStep ([], false)
theorem mvs_len (row : List Part) : ∀ s, (row.foldl mvStep s).1.length = s.1.length + row.length := by
  induction row with
  | nil => intro s; simp
  | cons p ps ih => intro s; simp [ih, mvStep]; omega
/-- heights -/
def htStep (s : List Int × Int) (m : Int) : List Int × Int := (s.1 ++ [s.2 + m], s.2 + m)
def hts (ms : List Int) : List Int := (ms.foldl htStep ([], 0)).1
theorem hts_len (ms : List Int) : ∀ s, (ms.foldl htStep s).1.length = s.1.length + ms.length := by
  induction ms with
  | nil => intro s; simp
  | cons p ps ih => intro s; simp [ih, htStep]; omega
/-- stages: drop true, fill false -/
abbrev Sg := Bool × Int
def Sg.pv (s : Sg) : PV := .tup [.str (if s.1 then "drop" else "fill" : String), .int s.2]
def ws (f : List Sg) (b : Bool) (n : Int) : List Sg := (if f.getLast?.map (·.1) = some b then f.dropLast else f) ++ [(b, n)]
theorem Sg_sm (s : Sg) (h : sml s.2) : (Sg.pv s).pd.sm = true := by
  have := log_sml h
  rcases s with ⟨b, n⟩
  cases b <;> simp [Sg.pv] <;> exact ⟨⟨by decide +kernel, by decide +kernel⟩, this⟩
theorem Sg_data (s : Sg) : (Sg.pv s).data = true := by simp [Sg.pv]
theorem Sg_dp (s : Sg) : (Sg.pv s).pd.depth = 1 := by simp [Sg.pv]
theorem Sg_wt (s : Sg) : (Sg.pv s).pd.wt = 3 := by simp [Sg.pv]
/-- stages beyond so high, so deep -/
structure SS where
  hi : Int
  de : Int
  st : List Sg
def stg (s : SS) (h : Int) : SS := if h > s.hi then ⟨h, s.de, ws s.st true h⟩ else if -h > s.de then ⟨s.hi, -h, ws s.st false (-h)⟩ else s
theorem ws_len (f : List Sg) (b : Bool) (n : Int) : (ws f b n).length ≤ f.length + 1 := by
  unfold ws; split <;> simp
theorem ws_mem {f : List Sg} {b : Bool} {n : Int} {s : Sg} (h : s ∈ ws f b n) : s ∈ f ∨ s = (b, n) := by
  unfold ws at h
  rw [List.mem_append] at h
  rcases h with h | h
  · left
    split at h
    · exact List.dropLast_subset _ h
    · exact h
  · right; simpa using h
theorem stg_fold (hs : List Int) : ∀ s : SS, (∀ h ∈ hs, sml h) → (∀ x ∈ s.st, sml x.2) → (hs.foldl stg s).st.length ≤ s.st.length + hs.length ∧ ∀ x ∈ (hs.foldl stg s).st, sml x.2 := by
  induction hs with
  | nil => intro s _ h; exact ⟨by simp, h⟩
  | cons h hs ih =>
    intro s h1 h2
    have h0 := h1 h List.mem_cons_self
    have step : (stg s h).st.length ≤ s.st.length + 1 ∧ ∀ x ∈ (stg s h).st, sml x.2 := by
      unfold stg
      split
      · refine ⟨ws_len _ _ _, fun x hx => ?_⟩
        rcases ws_mem hx with hx | rfl
        · exact h2 x hx
        · exact h0
      · split
        · refine ⟨ws_len _ _ _, fun x hx => ?_⟩
          rcases ws_mem hx with hx | rfl
          · exact h2 x hx
          · show (-h).natAbs < _; rw [Int.natAbs_neg]; exact h0
        · exact ⟨by omega, h2⟩
    obtain ⟨a, b⟩ := ih (stg s h) (fun x hx => h1 x (List.mem_cons_of_mem _ hx)) step.2
    exact ⟨by simp only [List.foldl_cons, List.length_cons]; omega, b⟩
abbrev stgs (row : List Part) (hi de : Int) : SS := (hts (mvs row).1).foldl stg ⟨hi, de, []⟩
theorem hts_len0 (ms : List Int) : (hts ms).length = ms.length := by unfold hts; rw [hts_len]; simp
theorem mvs_len0 (row : List Part) : (mvs row).1.length = row.length := by unfold mvs; rw [mvs_len]; simp
def Part.dl : Part → Option Int
  | .delay k => some k
  | _ => none
/-- late on, late off -/
def lateOn (row : List Part) : Int := (row.filterMap Part.dl).sum + ((mvs row).1.filter (· > 0)).sum
def lateOff (row : List Part) : Int := (row.filterMap Part.dl).sum - ((mvs row).1.filter (· < 0)).sum
def formP (row : List Part) (hi de : Int) : PV := .tup [.bl (mvs row).2, .int (lateOn row), .int (lateOff row), .tup ((stgs row hi de).st.map Sg.pv)]
def Part.num : Part → Int
  | .turn => 0
  | .on k => k
  | .off k => k
  | .delay k => k
def Part.ok (B : Int) (p : Part) : Prop := 0 ≤ p.num ∧ p.num ≤ B
structure W where
  at_ : Int
  hi : Int
  lo : Int
  l0 : Int
  l1 : Int
  t : Bool
  st : List Sg
def W.mv (s : W) : Part → W
  | .turn => { s with t := !s.t }
  | .delay k => { s with l0 := s.l0 + k, l1 := s.l1 + k }
  | .on k => if s.t then { s with at_ := s.at_ - k, l1 := s.l1 + k } else { s with at_ := s.at_ + k, l0 := s.l0 + k }
  | .off k => if s.t then { s with at_ := s.at_ + k, l0 := s.l0 + k } else { s with at_ := s.at_ - k, l1 := s.l1 + k }
def W.upH (s : W) : W := if s.at_ > s.hi then { s with hi := s.at_, st := ws s.st true s.at_ } else s
def W.upL (s : W) : W := if s.at_ < s.lo then { s with lo := s.at_, st := ws s.st false (-s.at_) } else s
def wk (s : W) (p : Part) : W := (s.mv p).upH.upL
structure W.ok (b : Nat) (n : Nat) (s : W) : Prop where
  at_ : s.at_.natAbs ≤ b
  st : ∀ x ∈ s.st, x.2.natAbs ≤ b
  len : s.st.length ≤ n
theorem mv_ok {b n : Nat} {B : Nat} {s : W} {p : Part} (h : s.ok b n) (hp : p.ok B) : (s.mv p).ok (b + B) n := by
  have ha := h.at_
  have hs : ∀ x ∈ s.st, x.2.natAbs ≤ b + B := fun x hx => by have := h.st x hx; omega
  have h1 := hp.1
  have h2 := hp.2
  cases p with
  | turn => exact ⟨by simp [W.mv]; omega, hs, h.len⟩
  | delay k => exact ⟨by simp [W.mv]; omega, hs, h.len⟩
  | on k =>
    simp only [Part.num] at h1 h2
    simp only [W.mv]
    split <;> exact ⟨by simp; omega, hs, h.len⟩
  | off k =>
    simp only [Part.num] at h1 h2
    simp only [W.mv]
    split <;> exact ⟨by simp; omega, hs, h.len⟩
theorem upH_ok {b n : Nat} {s : W} (h : s.ok b n) : s.upH.ok b (n + 1) := by
  unfold W.upH
  split
  · exact ⟨h.at_, fun x hx => by
      rcases ws_mem hx with hx | rfl
      · exact h.st x hx
      · exact h.at_, by have := ws_len s.st true s.at_; have := h.len; simp; omega⟩
  · exact ⟨h.at_, h.st, by have := h.len; omega⟩
theorem upL_ok {b n : Nat} {s : W} (h : s.ok b n) : s.upL.ok b (n + 1) := by
  unfold W.upL
  split
  · exact ⟨h.at_, fun x hx => by
      rcases ws_mem hx with hx | rfl
      · exact h.st x hx
      · show (-s.at_).natAbs ≤ b; rw [Int.natAbs_neg]; exact h.at_, by have := ws_len s.st false (-s.at_); have := h.len; simp; omega⟩
  · exact ⟨h.at_, h.st, by have := h.len; omega⟩
theorem wk_ok {b n : Nat} {B : Nat} {s : W} {p : Part} (h : s.ok b n) (hp : p.ok B) : (wk s p).ok (b + B) (n + 2) := upL_ok (upH_ok (mv_ok h hp))
def W0 : W := ⟨0, 0, 0, 0, 0, false, []⟩
abbrev wks (row : List Part) : W := row.foldl wk W0
theorem wks_ok {B : Nat} (row : List Part) (h : ∀ p ∈ row, p.ok B) : ∀ (s : W) (b n : Nat), s.ok b n → (row.foldl wk s).ok (b + B * row.length) (n + 2 * row.length) := by
  induction row with
  | nil => intro s b n h; simpa using h
  | cons p ps ih =>
    intro s b n hs
    have := ih (fun q hq => h q (List.mem_cons_of_mem _ hq)) _ _ _ (wk_ok hs (h p List.mem_cons_self))
    simp only [List.foldl_cons, List.length_cons, Nat.mul_add, Nat.mul_one]
    have e1 : b + B + B * ps.length = b + (B * ps.length + B) := by omega
    have e2 : n + 2 + 2 * ps.length = n + (2 * ps.length + 2) := by omega
    rw [e1, e2] at this
    exact this
def Wfd (row : List Part) (i : Nat) : List Int := (List.range i).map fun j => (wks (row.take (j + 1))).at_
def foundL (row : List Part) : List Int := Wfd row row.length
def shapeP (s : W) : PV := .tup [.bl s.t, .int s.l0, .int s.l1, .tup (s.st.map Sg.pv)]
theorem wks_snoc (l : List Part) (x : Part) : wks (l ++ [x]) = wk (wks l) x := by unfold wks; rw [List.foldl_append]; rfl
theorem Wfd_snoc (row : List Part) (i : Nat) (x : Part) (hx : row[i]? = some x) : Wfd row (i + 1) = Wfd row i ++ [(wk (wks (row.take i)) x).at_] := by
  unfold Wfd
  rw [List.range_succ, List.map_append]
  simp only [List.map_cons, List.map_nil]
  rw [take_succ' hx, wks_snoc]
/-! the walk in single ticks -/
structure W.inv (s : W) : Prop where
  h : s.at_ ≤ s.hi
  l : s.lo ≤ s.at_
theorem W0_inv : W0.inv := ⟨by simp [W0], by simp [W0]⟩
theorem upHL_inv (s : W) : s.upH.upL.inv := by
  have h1 : s.upH.at_ ≤ s.upH.hi := by
    unfold W.upH
    by_cases c : s.at_ > s.hi
    · rw [if_pos c]; exact Int.le_refl _
    · rw [if_neg c]; omega
  generalize s.upH = z at *
  unfold W.upL
  by_cases c : z.at_ < z.lo
  · rw [if_pos c]; exact ⟨h1, Int.le_refl _⟩
  · rw [if_neg c]; exact ⟨h1, by omega⟩
theorem wk_inv (s : W) (p : Part) : (wk s p).inv := upHL_inv _
theorem up_noop {s : W} (h : s.inv) : s.upH.upL = s := by
  have := h.h
  have := h.l
  have e1 : s.upH = s := by unfold W.upH; rw [if_neg (by omega)]
  rw [e1]; unfold W.upL; rw [if_neg (by omega)]
theorem ws_ws (f : List Sg) (b : Bool) (x y : Int) : ws (ws f b x) b y = ws f b y := by
  unfold ws
  simp
def W.U (s : W) (k : Int) : W := if s.at_ + k > s.hi then { s with at_ := s.at_ + k, l0 := s.l0 + k, hi := s.at_ + k, st := ws s.st true (s.at_ + k) } else { s with at_ := s.at_ + k, l0 := s.l0 + k }
def W.D (s : W) (k : Int) : W := if s.at_ - k < s.lo then { s with at_ := s.at_ - k, l1 := s.l1 + k, lo := s.at_ - k, st := ws s.st false (-(s.at_ - k)) } else { s with at_ := s.at_ - k, l1 := s.l1 + k }
theorem U_eq {s : W} (h : s.inv) {k : Int} (hk : 0 ≤ k) : ({ s with at_ := s.at_ + k, l0 := s.l0 + k } : W).upH.upL = s.U k := by
  have h1 := h.h
  have h2 := h.l
  unfold W.upH W.upL W.U
  by_cases c : s.at_ + k > s.hi <;> simp [c] <;> omega
theorem D_eq {s : W} (h : s.inv) {k : Int} (hk : 0 ≤ k) : ({ s with at_ := s.at_ - k, l1 := s.l1 + k } : W).upH.upL = s.D k := by
  have h1 := h.h
  have h2 := h.l
  have c1 : ¬ (s.at_ - k > s.hi) := by omega
  unfold W.upH W.upL W.D
  by_cases c : s.at_ - k < s.lo <;> simp [c, c1]
theorem U_inv {s : W} (h : s.inv) {k : Int} (hk : 0 ≤ k) : (s.U k).inv := by rw [← U_eq h hk]; exact upHL_inv _
theorem D_inv {s : W} (h : s.inv) {k : Int} (hk : 0 ≤ k) : (s.D k).inv := by rw [← D_eq h hk]; exact upHL_inv _
theorem U_add (s : W) {a b : Int} (ha : 0 ≤ a) (hb : 0 ≤ b) : (s.U a).U b = s.U (a + b) := by
  unfold W.U
  by_cases c1 : s.at_ + a > s.hi
  · have c3 : s.at_ + (a + b) > s.hi := by omega
    by_cases c2 : b > 0
    · have c4 : s.at_ + (a + b) > s.at_ + a := by omega
      simp only [if_pos c1, if_pos c3, if_pos c4, ws_ws, Int.add_assoc]
    · have e : b = 0 := by omega
      subst e
      simp [c1]
  · by_cases c2 : s.at_ + (a + b) > s.hi
    · simp only [if_neg c1, if_pos c2, Int.add_assoc]
    · simp only [if_neg c1, if_neg c2, Int.add_assoc]
theorem D_add (s : W) {a b : Int} (ha : 0 ≤ a) (hb : 0 ≤ b) : (s.D a).D b = s.D (a + b) := by
  have e0 : s.at_ - a - b = s.at_ - (a + b) := by omega
  unfold W.D
  by_cases c1 : s.at_ - a < s.lo
  · have c3 : s.at_ - (a + b) < s.lo := by omega
    by_cases c2 : b > 0
    · have c4 : s.at_ - (a + b) < s.at_ - a := by omega
      simp only [if_pos c1, if_pos c3, if_pos c4, ws_ws, Int.add_assoc, e0]
    · have e : b = 0 := by omega
      subst e
      simp [c1]
  · by_cases c2 : s.at_ - (a + b) < s.lo
    · simp only [if_neg c1, if_pos c2, Int.add_assoc, e0]
    · simp only [if_neg c1, if_neg c2, Int.add_assoc, e0]
theorem U_zero {s : W} (h : s.inv) : s.U 0 = s := by
  have := h.h
  unfold W.U
  rw [if_neg (by omega)]; simp
theorem D_zero {s : W} (h : s.inv) : s.D 0 = s := by
  have := h.l
  unfold W.D
  rw [if_neg (by omega)]; simp
theorem U_t (s : W) (k : Int) : (s.U k).t = s.t := by unfold W.U; split <;> rfl
theorem D_t (s : W) (k : Int) : (s.D k).t = s.t := by unfold W.D; split <;> rfl
theorem wk_on {s : W} (h : s.inv) {k : Int} (hk : 0 ≤ k) : wk s (.on k) = if s.t then s.D k else s.U k := by
  simp only [wk, W.mv]
  by_cases ht : s.t = true
  · rw [if_pos ht, if_pos ht]; exact D_eq h hk
  · rw [if_neg ht, if_neg ht]; exact U_eq h hk
theorem wk_off {s : W} (h : s.inv) {k : Int} (hk : 0 ≤ k) : wk s (.off k) = if s.t then s.U k else s.D k := by
  simp only [wk, W.mv]
  by_cases ht : s.t = true
  · rw [if_pos ht, if_pos ht]; exact U_eq h hk
  · rw [if_neg ht, if_neg ht]; exact D_eq h hk
theorem wk_turn {s : W} (h : s.inv) : wk s .turn = { s with t := !s.t } := up_noop (s := { s with t := !s.t }) ⟨h.h, h.l⟩
theorem wk_delay {s : W} (h : s.inv) (k : Int) : wk s (.delay k) = { s with l0 := s.l0 + k, l1 := s.l1 + k } := up_noop (s := { s with l0 := s.l0 + k, l1 := s.l1 + k }) ⟨h.h, h.l⟩
/-- a part in ticks -/
def ticks : Part → List Part
  | .turn => [.turn]
  | .on k => List.replicate k.toNat (.on 1) ++ [.on 0]
  | .off k => List.replicate k.toNat (.off 1) ++ [.off 0]
  | .delay k => List.replicate k.toNat (.delay 1) ++ [.delay 0]
theorem reps (mk : Int → Part) (hadd : ∀ (s : W) (a b : Int), s.inv → 0 ≤ a → 0 ≤ b → wk (wk s (mk a)) (mk b) = wk s (mk (a + b))) (h0 : ∀ s : W, s.inv → wk s (mk 0) = s) (n : Nat) :
    ∀ s : W, s.inv → (List.replicate n (mk 1)).foldl wk s = wk s (mk n) := by
  induction n with
  | zero => intro s hs; simp [h0 s hs]
  | succ n ih =>
    intro s hs
    rw [List.replicate_succ, List.foldl_cons, ih _ (wk_inv _ _), hadd s 1 n hs (by omega) (by omega)]
    congr 2
    omega
theorem on_add (s : W) (a b : Int) (hs : s.inv) (ha : 0 ≤ a) (hb : 0 ≤ b) : wk (wk s (.on a)) (.on b) = wk s (.on (a + b)) := by
  rw [wk_on (wk_inv _ _) hb, wk_on hs ha, wk_on hs (by omega)]
  cases ht : s.t <;> simp [U_t, D_t, ht, U_add s ha hb, D_add s ha hb]
theorem off_add (s : W) (a b : Int) (hs : s.inv) (ha : 0 ≤ a) (hb : 0 ≤ b) : wk (wk s (.off a)) (.off b) = wk s (.off (a + b)) := by
  rw [wk_off (wk_inv _ _) hb, wk_off hs ha, wk_off hs (by omega)]
  cases ht : s.t <;> simp [U_t, D_t, ht, U_add s ha hb, D_add s ha hb]
theorem delay_add (s : W) (a b : Int) (hs : s.inv) : wk (wk s (.delay a)) (.delay b) = wk s (.delay (a + b)) := by
  rw [wk_delay (wk_inv _ _) b, wk_delay hs a, wk_delay hs]
  simp [Int.add_assoc]
theorem ticks_eq {s : W} (hs : s.inv) {p : Part} (hp : 0 ≤ p.num) : (ticks p).foldl wk s = wk s p := by
  cases p with
  | turn => rfl
  | on k =>
    simp only [Part.num] at hp
    have e : ((k.toNat : Nat) : Int) = k := by omega
    rw [ticks, List.foldl_append, reps .on on_add (fun s h => by rw [wk_on h (by omega)]; cases ht : s.t <;> simp [U_zero h, D_zero h]) _ s hs, e]
    simp only [List.foldl_cons, List.foldl_nil]
    rw [on_add s k 0 hs hp (by omega)]; simp
  | off k =>
    simp only [Part.num] at hp
    have e : ((k.toNat : Nat) : Int) = k := by omega
    rw [ticks, List.foldl_append, reps .off off_add (fun s h => by rw [wk_off h (by omega)]; cases ht : s.t <;> simp [U_zero h, D_zero h]) _ s hs, e]
    simp only [List.foldl_cons, List.foldl_nil]
    rw [off_add s k 0 hs hp (by omega)]; simp
  | delay k =>
    simp only [Part.num] at hp
    have e : ((k.toNat : Nat) : Int) = k := by omega
    rw [ticks, List.foldl_append, reps .delay (fun s a b h _ _ => delay_add s a b h) (fun s h => by rw [wk_delay h]; simp) _ s hs, e]
    simp only [List.foldl_cons, List.foldl_nil]
    rw [delay_add s k 0 hs]; simp
def ticksL (row : List Part) : List Part := row.flatMap ticks
theorem fold_inv (row : List Part) : ∀ s : W, s.inv → (row.foldl wk s).inv := by
  induction row with
  | nil => intro s h; exact h
  | cons p ps ih => intro s h; exact ih _ (wk_inv _ _)
theorem ticksL_eq (row : List Part) (h : ∀ p ∈ row, 0 ≤ p.num) : ∀ s : W, s.inv → (ticksL row).foldl wk s = row.foldl wk s := by
  induction row with
  | nil => intro s _; rfl
  | cons p ps ih =>
    intro s hs
    unfold ticksL at *
    rw [List.flatMap_cons, List.foldl_append, ticks_eq hs (h p List.mem_cons_self)]
    exact ih (fun q hq => h q (List.mem_cons_of_mem _ hq)) _ (wk_inv _ _)
/-! straight rows -/
def stStep (s : List Part × Bool) (p : Part) : List Part × Bool := match p with
  | .turn => (s.1, !s.2)
  | .delay k => (s.1 ++ [.delay k], s.2)
  | .on k => (s.1 ++ [if s.2 then .off k else .on k], s.2)
  | .off k => (s.1 ++ [if s.2 then .on k else .off k], s.2)
def strt (row : List Part) : List Part × Bool := row.foldl stStep ([], false)
def W.core (s : W) : W := { s with t := false }
theorem core_inv {s : W} (h : s.inv) : s.core.inv := ⟨h.h, h.l⟩
theorem core_U (s : W) (k : Int) : (s.U k).core = s.core.U k := by
  unfold W.U W.core; by_cases c : s.at_ + k > s.hi <;> simp [c]
theorem core_D (s : W) (k : Int) : (s.D k).core = s.core.D k := by
  unfold W.D W.core; by_cases c : s.at_ - k < s.lo <;> simp [c]
theorem strs_eq (row : List Part) (h : ∀ p ∈ row, 0 ≤ p.num) : ∀ (s : W) (z : List Part × Bool), s.inv → wks z.1 = s.core → z.2 = s.t → wks (row.foldl stStep z).1 = (row.foldl wk s).core ∧ (row.foldl stStep z).2 = (row.foldl wk s).t := by
  induction row with
  | nil => intro s z _ h1 h2; exact ⟨h1, h2⟩
  | cons p ps ih =>
    intro s z hs h1 h2
    rw [List.foldl_cons, List.foldl_cons]
    refine ih (fun q hq => h q (List.mem_cons_of_mem _ hq)) _ _ (wk_inv _ _) ?_ ?_
    · have hp := h p List.mem_cons_self
      cases p with
      | turn => rw [wk_turn hs]; exact h1
      | delay k => simp only [stStep]; rw [wks_snoc, h1, wk_delay hs, wk_delay (core_inv hs)]; rfl
      | on k =>
        simp only [stStep]
        simp only [Part.num] at hp
        rw [wks_snoc, h1, h2, wk_on hs hp]
        cases ht : s.t
        · simp only [Bool.false_eq_true, if_false]; rw [wk_on (core_inv hs) hp, core_U]; rfl
        · simp only [if_true]; rw [wk_off (core_inv hs) hp, core_D]; rfl
      | off k =>
        simp only [stStep]
        simp only [Part.num] at hp
        rw [wks_snoc, h1, h2, wk_off hs hp]
        cases ht : s.t
        · simp only [Bool.false_eq_true, if_false]; rw [wk_off (core_inv hs) hp, core_D]; rfl
        · simp only [if_true]; rw [wk_on (core_inv hs) hp, core_U]; rfl
    · have hp := h p List.mem_cons_self
      cases p with
      | turn => rw [wk_turn hs]; simp [stStep, h2]
      | delay k => rw [wk_delay hs]; simp [stStep, h2]
      | on k => simp only [Part.num] at hp; rw [wk_on hs hp]; cases ht : s.t <;> simp [stStep, h2, U_t, D_t, ht]
      | off k => simp only [Part.num] at hp; rw [wk_off hs hp]; cases ht : s.t <;> simp [stStep, h2, U_t, D_t, ht]
/-! the program's form is the walk's -/
theorem mvs_snoc (l : List Part) (p : Part) : mvs (l ++ [p]) = ((mvs l).1 ++ [p.up (p.flip (mvs l).2)], p.flip (mvs l).2) := by
  unfold mvs; rw [List.foldl_append]; rfl
theorem hts_snoc (l : List Int) (x : Int) : hts (l ++ [x]) = hts l ++ [(l.foldl htStep ([], 0)).2 + x] := by
  unfold hts; rw [List.foldl_append]; rfl
theorem hts_last (l : List Int) (x : Int) : ((l ++ [x]).foldl htStep ([], 0)).2 = (l.foldl htStep ([], 0)).2 + x := by
  rw [List.foldl_append]; rfl
structure Same (row : List Part) (s : W) : Prop where
  t : (mvs row).2 = s.t
  a : ((mvs row).1.foldl htStep ([], 0)).2 = s.at_
  st : (hts (mvs row).1).foldl stg ⟨0, 0, []⟩ = ⟨s.hi, -s.lo, s.st⟩
  on : lateOn row = s.l0
  off : lateOff row = s.l1
theorem dls_snoc (l : List Part) (p : Part) : ((l ++ [p]).filterMap Part.dl).sum = (l.filterMap Part.dl).sum + (p.dl.getD 0) := by
  rw [List.filterMap_append]
  cases p <;> simp [Part.dl, List.filterMap_cons]
theorem pos_snoc (l : List Int) (x : Int) : ((l ++ [x]).filter (· > 0)).sum = (l.filter (· > 0)).sum + (if x > 0 then x else 0) := by
  rw [List.filter_append]
  by_cases h : x > 0 <;> simp [h]
theorem neg_snoc (l : List Int) (x : Int) : ((l ++ [x]).filter (· < 0)).sum = (l.filter (· < 0)).sum + (if x < 0 then x else 0) := by
  rw [List.filter_append]
  by_cases h : x < 0 <;> simp [h]
theorem stg_eq {s : W} (h : s.inv) (m : Int) (a b : Int) (t : Bool) : stg ⟨s.hi, -s.lo, s.st⟩ (s.at_ + m) = ⟨({ s with at_ := s.at_ + m, l0 := a, l1 := b, t := t } : W).upH.upL.hi, -({ s with at_ := s.at_ + m, l0 := a, l1 := b, t := t } : W).upH.upL.lo, ({ s with at_ := s.at_ + m, l0 := a, l1 := b, t := t } : W).upH.upL.st⟩ := by
  have h1 := h.h
  have h2 := h.l
  unfold stg
  by_cases c1 : s.at_ + m > s.hi
  · have e1 : ({ s with at_ := s.at_ + m, l0 := a, l1 := b, t := t } : W).upH = { s with at_ := s.at_ + m, l0 := a, l1 := b, t := t, hi := s.at_ + m, st := ws s.st true (s.at_ + m) } := by unfold W.upH; rw [if_pos c1]
    have c2 : ¬ (s.at_ + m < s.lo) := by omega
    rw [if_pos c1, e1]
    unfold W.upL
    rw [if_neg c2]
  · have e1 : ({ s with at_ := s.at_ + m, l0 := a, l1 := b, t := t } : W).upH = { s with at_ := s.at_ + m, l0 := a, l1 := b, t := t } := by unfold W.upH; rw [if_neg c1]
    rw [if_neg c1, e1]
    unfold W.upL
    by_cases c2 : s.at_ + m < s.lo
    · have c3 : -(s.at_ + m) > -s.lo := by omega
      rw [if_pos c2, if_pos c3]
    · have c3 : ¬ (-(s.at_ + m) > -s.lo) := by omega
      rw [if_neg c2, if_neg c3]
theorem same_snoc {row : List Part} {s : W} (h : Same row s) (hs : s.inv) {p : Part} (hp : 0 ≤ p.num) : Same (row ++ [p]) (wk s p) := by
  have key : ∀ (m a b : Int) (t : Bool), wk s p = ({ s with at_ := s.at_ + m, l0 := a, l1 := b, t := t } : W).upH.upL → p.flip s.t = t → p.up t = m → lateOn (row ++ [p]) = a → lateOff (row ++ [p]) = b → Same (row ++ [p]) (wk s p) := by
    intro m a b t e e1 e2 e3 e4
    have g := stg_eq hs m a b t
    have f1 : ∀ z : W, z.upH.upL.at_ = z.at_ := by
      intro z; unfold W.upH W.upL; by_cases c1 : z.at_ > z.hi
      · simp only [if_pos c1]; split <;> rfl
      · simp only [if_neg c1]; split <;> rfl
    have f2 : ∀ z : W, z.upH.upL.t = z.t := by
      intro z; unfold W.upH W.upL; by_cases c1 : z.at_ > z.hi
      · simp only [if_pos c1]; split <;> rfl
      · simp only [if_neg c1]; split <;> rfl
    have f3 : ∀ z : W, z.upH.upL.l0 = z.l0 := by
      intro z; unfold W.upH W.upL; by_cases c1 : z.at_ > z.hi
      · simp only [if_pos c1]; split <;> rfl
      · simp only [if_neg c1]; split <;> rfl
    have f4 : ∀ z : W, z.upH.upL.l1 = z.l1 := by
      intro z; unfold W.upH W.upL; by_cases c1 : z.at_ > z.hi
      · simp only [if_pos c1]; split <;> rfl
      · simp only [if_neg c1]; split <;> rfl
    rw [e]
    constructor
    · rw [mvs_snoc, f2, h.t, e1]
    · rw [mvs_snoc, f1, h.t, e1, e2]; simp only; rw [hts_last, h.a]
    · rw [mvs_snoc, h.t, e1, e2]; simp only; rw [hts_snoc, List.foldl_append, h.st, h.a]; exact g
    · rw [f3]; exact e3
    · rw [f4]; exact e4
  have l1 : lateOn (row ++ [p]) = s.l0 + p.dl.getD 0 + (if p.up (p.flip s.t) > 0 then p.up (p.flip s.t) else 0) := by
    rw [← h.on, ← h.t]; unfold lateOn
    rw [dls_snoc, mvs_snoc]; simp only; rw [pos_snoc]; omega
  have l2 : lateOff (row ++ [p]) = s.l1 + p.dl.getD 0 - (if p.up (p.flip s.t) < 0 then p.up (p.flip s.t) else 0) := by
    rw [← h.off, ← h.t]; unfold lateOff
    rw [dls_snoc, mvs_snoc]; simp only; rw [neg_snoc]; omega
  cases p with
  | turn => exact key 0 s.l0 s.l1 (!s.t) (by simp [wk, W.mv]) rfl rfl (by rw [l1]; simp [Part.up, Part.dl]) (by rw [l2]; simp [Part.up, Part.dl])
  | delay k => exact key 0 (s.l0 + k) (s.l1 + k) s.t (by simp [wk, W.mv]) rfl rfl (by rw [l1]; simp [Part.up, Part.dl]) (by rw [l2]; simp [Part.up, Part.dl])
  | on k =>
    simp only [Part.num] at hp
    cases ht : s.t
    · refine key k (s.l0 + k) s.l1 false (by simp [wk, W.mv, ht]) ht rfl ?_ ?_
      · rw [l1, ht]; simp only [Part.up, Part.dl, Part.flip]; simp; omega
      · rw [l2, ht]; simp only [Part.up, Part.dl, Part.flip]; simp; omega
    · refine key (-k) s.l0 (s.l1 + k) true (by simp [wk, W.mv, ht, Int.sub_eq_add_neg]) ht rfl ?_ ?_
      · rw [l1, ht]; simp only [Part.up, Part.dl, Part.flip]; simp; omega
      · rw [l2, ht]; simp only [Part.up, Part.dl, Part.flip]; simp; omega
  | off k =>
    simp only [Part.num] at hp
    cases ht : s.t
    · refine key (-k) s.l0 (s.l1 + k) false (by simp [wk, W.mv, ht, Int.sub_eq_add_neg]) ht rfl ?_ ?_
      · rw [l1, ht]; simp only [Part.up, Part.dl, Part.flip]; simp; omega
      · rw [l2, ht]; simp only [Part.up, Part.dl, Part.flip]; simp; omega
    · refine key k (s.l0 + k) s.l1 true (by simp [wk, W.mv, ht]) ht rfl ?_ ?_
      · rw [l1, ht]; simp only [Part.up, Part.dl, Part.flip]; simp; omega
      · rw [l2, ht]; simp only [Part.up, Part.dl, Part.flip]; simp; omega
theorem rev_ind {α : Type} {P : List α → Prop} (h0 : P []) (hs : ∀ l x, P l → P (l ++ [x])) : ∀ l, P l := by
  intro l
  have : ∀ n (l : List α), l.length = n → P l := by
    intro n
    induction n with
    | zero => intro l h; rw [List.length_eq_zero_iff.mp h]; exact h0
    | succ n ih =>
      intro l h
      rcases List.eq_nil_or_concat l with rfl | ⟨l', x, rfl⟩
      · exact h0
      · rw [List.concat_eq_append] at h ⊢
        exact hs _ _ (ih l' (by simp at h; exact h))
  exact this _ l rfl
theorem same_all (row : List Part) : (∀ p ∈ row, 0 ≤ p.num) → Same row (wks row) := by
  induction row using rev_ind with
  | h0 => intro _; exact ⟨rfl, rfl, rfl, rfl, rfl⟩
  | hs l x ih =>
    intro h
    rw [wks_snoc]
    exact same_snoc (ih fun p hp => h p (List.mem_append_left _ hp)) (fold_inv _ _ W0_inv) (h x (List.mem_append_right _ (by simp)))
theorem form_shape {row : List Part} (h : ∀ p ∈ row, 0 ≤ p.num) : formP row 0 0 = shapeP (wks row) := by
  have s := same_all row h
  unfold formP shapeP
  rw [s.t, s.on, s.off]
  unfold stgs
  rw [s.st]
theorem stgs_shape {row : List Part} (h : ∀ p ∈ row, 0 ≤ p.num) : (stgs row 0 0).st = (wks row).st := by
  unfold stgs
  rw [(same_all row h).st]
theorem take_ok {row : List Part} (h : ∀ p ∈ row, 0 ≤ p.num) (i : Nat) : ∀ p ∈ row.take i, 0 ≤ p.num := fun p hp => h p (List.mem_of_mem_take hp)
theorem hts_found (row : List Part) (h : ∀ p ∈ row, 0 ≤ p.num) : hts (mvs row).1 = foundL row := by
  have : ∀ i, i ≤ row.length → hts (mvs (row.take i)).1 = Wfd row i := by
    intro i
    induction i with
    | zero => intro _; rfl
    | succ i ih =>
      intro hi
      have hx : row[i]? = some row[i] := List.getElem?_eq_getElem (by omega)
      rw [Wfd_snoc row i _ hx, ← ih (by omega), take_succ' hx, mvs_snoc]
      simp only
      rw [hts_snoc]
      have a1 := (same_all _ (take_ok h i)).a
      have a2 := (same_all _ (take_ok h (i + 1))).a
      rw [take_succ' hx, mvs_snoc, wks_snoc] at a2
      simp only at a2
      rw [hts_last] at a2
      rw [a2]
  have := this row.length (Nat.le_refl _)
  rwa [List.take_length] at this
theorem straight_shape {row : List Part} (h : ∀ p ∈ row, 0 ≤ p.num) : wks (strt row).1 = (wks row).core := (strs_eq row h W0 ([], false) W0_inv rfl rfl).1
theorem strs_ok {row : List Part} {B : Int} (h : ∀ p ∈ row, p.ok B) : ∀ p ∈ (strt row).1, p.ok B := by
  have : ∀ (row : List Part) (z : List Part × Bool), (∀ p ∈ row, p.ok B) → (∀ p ∈ z.1, p.ok B) → ∀ p ∈ (row.foldl stStep z).1, p.ok B := by
    intro row
    induction row with
    | nil => intro z _ h; exact h
    | cons p ps ih =>
      intro z h1 h2
      refine ih _ (fun q hq => h1 q (List.mem_cons_of_mem _ hq)) ?_
      have hp := h1 p List.mem_cons_self
      cases p with
      | turn => exact h2
      | delay k => intro q hq; rcases List.mem_append.mp hq with hq | hq; exact h2 q hq; simp at hq; subst hq; exact hp
      | on k => intro q hq; rcases List.mem_append.mp hq with hq | hq; exact h2 q hq; simp at hq; subst hq; cases z.2 <;> exact hp
      | off k => intro q hq; rcases List.mem_append.mp hq with hq | hq; exact h2 q hq; simp at hq; subst hq; cases z.2 <;> exact hp
  exact this row _ h (by simp)
theorem strs_len (row : List Part) : (strt row).1.length ≤ row.length := by
  have : ∀ (row : List Part) (z : List Part × Bool), (row.foldl stStep z).1.length ≤ z.1.length + row.length := by
    intro row
    induction row with
    | nil => intro z; simp
    | cons p ps ih =>
      intro z
      have := ih (stStep z p)
      have h2 : (stStep z p).1.length ≤ z.1.length + 1 := by cases p <;> simp [stStep]
      simp only [List.foldl_cons, List.length_cons]
      omega
  have := this row ([], false)
  simp at this
  exact this
theorem pv_turn : Part.pv .turn = .tup [.str "turn"] := rfl
theorem pv_on (k : Int) : Part.pv (.on k) = .tup [.str "on", .int k] := rfl
theorem pv_off (k : Int) : Part.pv (.off k) = .tup [.str "off", .int k] := rfl
theorem pv_delay (k : Int) : Part.pv (.delay k) = .tup [.str "delay", .int k] := rfl
theorem num_turn : Part.num .turn = 0 := rfl
theorem num_on (k : Int) : Part.num (.on k) = k := rfl
theorem num_off (k : Int) : Part.num (.off k) = k := rfl
theorem num_delay (k : Int) : Part.num (.delay k) = k := rfl
end Law
end
section
set_option autoImplicit false
/-! Signals as flips: whether it is on at first, and the ticks at which it turns. -/
namespace Law
open PySem PL
abbrev Fl := Bool × List Int
/-- what is taken out: each first and second, if no further apart -/
def rm (n : Int) : List Int → List Int
  | [] => []
  | [a] => [a]
  | a :: b :: l => if b - a ≤ n then rm n l else a :: b :: rm n l
def rm' (n : Int) : List Int → List Int
  | [] => []
  | v :: l => v :: rm n l
def sh (a b : Int) : List Int → List Int
  | [] => []
  | x :: l => (x + a) :: sh b a l
def fD (n : Int) (x : Fl) : Fl := (x.1, if x.1 then rm' n x.2 else rm n x.2)
def fF (n : Int) (x : Fl) : Fl := (x.1, if x.1 then rm n x.2 else rm' n x.2)
def fM (a b : Int) (x : Fl) : Fl := (x.1, if x.1 then sh b a x.2 else sh a b x.2)
def fT (x : Fl) : Fl := (!x.1, x.2)
theorem fD_T (n : Int) (x : Fl) : fD n (fT x) = fT (fF n x) := by rcases x with ⟨b, l⟩; cases b <;> rfl
theorem fF_T (n : Int) (x : Fl) : fF n (fT x) = fT (fD n x) := by rcases x with ⟨b, l⟩; cases b <;> rfl
theorem fM_T (a b : Int) (x : Fl) : fM a b (fT x) = fT (fM b a x) := by rcases x with ⟨c, l⟩; cases c <;> rfl
theorem fT_T (x : Fl) : fT (fT x) = x := by rcases x with ⟨c, l⟩; simp [fT]
/-- apart by more than p and more than q, by turns -/
def alt (p q : Int) : List Int → Prop
  | [] => True
  | [_] => True
  | a :: b :: l => p < b - a ∧ alt q p (b :: l)
def Wd (p q : Int) (x : Fl) : Prop := if x.1 then alt q p x.2 else alt p q x.2
theorem Wd_T {p q : Int} {x : Fl} : Wd p q (fT x) ↔ Wd q p x := by rcases x with ⟨c, l⟩; cases c <;> simp [Wd, fT]
theorem alt_tail {p q a : Int} {l : List Int} (h : alt p q (a :: l)) : alt q p l := by
  cases l with
  | nil => trivial
  | cons b l => exact h.2
theorem alt_cons {p q a : Int} {l : List Int} (h : alt q p l) (h2 : ∀ b r, l = b :: r → p < b - a) : alt p q (a :: l) := by
  cases l with
  | nil => trivial
  | cons b l => exact ⟨h2 b l rfl, h⟩
theorem alt_mono {p q p' q' : Int} (hp : p' ≤ p) (hq : q' ≤ q) : ∀ {l : List Int}, alt p q l → alt p' q' l
  | [], _ => trivial
  | [_], _ => trivial
  | a :: b :: l, h => ⟨by have := h.1; omega, alt_mono hq hp (l := b :: l) h.2⟩
theorem alt_sh {p q : Int} (a b : Int) : ∀ {l : List Int}, alt p q l → alt (p + b - a) (q + a - b) (sh a b l)
  | [], _ => trivial
  | [_], _ => trivial
  | x :: y :: l, h => ⟨by have := h.1; show p + b - a < (y + b) - (x + a); omega, alt_sh b a (l := y :: l) h.2⟩
theorem Wd_M {p q : Int} {x : Fl} (a b : Int) (h : Wd p q x) : Wd (p + b - a) (q + a - b) (fM a b x) := by
  rcases x with ⟨c, l⟩
  cases c
  · exact alt_sh a b h
  · exact alt_sh b a h
theorem rm_sh (n a b : Int) : ∀ l : List Int, rm n (sh a b l) = sh a b (rm (n + a - b) l)
  | [] => rfl
  | [_] => rfl
  | x :: y :: l => by
    have ih := rm_sh n a b l
    have e : sh a b (x :: y :: l) = (x + a) :: (y + b) :: sh a b l := rfl
    rw [e, rm, rm]
    by_cases c : y - x ≤ n + a - b
    · rw [if_pos c, if_pos (by omega), ih]
    · rw [if_neg c, if_neg (by omega), ih]; rfl
theorem rm'_sh (n a b : Int) (l : List Int) : rm' n (sh a b l) = sh a b (rm' (n + b - a) l) := by
  cases l with
  | nil => rfl
  | cons x l => simp only [sh, rm', rm_sh]
theorem fD_M (n a b : Int) (x : Fl) : fD n (fM a b x) = fM a b (fD (n + a - b) x) := by
  rcases x with ⟨c, l⟩
  cases c
  · simp [fD, fM, rm_sh]
  · simp [fD, fM, rm'_sh]
theorem fF_M (n a b : Int) (x : Fl) : fF n (fM a b x) = fM a b (fF (n + b - a) x) := by
  rcases x with ⟨c, l⟩
  cases c
  · simp [fF, fM, rm'_sh]
  · simp [fF, fM, rm_sh]
theorem sh_sh (a b c d : Int) : ∀ l : List Int, sh a b (sh c d l) = sh (a + c) (b + d) l
  | [] => rfl
  | x :: l => by simp only [sh, sh_sh b a d c l]; congr 1; omega
theorem fM_M (a b c d : Int) (x : Fl) : fM a b (fM c d x) = fM (a + c) (b + d) x := by
  rcases x with ⟨e, l⟩
  cases e <;> simp [fM, sh_sh]
theorem sh_zero : ∀ l : List Int, sh 0 0 l = l
  | [] => rfl
  | x :: l => by simp [sh, sh_zero l]
theorem fM_zero (x : Fl) : fM 0 0 x = x := by rcases x with ⟨e, l⟩; cases e <;> simp [fM, sh_zero]
theorem rm_noop {n p q : Int} (h : n ≤ p) : ∀ {l : List Int}, alt p q l → rm n l = l
  | [], _ => rfl
  | [_], _ => rfl
  | a :: b :: l, hl => by
    have h1 := hl.1
    rw [rm, if_neg (by omega), rm_noop h (alt_tail (alt_tail hl))]
theorem rm'_noop {n p q : Int} (h : n ≤ q) {l : List Int} (hl : alt p q l) : rm' n l = l := by
  cases l with
  | nil => rfl
  | cons v l => rw [rm', rm_noop h (alt_tail hl)]
theorem fD_noop {n p q : Int} (h : n ≤ p) {x : Fl} (hx : Wd p q x) : fD n x = x := by
  rcases x with ⟨c, l⟩
  cases c
  · simp only [fD, Bool.false_eq_true, if_false]; rw [rm_noop h hx]
  · simp only [fD, if_true]; rw [rm'_noop h hx]
theorem fF_noop {n p q : Int} (h : n ≤ q) {x : Fl} (hx : Wd p q x) : fF n x = x := by
  have := fD_noop (n := n) h (Wd_T.mpr hx)
  rw [fD_T] at this
  have := congrArg fT this
  rwa [fT_T, fT_T] at this
theorem rm_rm {m n : Int} (h : m ≤ n) : ∀ l : List Int, rm n (rm m l) = rm n l
  | [] => rfl
  | [_] => rfl
  | a :: b :: l => by
    have ih := rm_rm h l
    rw [rm.eq_3 m, rm.eq_3 n]
    by_cases c : b - a ≤ m
    · rw [if_pos c, if_pos (by omega), ih]
    · rw [if_neg c, rm.eq_3 n, ih]
theorem fD_D {m n : Int} (h : m ≤ n) (x : Fl) : fD n (fD m x) = fD n x := by
  rcases x with ⟨c, l⟩
  cases c
  · simp [fD, rm_rm h]
  · cases l with
    | nil => rfl
    | cons v l => simp [fD, rm', rm_rm h]
theorem fF_F {m n : Int} (h : m ≤ n) (x : Fl) : fF n (fF m x) = fF n x := by
  have := fD_D h (fT x)
  rw [fD_T, fD_T, fD_T] at this
  have := congrArg fT this
  rwa [fT_T, fT_T] at this
/-- the first of what stays lies no further to the left -/
theorem rm_head {n p q : Int} (hp : 0 ≤ p) (hq : 0 ≤ q) : ∀ {l : List Int}, alt p q l → ∀ a r b s, l = a :: r → rm n l = b :: s → a ≤ b
  | [], _, a, r, b, s, h, _ => nomatch h
  | [x], _, a, r, b, s, h, h2 => by cases h; cases h2; exact Int.le_refl _
  | x :: y :: l, hl, a, r, b, s, h, h2 => by
    cases h
    rw [rm] at h2
    have h1 := hl.1
    split at h2
    · cases l with
      | nil => simp [rm] at h2
      | cons z l =>
        have := rm_head hp hq (l := z :: l) (alt_tail (alt_tail hl)) z l b s rfl h2
        have h3 := hl.2.1
        omega
    · cases h2; exact Int.le_refl _
theorem rm_alt {n p q : Int} (hp : 0 ≤ p) (hq : 0 ≤ q) (hn : p ≤ n) : ∀ {l : List Int}, alt p q l → alt n q (rm n l)
  | [], _ => trivial
  | [x], _ => trivial
  | x :: y :: l, hl => by
    have ih := rm_alt hp hq hn (alt_tail (alt_tail hl))
    have h1 := hl.1
    rw [rm]
    split
    · exact ih
    · refine ⟨by omega, alt_cons ih ?_⟩
      intro b r hb
      cases l with
      | nil => simp [rm] at hb
      | cons z l =>
        have := rm_head (n := n) hp hq (alt_tail (alt_tail hl)) z l b r rfl hb
        have h3 := hl.2.1
        omega
theorem Wd_D {n p q : Int} (hp : 0 ≤ p) (hq : 0 ≤ q) (hn : p ≤ n) {x : Fl} (h : Wd p q x) : Wd n q (fD n x) := by
  rcases x with ⟨c, l⟩
  cases c
  · exact rm_alt hp hq hn h
  · cases l with
    | nil => trivial
    | cons v l =>
      have h2 : alt p q l := alt_tail h
      refine alt_cons (rm_alt hp hq hn h2) ?_
      intro b r hb
      cases l with
      | nil => simp [rm] at hb
      | cons z l =>
        have := rm_head (n := n) hp hq h2 z l b r rfl hb
        have h3 := h.1
        omega
theorem Wd_F {n p q : Int} (hp : 0 ≤ p) (hq : 0 ≤ q) (hn : q ≤ n) {x : Fl} (h : Wd p q x) : Wd p n (fF n x) := by
  have := Wd_D (x := fT x) hq hp hn (Wd_T.mpr h)
  rw [fD_T] at this
  exact Wd_T.mp this
end Law
end
section
set_option autoImplicit false
/-! What a row's form means is what the row answers. -/
namespace Law
open PySem PL
def fStep (x : Fl) (s : Sg) : Fl := if s.1 then fD s.2 x else fF s.2 x
def fcl (steps : List Sg) (x : Fl) : Fl := steps.foldl fStep x
def fbp (x : Fl) : Part → Fl
  | .turn => fT x
  | .delay k => fM k k x
  | .on k => fM k 0 (fD k x)
  | .off k => fM 0 k (fF k x)
def fans (row : List Part) (x : Fl) : Fl := row.foldl fbp x
def fbare (s : W) (x : Fl) : Fl := fM s.l0 s.l1 (fcl s.st x)
def fmeant (s : W) (x : Fl) : Fl := if s.t then fT (fbare s x) else fbare s x
structure CI (s : W) (x : Fl) : Prop where
  at_ : s.at_ = s.l0 - s.l1
  inv : s.inv
  hi : 0 ≤ s.hi
  lo : s.lo ≤ 0
  wd : Wd s.hi (-s.lo) (fcl s.st x)
  last : ∀ b n, s.st.getLast? = some (b, n) → n ≤ if b then s.hi else -s.lo
theorem fcl_snoc (f : List Sg) (s : Sg) (x : Fl) : fcl (f ++ [s]) x = fStep (fcl f x) s := by unfold fcl; rw [List.foldl_append]; rfl
theorem fcl_ws (f : List Sg) (b : Bool) (n : Int) (x : Fl) (h : ∀ m, f.getLast? = some (b, m) → m ≤ n) : fcl (ws f b n) x = fStep (fcl f x) (b, n) := by
  unfold ws
  rcases List.eq_nil_or_concat f with rfl | ⟨g, ⟨c, m⟩, rfl⟩
  · rfl
  · rw [List.concat_eq_append] at *
    by_cases hc : c = b
    · subst hc
      have hm := h m (by simp)
      simp only [List.getLast?_append, List.getLast?_singleton, Option.some_or, Option.map_some, if_true, List.dropLast_concat]
      rw [fcl_snoc, fcl_snoc]
      cases c
      · exact (fF_F hm _).symm
      · exact (fD_D hm _).symm
    · rw [if_neg (by simpa using hc), fcl_snoc]
theorem getLast_ws (f : List Sg) (b : Bool) (n : Int) : (ws f b n).getLast? = some (b, n) := by unfold ws; simp
theorem U_step {s : W} {x : Fl} (h : CI s x) {k : Int} (hk : 0 ≤ k) : CI (s.U k) x ∧ fbare (s.U k) x = fM k 0 (fD k (fbare s x)) := by
  have h1 := h.inv.h
  have h2 := h.inv.l
  have h3 := h.at_
  have hinv := U_inv h.inv hk
  unfold fbare
  rw [fD_M, fM_M]
  have e1 : k + s.l0 - s.l1 = s.at_ + k := by omega
  rw [e1]
  unfold W.U at hinv ⊢
  by_cases c : s.at_ + k > s.hi
  · rw [if_pos c] at hinv ⊢
    simp only
    have e2 : fcl (ws s.st true (s.at_ + k)) x = fD (s.at_ + k) (fcl s.st x) := fcl_ws _ _ _ _ fun m hm => by have := h.last true m hm; simp at this; omega
    rw [e2]
    refine ⟨⟨by simp only; omega, hinv, by have := h.hi; simp only; omega, h.lo, ?_, ?_⟩, by congr 1 <;> omega⟩
    · simp only; rw [e2]; exact Wd_D h.hi (by have := h.lo; omega) (by omega) h.wd
    · intro b n hb
      simp only [getLast_ws] at hb
      cases hb; simp
  · rw [if_neg c] at hinv ⊢
    simp only
    rw [fD_noop (by omega) h.wd]
    exact ⟨⟨by simp only; omega, hinv, h.hi, h.lo, h.wd, h.last⟩, by congr 1 <;> omega⟩
theorem D_step {s : W} {x : Fl} (h : CI s x) {k : Int} (hk : 0 ≤ k) : CI (s.D k) x ∧ fbare (s.D k) x = fM 0 k (fF k (fbare s x)) := by
  have h1 := h.inv.h
  have h2 := h.inv.l
  have h3 := h.at_
  have hinv := D_inv h.inv hk
  unfold fbare
  rw [fF_M, fM_M]
  have e1 : k + s.l1 - s.l0 = -(s.at_ - k) := by omega
  rw [e1]
  unfold W.D at hinv ⊢
  by_cases c : s.at_ - k < s.lo
  · rw [if_pos c] at hinv ⊢
    simp only
    have e2 : fcl (ws s.st false (-(s.at_ - k))) x = fF (-(s.at_ - k)) (fcl s.st x) := fcl_ws _ _ _ _ fun m hm => by have := h.last false m hm; simp at this; omega
    rw [e2]
    refine ⟨⟨by simp only; omega, hinv, h.hi, by have := h.lo; simp only; omega, ?_, ?_⟩, by congr 1 <;> omega⟩
    · simp only; rw [e2]; exact Wd_F h.hi (by have := h.lo; omega) (by omega) h.wd
    · intro b n hb
      simp only [getLast_ws] at hb
      cases hb; simp
  · rw [if_neg c] at hinv ⊢
    simp only
    rw [fF_noop (by omega) h.wd]
    exact ⟨⟨by simp only; omega, hinv, h.hi, h.lo, h.wd, h.last⟩, by congr 1 <;> omega⟩
theorem W0_CI {x : Fl} (h : Wd 0 0 x) : CI W0 x := ⟨rfl, W0_inv, Int.le_refl _, Int.le_refl _, h, fun _ _ hb => nomatch hb⟩
theorem wk_step {s : W} {x : Fl} (h : CI s x) {p : Part} (hp : 0 ≤ p.num) : CI (wk s p) x ∧ fmeant (wk s p) x = fbp (fmeant s x) p := by
  cases p with
  | turn =>
    rw [wk_turn h.inv]
    refine ⟨⟨h.at_, ⟨h.inv.h, h.inv.l⟩, h.hi, h.lo, h.wd, h.last⟩, ?_⟩
    have e : fbare { s with t := !s.t } x = fbare s x := rfl
    unfold fmeant
    rw [e]
    cases s.t <;> simp [fbp, fT_T]
  | delay k =>
    rw [wk_delay h.inv]
    refine ⟨⟨by have := h.at_; simp only; omega, ⟨h.inv.h, h.inv.l⟩, h.hi, h.lo, h.wd, h.last⟩, ?_⟩
    have e : fbare { s with l0 := s.l0 + k, l1 := s.l1 + k } x = fM k k (fbare s x) := by
      unfold fbare
      rw [fM_M]
      simp only
      congr 1 <;> omega
    unfold fmeant
    rw [e]
    cases s.t <;> simp [fbp, fM_T]
  | on k =>
    simp only [num_on] at hp
    rw [wk_on h.inv hp]
    unfold fmeant
    cases ht : s.t
    · obtain ⟨a, b⟩ := U_step h hp
      have e := U_t s k
      rw [ht] at e
      simp only [Bool.false_eq_true, if_false, fbp, e]
      exact ⟨a, b⟩
    · obtain ⟨a, b⟩ := D_step h hp
      have e := D_t s k
      rw [ht] at e
      simp only [if_true, fbp, e]
      exact ⟨a, by rw [b, fD_T, fM_T]⟩
  | off k =>
    simp only [num_off] at hp
    rw [wk_off h.inv hp]
    unfold fmeant
    cases ht : s.t
    · obtain ⟨a, b⟩ := D_step h hp
      have e := D_t s k
      rw [ht] at e
      simp only [Bool.false_eq_true, if_false, fbp, e]
      exact ⟨a, b⟩
    · obtain ⟨a, b⟩ := U_step h hp
      have e := U_t s k
      rw [ht] at e
      simp only [if_true, fbp, e]
      exact ⟨a, by rw [b, fF_T, fM_T]⟩
theorem meaning {row : List Part} (hr : ∀ p ∈ row, 0 ≤ p.num) {x : Fl} (hx : Wd 0 0 x) : CI (wks row) x ∧ fmeant (wks row) x = fans row x := by
  revert hr
  refine rev_ind (P := fun row => (∀ p ∈ row, 0 ≤ p.num) → CI (wks row) x ∧ fmeant (wks row) x = fans row x) ?_ ?_ row
  · intro _
    exact ⟨W0_CI hx, by show fM 0 0 x = x; exact fM_zero x⟩
  · intro l p ih h
    obtain ⟨a, b⟩ := ih fun q hq => h q (List.mem_append_left _ hq)
    rw [wks_snoc]
    obtain ⟨c, d⟩ := wk_step a (h p (by simp))
    exact ⟨c, by rw [d, b]; unfold fans; rw [List.foldl_append]; rfl⟩
end Law
end
section
set_option autoImplicit false
/-! Flips and triples. -/
namespace Law
open PySem PL
def isAO (t : Tri) : Bool := t.u == some 0 && t.R.isEmpty && t.s == some 0
/-- in order, or always on -/
def Fit2 (M : Int) (t : Tri) : Prop := WF M t ∨ t = AO
theorem wf_notAO {M : Int} {t : Tri} (h : WF M t) : isAO t = false := by
  unfold isAO
  by_cases h1 : t.u = some 0
  · by_cases h2 : t.s = some 0
    · have := h.us 0 0 h1 h2; omega
    · simp [h2]
  · simp [h1]
theorem AO_is : isAO AO = true := rfl
def pair : List Int → List Run × Option Int
  | [] => ([], none)
  | [a] => ([], some a)
  | a :: b :: l => ((a, b) :: (pair l).1, (pair l).2)
def ofF : Fl → Tri
  | (false, l) => ⟨none, (pair l).1, (pair l).2⟩
  | (true, []) => AO
  | (true, v :: l) => ⟨some v, (pair l).1, (pair l).2⟩
def flat : List Run → Option Int → List Int
  | [], none => []
  | [], some w => [w]
  | r :: R, s => r.1 :: r.2 :: flat R s
theorem pair_flat : ∀ (R : List Run) (s : Option Int), pair (flat R s) = (R, s)
  | [], none => rfl
  | [], some w => rfl
  | r :: R, s => by simp only [flat, pair, pair_flat R s]
theorem flat_pair : ∀ l : List Int, flat (pair l).1 (pair l).2 = l
  | [] => rfl
  | [a] => rfl
  | a :: b :: l => by simp only [pair, flat, flat_pair l]
theorem flat_snoc : ∀ (R : List Run) (r : Run) (s : Option Int), flat (R ++ [r]) s = flat R none ++ r.1 :: r.2 :: s.toList
  | [], r, none => rfl
  | [], r, some w => rfl
  | x :: R, r, s => by simp only [List.cons_append, flat, flat_snoc R r s]
theorem flat_some : ∀ (R : List Run) (w : Int), flat R (some w) = flat R none ++ [w]
  | [], w => rfl
  | x :: R, w => by simp only [List.cons_append, flat, flat_some R w]
/-! dropping and filling -/
theorem pair_rm (n : Int) : ∀ l : List Int, pair (rm n l) = ((pair l).1.filter (fun r => decide (r.2 - r.1 > n)), (pair l).2)
  | [] => rfl
  | [a] => rfl
  | a :: b :: l => by
    have ih := pair_rm n l
    rw [rm]
    by_cases c : b - a ≤ n
    · rw [if_pos c, ih]
      simp only [pair, List.filter_cons]
      rw [if_neg (by simp; omega)]
    · rw [if_neg c]
      simp only [pair, ih, List.filter_cons]
      rw [if_pos (by simp; omega)]
theorem drop_ofF (n : Int) (x : Fl) : drop n (ofF x) = ofF (fD n x) := by
  rcases x with ⟨b, l⟩
  cases b
  · simp [fD, ofF, drop, pair_rm]
  · cases l with
    | nil => rfl
    | cons v l => simp [fD, ofF, drop, pair_rm, rm']
/-- what is told of runs, filled up to here, and of the last on -/
def fin (n : Int) (z : Z) (s : Option Int) : Tri := match s with
  | none => ⟨z.1, z.2, none⟩
  | some w => match lastEnd z with
    | none => ⟨z.1, z.2, some w⟩
    | some e => if w - e ≤ n then (match z.2.getLast? with | none => AO | some r => ⟨z.1, z.2.dropLast, some r.1⟩) else ⟨z.1, z.2, some w⟩
theorem fill_fin (n : Int) (t : Tri) : fill n t = fin n (t.R.foldl (flR n) (t.u, [])) t.s := by
  unfold fill fin
  simp only
  generalize t.R.foldl (flR n) (t.u, []) = z
  rcases z with ⟨u, l⟩
  rcases t with ⟨tu, tR, ts⟩
  simp only
  cases ts with
  | none => cases lastEnd (u, l) <;> rfl
  | some w =>
    cases lastEnd (u, l) with
    | none => rfl
    | some e =>
      simp only
      cases l.getLast? <;> rfl
/-- what a beginning is -/
def zF (z : Z) (m : List Int) : Fl := (z.1.isSome, z.1.toList ++ flat z.2 none ++ m)
theorem flat_app : ∀ (R R' : List Run) (s : Option Int), flat R none ++ flat R' s = flat (R ++ R') s
  | [], R', s => rfl
  | x :: R, R', s => by simp only [List.cons_append, flat, flat_app R R' s]
theorem ofF_z (u : Option Int) (R : List Run) (s : Option Int) (h : u.isSome = true ∨ u = none) : ofF (u.isSome, u.toList ++ flat R s) = ⟨u, R, s⟩ := by
  cases u with
  | none => simp [ofF, pair_flat]
  | some v => simp [ofF, pair_flat]
theorem ofF_t (u : Option Int) (R : List Run) (s : Option Int) : ofF (u.isSome, u.toList ++ flat R s) = ⟨u, R, s⟩ := ofF_z u R s (by cases u <;> simp)
theorem fin_snoc (n : Int) (u : Option Int) (l : List Run) (x : Run) (R : List Run) (s : Option Int) : fin n (R.foldl (flR n) (u, l ++ [x])) s = ofF (u.isSome, u.toList ++ flat l none ++ x.1 :: rm n (x.2 :: flat R s)) := by
  induction R generalizing l x with
  | nil =>
    cases s with
    | none =>
      have := ofF_t u (l ++ [x]) none
      rw [flat_snoc] at this
      simp only [Option.toList_none] at this
      simp only [List.foldl_nil, flat, rm, fin]
      rw [List.append_assoc, this]
    | some w =>
      simp only [List.foldl_nil, fin, lastEnd_snoc, flat]
      rw [rm]
      by_cases c : w - x.2 ≤ n
      · rw [if_pos c, if_pos c]
        have := ofF_t u l (some x.1)
        rw [flat_some, ← List.append_assoc] at this
        simp only [List.getLast?_append, List.getLast?_singleton, Option.some_or, List.dropLast_concat]
        rw [← this]; rfl
      · rw [if_neg c, if_neg c]
        have := ofF_t u (l ++ [x]) (some w)
        rw [flat_snoc] at this
        rw [← this]
        simp [rm]
  | cons r R ih =>
    rw [List.foldl_cons, flR_snoc]
    have e : flat (r :: R) s = r.1 :: r.2 :: flat R s := rfl
    rw [e, rm]
    by_cases c : r.1 - x.2 ≤ n
    · rw [if_pos c, if_pos c, ih]
    · rw [if_neg c, if_neg c, ih, flat_snoc]
      simp
theorem fin_head (n : Int) (v : Int) (R : List Run) (s : Option Int) : fin n (R.foldl (flR n) (some v, [])) s = ofF (true, rm n (v :: flat R s)) := by
  induction R generalizing v with
  | nil =>
    cases s with
    | none => rfl
    | some w =>
      simp only [List.foldl_nil, fin, lastEnd_nil, flat]
      rw [rm]
      by_cases c : w - v ≤ n
      · rw [if_pos c, if_pos c]; rfl
      · rw [if_neg c, if_neg c]; rfl
  | cons r R ih =>
    rw [List.foldl_cons, flR_nil]
    have e : flat (r :: R) s = r.1 :: r.2 :: flat R s := rfl
    rw [e, rm]
    by_cases c : r.1 - v ≤ n
    · rw [if_pos c, if_pos c, ih]
    · rw [if_neg c, if_neg c]
      have := fin_snoc n (some v) [] r R s
      simp only [List.nil_append] at this
      rw [this]; rfl
theorem fill_ofF {n : Int} (hn : 0 ≤ n) (x : Fl) : fill n (ofF x) = ofF (fF n x) := by
  rcases x with ⟨b, l⟩
  cases b
  · rw [fill_fin]
    show fin n ((pair l).1.foldl (flR n) (none, [])) (pair l).2 = ofF (false, rm' n l)
    cases l with
    | nil => rfl
    | cons a l =>
      cases l with
      | nil => rfl
      | cons b l =>
        have := fin_snoc n none [] (a, b) (pair l).1 (pair l).2
        rw [flat_pair] at this
        simp only [pair, List.foldl_cons, flR_none]
        exact this
  · cases l with
    | nil => exact fill_AO hn
    | cons v l =>
      rw [fill_fin]
      have := fin_head n v (pair l).1 (pair l).2
      rw [flat_pair] at this
      exact this
/-! in order -/
structure FOk (M : Int) (x : Fl) : Prop where
  wd : Wd 0 0 x
  bd : ∀ v ∈ x.2, -M ≤ v ∧ v ≤ M
theorem alt_asc {p q : Int} (hp : 0 ≤ p) (hq : 0 ≤ q) : ∀ {l : List Int}, alt p q l → l.Pairwise (· < ·)
  | [], _ => List.Pairwise.nil
  | [x], _ => List.pairwise_singleton _ _
  | x :: y :: l, h => by
    have ih := alt_asc hq hp (l := y :: l) h.2
    have h1 := h.1
    refine List.pairwise_cons.mpr ⟨fun z hz => ?_, ih⟩
    rcases List.mem_cons.mp hz with rfl | hz
    · omega
    · have := (List.pairwise_cons.mp ih).1 z hz
      omega
theorem Wd_asc {p q : Int} (hp : 0 ≤ p) (hq : 0 ≤ q) {x : Fl} (h : Wd p q x) : x.2.Pairwise (· < ·) := by
  unfold Wd at h
  split at h
  · exact alt_asc hq hp h
  · exact alt_asc hp hq h
theorem pair_mem : ∀ {l : List Int}, (∀ r ∈ (pair l).1, r.1 ∈ l ∧ r.2 ∈ l) ∧ ∀ w, (pair l).2 = some w → w ∈ l
  | [] => ⟨fun r h => (nomatch h), fun w h => (nomatch h)⟩
  | [a] => ⟨fun r h => (by simp [pair] at h), fun w h => by simp [pair] at h; simp [h]⟩
  | a :: b :: l => by
    obtain ⟨h1, h2⟩ := pair_mem (l := l)
    refine ⟨fun r hr => ?_, fun w hw => ?_⟩
    · simp only [pair, List.mem_cons] at hr
      rcases hr with rfl | hr
      · simp
      · have := h1 r hr
        exact ⟨by simp [this.1], by simp [this.2]⟩
    · simp [h2 w hw]
theorem pair_wf {M : Int} : ∀ {l : List Int}, l.Pairwise (· < ·) → (∀ v ∈ l, -M ≤ v ∧ v ≤ M) → (∀ r ∈ (pair l).1, RunOk M r) ∧ ((pair l).1.Pairwise fun x y => x.2 < y.1) ∧ ∀ w, (pair l).2 = some w → ∀ r ∈ (pair l).1, r.2 < w
  | [], _, _ => ⟨by simp [pair], by simp [pair], fun w hw => nomatch hw⟩
  | [a], _, _ => ⟨by simp [pair], by simp [pair], fun w hw r hr => by simp [pair] at hr⟩
  | a :: b :: l, h, hb => by
    have p1 := List.pairwise_cons.mp h
    have p2 := List.pairwise_cons.mp p1.2
    obtain ⟨h1, h2, h3⟩ := pair_wf p2.2 fun v hv => hb v (by simp [hv])
    obtain ⟨m1, m2⟩ := pair_mem (l := l)
    refine ⟨fun r hr => ?_, ?_, fun w hw r hr => ?_⟩
    · simp only [pair, List.mem_cons] at hr
      rcases hr with rfl | hr
      · exact ⟨p1.1 b (by simp), (hb a (by simp)).1, (hb b (by simp)).2⟩
      · exact h1 r hr
    · exact List.pairwise_cons.mpr ⟨fun r hr => p2.1 _ (m1 r hr).1, h2⟩
    · simp only [pair, List.mem_cons] at hr
      rcases hr with rfl | hr
      · exact p2.1 w (m2 w hw)
      · exact h3 w hw r hr
theorem fok_fit {M : Int} {x : Fl} (h : FOk M x) : Fit2 M (ofF x) := by
  have ha := Wd_asc (Int.le_refl 0) (Int.le_refl 0) h.wd
  have hb := h.bd
  rcases x with ⟨b, l⟩
  simp only at ha hb
  cases b
  · obtain ⟨h1, h2, h3⟩ := pair_wf (M := M) ha hb
    exact .inl ⟨⟨h1, h2, fun v hv => (nomatch hv)⟩, fun w hw => ⟨(hb w (pair_mem.2 w hw)).1, (hb w (pair_mem.2 w hw)).2, h3 w hw⟩, fun v w hv => nomatch hv⟩
  · cases l with
    | nil => exact .inr rfl
    | cons v l =>
      have p1 := List.pairwise_cons.mp ha
      obtain ⟨h1, h2, h3⟩ := pair_wf (M := M) p1.2 fun z hz => hb z (by simp [hz])
      exact .inl ⟨⟨h1, h2, fun z hz => by cases hz; exact ⟨(hb v (by simp)).1, (hb v (by simp)).2, fun r hr => p1.1 _ (pair_mem.1 r hr).1⟩⟩, fun w hw => ⟨(hb w (by simp [pair_mem.2 w hw])).1, (hb w (by simp [pair_mem.2 w hw])).2, h3 w hw⟩, fun z w hz hw => by cases hz; exact p1.1 w (pair_mem.2 w hw)⟩
theorem flat_alt : ∀ (R : List Run) (s : Option Int), (∀ r ∈ R, r.1 < r.2) → (R.Pairwise fun x y => x.2 < y.1) → (∀ w, s = some w → ∀ r ∈ R, r.2 < w) → alt 0 0 (flat R s) ∧ ∀ v, (∀ r ∈ R, v < r.1) → (∀ w, s = some w → v < w) → alt 0 0 (v :: flat R s)
  | [], none, _, _, _ => ⟨trivial, fun _ _ _ => trivial⟩
  | [], some w, _, _, _ => ⟨trivial, fun v _ h => ⟨by have := h w rfl; omega, trivial⟩⟩
  | r :: R, s, h1, h2, h3 => by
    have p := List.pairwise_cons.mp h2
    obtain ⟨a, b⟩ := flat_alt R s (fun x hx => h1 x (by simp [hx])) p.2 fun w hw x hx => h3 w hw x (by simp [hx])
    have c := b r.2 p.1 fun w hw => h3 w hw r (by simp)
    have d : alt 0 0 (flat (r :: R) s) := ⟨by have := h1 r (by simp); omega, c⟩
    exact ⟨d, fun v hv _ => ⟨by have := hv r (by simp); show 0 < r.1 - v; omega, d⟩⟩
theorem flat_mem : ∀ (R : List Run) (s : Option Int) (v : Int), v ∈ flat R s → (∃ r ∈ R, v = r.1 ∨ v = r.2) ∨ s = some v
  | [], none, v, h => nomatch h
  | [], some w, v, h => by simp [flat] at h; exact .inr (by rw [h])
  | r :: R, s, v, h => by
    simp only [flat, List.mem_cons] at h
    rcases h with rfl | rfl | h
    · exact .inl ⟨r, by simp⟩
    · exact .inl ⟨r, by simp⟩
    · rcases flat_mem R s v h with ⟨x, hx, hv⟩ | hs
      · exact .inl ⟨x, by simp [hx], hv⟩
      · exact .inr hs
theorem fit_fok {M : Int} {t : Tri} (h : Fit2 M t) : ∃ x, ofF x = t ∧ FOk M x := by
  rcases h with h | rfl
  · refine ⟨(t.u.isSome, t.u.toList ++ flat t.R t.s), ofF_t _ _ _, ?_, ?_⟩
    · obtain ⟨a, b⟩ := flat_alt t.R t.s (fun r hr => (h.z.runs r hr).len) h.z.pw fun w hw => (h.s w hw).2.2
      cases hu : t.u with
      | none => exact a
      | some v => exact b v (h.z.u v hu).2.2 fun w hw => h.us v w hu hw
    · intro v hv
      rcases List.mem_append.mp hv with hv | hv
      · cases hu : t.u with
        | none => rw [hu] at hv; nomatch hv
        | some u => rw [hu] at hv; simp at hv; subst hv; have := h.z.u v hu; exact ⟨this.1, this.2.1⟩
      · rcases flat_mem _ _ _ hv with ⟨r, hr, rfl | rfl⟩ | hs
        · have := h.z.runs r hr; have := this.len; have := (h.z.runs r hr).lo; have := (h.z.runs r hr).hi; omega
        · have := h.z.runs r hr; have := this.len; have := (h.z.runs r hr).lo; have := (h.z.runs r hr).hi; omega
        · have := h.s v hs; exact ⟨this.1, this.2.1⟩
  · exact ⟨(true, []), rfl, trivial, fun v hv => nomatch hv⟩
end Law
end
section
set_option autoImplicit false
/-! The program's moves of signals, in flips: plain part. -/
namespace Law
open PySem PL
theorem pair_len : ∀ l : List Int, 2 * (pair l).1.length ≤ l.length
  | [] => by simp [pair]
  | [a] => by simp [pair]
  | a :: b :: l => by have := pair_len l; simp [pair]; omega
theorem ofF_len (x : Fl) : 2 * (ofF x).R.length ≤ x.2.length := by
  rcases x with ⟨b, l⟩
  cases b
  · exact pair_len l
  · cases l with
    | nil => simp [ofF, AO]
    | cons v l => have := pair_len l; simp [ofF]; omega
theorem rm_len (n : Int) : ∀ l : List Int, (rm n l).length ≤ l.length
  | [] => Nat.le_refl _
  | [_] => Nat.le_refl _
  | a :: b :: l => by
    have := rm_len n l
    rw [rm]
    split <;> simp <;> omega
theorem fD_len (n : Int) (x : Fl) : (fD n x).2.length ≤ x.2.length := by
  rcases x with ⟨b, l⟩
  cases b
  · exact rm_len n l
  · cases l with
    | nil => exact Nat.le_refl _
    | cons v l => have := rm_len n l; simp [fD, rm']; omega
theorem fF_len (n : Int) (x : Fl) : (fF n x).2.length ≤ x.2.length := by
  have := fD_len n (fT x)
  rw [fD_T] at this
  exact this
theorem sh_len : ∀ (a b : Int) (l : List Int), (sh a b l).length = l.length
  | _, _, [] => rfl
  | a, b, x :: l => by simp [sh, sh_len b a l]
theorem fM_len (a b : Int) (x : Fl) : (fM a b x).2.length = x.2.length := by rcases x with ⟨c, l⟩; cases c <;> simp [fM, sh_len]
theorem fbp_len (x : Fl) (p : Part) : (fbp x p).2.length ≤ x.2.length := by
  cases p with
  | turn => exact Nat.le_refl _
  | delay k => simp [fbp, fM_len]
  | on k => simp only [fbp, fM_len]; exact fD_len _ _
  | off k => simp only [fbp, fM_len]; exact fF_len _ _
theorem fStep_len (x : Fl) (s : Sg) : (fStep x s).2.length ≤ x.2.length := by
  unfold fStep; split
  · exact fD_len _ _
  · exact fF_len _ _
theorem fcl_len (st : List Sg) : ∀ x : Fl, (fcl st x).2.length ≤ x.2.length := by
  induction st with
  | nil => intro x; exact Nat.le_refl _
  | cons s st ih => intro x; exact Nat.le_trans (ih (fStep x s)) (fStep_len x s)
/-! bounds -/
theorem rm_mem (n : Int) : ∀ {l : List Int} {v : Int}, v ∈ rm n l → v ∈ l
  | [], _, h => h
  | [_], _, h => h
  | a :: b :: l, v, h => by
    rw [rm] at h
    split at h
    · have := rm_mem n h; simp [this]
    · simp only [List.mem_cons] at h ⊢
      rcases h with h | h | h
      · exact .inl h
      · exact .inr (.inl h)
      · exact .inr (.inr (rm_mem n h))
theorem rm'_mem (n : Int) {l : List Int} {v : Int} (h : v ∈ rm' n l) : v ∈ l := by
  cases l with
  | nil => exact h
  | cons a l =>
    simp only [rm', List.mem_cons] at h ⊢
    rcases h with h | h
    · exact .inl h
    · exact .inr (rm_mem n h)
theorem fD_mem {n : Int} {x : Fl} {v : Int} (h : v ∈ (fD n x).2) : v ∈ x.2 := by
  rcases x with ⟨b, l⟩
  cases b
  · exact rm_mem n h
  · exact rm'_mem n h
theorem fF_mem {n : Int} {x : Fl} {v : Int} (h : v ∈ (fF n x).2) : v ∈ x.2 := by
  have : v ∈ (fT (fF n x)).2 := h
  rw [← fD_T] at this
  exact fD_mem (x := fT x) this
theorem sh_bd {M K : Int} : ∀ {a b : Int} {l : List Int}, (-K ≤ a ∧ a ≤ K) → (-K ≤ b ∧ b ≤ K) → (∀ v ∈ l, -M ≤ v ∧ v ≤ M) → ∀ v ∈ sh a b l, -(M + K) ≤ v ∧ v ≤ M + K
  | _, _, [], _, _, _, v, h => (nomatch h)
  | a, b, x :: l, ha, hb, h, v, hv => by
    simp only [sh, List.mem_cons] at hv
    rcases hv with rfl | hv
    · have := h x (by simp); omega
    · exact sh_bd hb ha (fun z hz => h z (by simp [hz])) v hv
theorem Wd_mono {p q p' q' : Int} {x : Fl} (h : Wd p q x) (hp : p' ≤ p) (hq : q' ≤ q) : Wd p' q' x := by
  unfold Wd at *
  split at h
  · rw [if_pos ‹_›]; exact alt_mono hq hp h
  · rw [if_neg ‹_›]; exact alt_mono hp hq h
theorem fM_bd {M K a b : Int} {x : Fl} (ha : -K ≤ a ∧ a ≤ K) (hb : -K ≤ b ∧ b ≤ K) (h : ∀ v ∈ x.2, -M ≤ v ∧ v ≤ M) : ∀ v ∈ (fM a b x).2, -(M + K) ≤ v ∧ v ≤ M + K := by
  rcases x with ⟨c, l⟩
  cases c
  · exact sh_bd ha hb h
  · exact sh_bd hb ha h
theorem FOk.mono {M N : Int} {x : Fl} (h : FOk M x) (l : M ≤ N) : FOk N x := ⟨h.wd, fun v hv => by have := h.bd v hv; omega⟩
theorem fD_ok {M n : Int} {x : Fl} (h : FOk M x) (hn : 0 ≤ n) : FOk M (fD n x) := ⟨Wd_mono (Wd_D (Int.le_refl 0) (Int.le_refl 0) hn h.wd) hn (Int.le_refl 0), fun v hv => h.bd v (fD_mem hv)⟩
theorem fF_ok {M n : Int} {x : Fl} (h : FOk M x) (hn : 0 ≤ n) : FOk M (fF n x) := ⟨Wd_mono (Wd_F (Int.le_refl 0) (Int.le_refl 0) hn h.wd) (Int.le_refl 0) hn, fun v hv => h.bd v (fF_mem hv)⟩
theorem fStep_ok {M : Int} {x : Fl} {s : Sg} (h : FOk M x) (hn : 0 ≤ s.2) : FOk M (fStep x s) := by
  unfold fStep; split
  · exact fD_ok h hn
  · exact fF_ok h hn
theorem fcl_ok {M : Int} (st : List Sg) : ∀ {x : Fl}, FOk M x → (∀ s ∈ st, 0 ≤ s.2) → FOk M (fcl st x) := by
  induction st with
  | nil => intro x h _; exact h
  | cons s st ih => intro x h hs; exact ih (fStep_ok h (hs s (by simp))) fun z hz => hs z (by simp [hz])
theorem fM_same {M K k : Int} {x : Fl} (h : FOk M x) (hk : -K ≤ k ∧ k ≤ K) : FOk (M + K) (fM k k x) := ⟨by have := Wd_M k k h.wd; exact Wd_mono this (by omega) (by omega), fM_bd hk hk h.bd⟩
theorem fT_ok {M : Int} {x : Fl} (h : FOk M x) : FOk M (fT x) := ⟨Wd_T.mpr h.wd, h.bd⟩
theorem on1_ok {M n : Int} {x : Fl} (h : FOk M x) (hn : 0 ≤ n) : FOk (M + n) (fM 0 (-n) (fD n x)) := ⟨by have := Wd_M 0 (-n) (Wd_D (Int.le_refl 0) (Int.le_refl 0) hn h.wd); exact Wd_mono this (by omega) (by omega), fM_bd (by omega) (by omega) (fD_ok h hn).bd⟩
theorem off1_ok {M n : Int} {x : Fl} (h : FOk M x) (hn : 0 ≤ n) : FOk (M + n) (fM 0 n (fF n x)) := ⟨by have := Wd_M 0 n (Wd_F (Int.le_refl 0) (Int.le_refl 0) hn h.wd); exact Wd_mono this (by omega) (by omega), fM_bd (by omega) (by omega) (fF_ok h hn).bd⟩
theorem fbp_ok {M B : Int} {x : Fl} {p : Part} (h : FOk M x) (hp : p.ok B) : FOk (M + B) (fbp x p) := by
  have h1 := hp.1
  have h2 := hp.2
  cases p with
  | turn => exact (fT_ok h).mono (by simp only [num_turn] at h2; omega)
  | delay k => simp only [num_delay] at h1 h2; exact (fM_same (K := k) h (by omega)).mono (by omega)
  | on k =>
    simp only [num_on] at h1 h2
    have := Wd_M k 0 (Wd_D (Int.le_refl 0) (Int.le_refl 0) h1 h.wd)
    exact ⟨Wd_mono this (by omega) (by omega), fun v hv => by have := fM_bd (K := k) (by omega) (by omega) (fD_ok h h1).bd v hv; omega⟩
  | off k => simp only [num_off] at h1 h2; exact (off1_ok h h1).mono (by omega)
theorem fans_ok {B : Int} (hB : 0 ≤ B) (row : List Part) : ∀ {M : Int} {x : Fl}, FOk M x → (∀ p ∈ row, p.ok B) → FOk (M + row.length * B) (fans row x) := by
  induction row with
  | nil => intro M x h _; simpa [fans] using h
  | cons p row ih =>
    intro M x h hr
    have h2 := ih (fbp_ok h (hr p (by simp))) fun q hq => hr q (by simp [hq])
    have e : (M + B) + (row.length : Int) * B = M + ((p :: row).length : Int) * B := by simp only [List.length_cons]; push_cast; grind
    rw [e] at h2
    exact h2
theorem fans_len (row : List Part) : ∀ x : Fl, (fans row x).2.length ≤ x.2.length := by
  induction row with
  | nil => intro x; exact Nat.le_refl _
  | cons p row ih => intro x; exact Nat.le_trans (ih (fbp x p)) (fbp_len x p)
/-! bursts that are moved -/
def mvB (a b : Int) (u : Bu) : Bu := mkb (u.tick + a) (u.on + b - a) (u.off + a - b) u.times
def mvR (a b : Int) (r : Run) : Run := (r.1 + a, r.2 + b)
theorem mvB_end (a b : Int) {u : Bu} (h : u.ok) : (mvB a b u).end = u.end + b := by
  have h1 := h.times
  unfold mvB mkb Bu.end
  simp only
  by_cases c : u.times > 1
  · rw [if_pos c]; grind
  · have e : u.times = 1 := by omega
    rw [if_neg c, e]; omega
theorem mvB_takes (a b : Int) {u : Bu} (h : u.ok) (t n : Int) : takes (mvB a b u) (t + a) (n + b - a) = takes u t n := by
  have h1 := h.times
  unfold takes
  rw [mvB_end a b h]
  have e1 : (mvB a b u).on = u.on + b - a := rfl
  have e2 : (mvB a b u).times = u.times := rfl
  have e3 : (mvB a b u).off = if u.times > 1 then u.off + a - b else 0 := rfl
  rw [e1, e2, e3]
  have d1 : decide (u.on + b - a = n + b - a) = decide (u.on = n) := by congr 1; simp only [eq_iff_iff]; omega
  rw [d1]
  by_cases c : u.times > 1
  · rw [if_pos c]
    have d2 : decide (u.off + a - b = t + a - (u.end + b)) = decide (u.off = t - u.end) := by congr 1; simp only [eq_iff_iff]; omega
    rw [d2]
  · have e : u.times = 1 := by omega
    simp [e]
theorem add_mv (a b : Int) (f : List Bu) (hf : OkB f) (r : Run) : add (f.map (mvB a b)) (mvR a b r) = (add f r).map (mvB a b) := by
  rcases List.eq_nil_or_concat f with rfl | ⟨f', u, rfl⟩
  · show [one (mvR a b r)] = [mvB a b (one r)]
    simp only [one, mvR, mvB, mkb]
    congr 2
    omega
  · rw [List.concat_eq_append] at *
    have hu := hf u (by simp)
    rw [List.map_append, List.map_cons, List.map_nil, add_snoc, add_snoc]
    have e : (mvR a b r).2 - (mvR a b r).1 = (r.2 - r.1) + b - a := by simp only [mvR]; omega
    have e2 : (mvR a b r).1 = r.1 + a := rfl
    rw [e, e2, mvB_takes a b hu]
    have h1 := hu.times
    by_cases c : takes u r.1 (r.2 - r.1) = true
    · rw [if_pos c, if_pos c, mvB_end a b hu]
      simp only [List.map_append, List.map_cons, List.map_nil]
      congr 2
      simp only [mvB, mkb]
      rw [if_pos (by omega : u.times + 1 > 1)]
      congr 1
      omega
    · rw [if_neg c, if_neg c]
      simp only [List.map_append, List.map_cons, List.map_nil]
      congr 2
      simp only [one, mvR, mvB, mkb]
      congr 1
      all_goals omega
theorem adds_mv (a b : Int) (rs : List Run) : ∀ f : List Bu, OkB f → adds (f.map (mvB a b)) (rs.map (mvR a b)) = (adds f rs).map (mvB a b) := by
  induction rs with
  | nil => intro f _; rfl
  | cons r rs ih =>
    intro f hf
    rw [List.map_cons, adds_cons, adds_cons, add_mv a b f hf, ih _ (add_runs f r hf).2]
theorem group_mv (a b : Int) (rs : List Run) : group (rs.map (mvR a b)) = (group rs).map (mvB a b) := adds_mv a b rs [] (fun _ h => (nomatch h))
theorem pair_sh : ∀ (a b : Int) (l : List Int), pair (sh a b l) = ((pair l).1.map (mvR a b), (pair l).2.map (· + a))
  | _, _, [] => rfl
  | _, _, [_] => rfl
  | a, b, x :: y :: l => by simp only [sh, pair, pair_sh a b l, List.map_cons, mvR]
/-- what is moved, as triples -/
def mvT (a b : Int) (t : Tri) : Tri := ⟨t.u.map (· + b), t.R.map (mvR a b), t.s.map (· + a)⟩
theorem ofF_M (a b : Int) {x : Fl} (h : x ≠ (true, [])) : ofF (fM a b x) = mvT a b (ofF x) := by
  rcases x with ⟨c, l⟩
  cases c
  · simp [fM, ofF, mvT, pair_sh]
  · cases l with
    | nil => exact absurd rfl h
    | cons v l => simp [fM, ofF, mvT, sh, pair_sh]
theorem notAO {M : Int} {x : Fl} (h : FOk M x) (hx : x ≠ (true, [])) : isAO (ofF x) = false := by
  rcases x with ⟨c, l⟩
  cases c
  · rfl
  · cases l with
    | nil => exact absurd rfl hx
    | cons v l =>
      rcases fok_fit h with h0 | h0
      · exact wf_notAO h0
      · simp only [ofF, AO] at h0
        obtain ⟨h1, h2, h3⟩ := Tri.mk.inj h0
        cases h1
        have : l = [0] := by
          have := flat_pair l
          rw [h2, h3] at this
          exact this.symm
        subst this
        have hw : alt 0 0 [0, 0] := h.wd
        have := hw.1
        omega
end Law
end
section
set_option autoImplicit false
/-! Signals tick by tick. -/
namespace Law
open PySem PL
def sem : Bool → List Int → Int → Bool
  | b, [], _ => b
  | b, v :: l, t => if t < v then b else sem (!b) l t
def semF (x : Fl) (t : Int) : Bool := sem x.1 x.2 t
theorem sem_T : ∀ (b : Bool) (l : List Int) (t : Int), sem (!b) l t = !sem b l t
  | _, [], _ => rfl
  | b, v :: l, t => by
    simp only [sem, sem_T (!b) l t]
    split <;> rfl
theorem semF_T (x : Fl) (t : Int) : semF (fT x) t = !semF x t := sem_T _ _ _
theorem sem_before {b : Bool} {l : List Int} {t : Int} (h : ∀ a r, l = a :: r → t < a) : sem b l t = b := by
  cases l with
  | nil => rfl
  | cons a r => rw [sem, if_pos (h a r rfl)]
theorem sem_sh (k : Int) : ∀ (b : Bool) (l : List Int) (t : Int), sem b (sh k k l) t = sem b l (t - k)
  | _, [], _ => rfl
  | b, v :: l, t => by
    simp only [sh, sem, sem_sh k (!b) l t]
    by_cases c : t < v + k
    · rw [if_pos c, if_pos (by omega)]
    · rw [if_neg c, if_neg (by omega)]
theorem semF_delay (k : Int) (x : Fl) (t : Int) : semF (fM k k x) t = semF x (t - k) := by
  rcases x with ⟨b, l⟩
  cases b <;> exact sem_sh k _ l t
theorem sh_head {k : Int} (hk : 0 ≤ k) {l : List Int} {c : Int} (h : ∀ a r, l = a :: r → c < a) : ∀ a r, sh k 0 l = a :: r → c < a := by
  intro a r e
  cases l with
  | nil => nomatch e
  | cons x l => simp only [sh, List.cons.injEq] at e; have := h x l rfl; omega
theorem rm_far {n p q : Int} (hp : 0 ≤ p) (hq : 0 ≤ q) {l : List Int} (hl : alt p q l) {c : Int} (h : ∀ a r, l = a :: r → c < a) : ∀ a r, rm n l = a :: r → c < a := by
  intro a r e
  cases l with
  | nil => simp [rm] at e
  | cons x l =>
    have := rm_head (n := n) hp hq hl x l a r rfl e
    have := h x l rfl
    omega
theorem sem_on (k : Int) (hk : 0 ≤ k) (t : Int) : ∀ l : List Int, alt 0 0 l → (sem false (sh k 0 (rm k l)) t = true ↔ ∀ y, t - k ≤ y → y ≤ t → sem false l y = true)
  | [], _ => by
    constructor
    · intro h; nomatch h
    · intro h; have := h t (by omega) (by omega); nomatch this
  | [a], _ => by
    simp only [rm, sh, sem]
    constructor
    · intro h y h1 h2
      by_cases c : t < a + k
      · simp [c] at h
      · simp; omega
    · intro h
      have := h (t - k) (by omega) (by omega)
      simp at this
      simp; omega
  | a :: b :: l, hl => by
    have h1 := hl.1
    have hl2 := alt_tail (alt_tail hl)
    have hb : ∀ c r, l = c :: r → b < c := by
      intro c r e; subst e; have := hl.2.1; omega
    have ih := sem_on k hk t l hl2
    have hrest : ∀ c r, sh k 0 (rm k l) = c :: r → b < c := sh_head hk (rm_far (Int.le_refl 0) (Int.le_refl 0) hl2 hb)
    have full : ∀ y, sem false (a :: b :: l) y = if y < a then false else if y < b then true else sem false l y := fun y => by
      simp only [sem]; rfl
    by_cases c : t < b
    · have hoff : sem false (sh k 0 (rm k l)) t = false := sem_before fun c r e => by have := hrest c r e; omega
      rw [rm]
      by_cases d : b - a ≤ k
      · rw [if_pos d, hoff]
        constructor
        · intro h; nomatch h
        · intro h
          have := h (t - k) (by omega) (by omega)
          rw [full, if_pos (by omega)] at this
          nomatch this
      · rw [if_neg d]
        have e : sem false (sh k 0 (a :: b :: rm k l)) t = if t < a + k then false else true := by
          simp only [sh, sem]
          rw [if_pos (by omega : t < b + 0)]
          rfl
        rw [e]
        constructor
        · intro h y h1 h2
          by_cases f : t < a + k
          · rw [if_pos f] at h; nomatch h
          · rw [full, if_neg (by omega), if_pos (by omega)]
        · intro h
          by_cases f : t < a + k
          · have := h (t - k) (by omega) (by omega)
            rw [full, if_pos (by omega)] at this
            nomatch this
          · rw [if_neg f]
    · have e : sem false (sh k 0 (rm k (a :: b :: l))) t = sem false (sh k 0 (rm k l)) t := by
        rw [rm]
        by_cases d : b - a ≤ k
        · rw [if_pos d]
        · rw [if_neg d]
          simp only [sh, sem]
          rw [if_neg (by omega), if_neg (by omega)]
          rfl
      rw [e, ih]
      constructor
      · intro h y h1 h2
        by_cases f : t - k < b
        · have := h b (by omega) (by omega)
          rw [sem_before hb] at this
          nomatch this
        · rw [full, if_neg (by omega), if_neg (by omega)]
          exact h y h1 h2
      · intro h y h1 h2
        by_cases f : t - k < b
        · have := h b (by omega) (by omega)
          rw [full, if_neg (by omega), if_neg (by omega), sem_before hb] at this
          nomatch this
        · have := h y h1 h2
          rwa [full, if_neg (by omega), if_neg (by omega)] at this
theorem semF_on {k : Int} (hk : 0 ≤ k) {x : Fl} (hx : Wd 0 0 x) (t : Int) : semF (fM k 0 (fD k x)) t = true ↔ ∀ y, t - k ≤ y → y ≤ t → semF x y = true := by
  rcases x with ⟨b, l⟩
  cases b
  · exact sem_on k hk t l hx
  · cases l with
    | nil => exact ⟨fun _ _ _ _ => rfl, fun _ => rfl⟩
    | cons v l =>
      have h' : alt 0 0 (v :: l) := hx
      have hv : ∀ c r, l = c :: r → v < c := by
        intro c r e; subst e; have := h'.1; omega
      have ih := sem_on k hk t l (alt_tail h')
      have full : ∀ y, semF (true, v :: l) y = if y < v then true else sem false l y := fun y => rfl
      have e : semF (fM k 0 (fD k (true, v :: l))) t = if t < v then true else sem false (sh k 0 (rm k l)) t := by
        show sem true (sh 0 k (v :: rm k l)) t = _
        simp only [sh, sem]
        rw [Int.add_zero]; rfl
      rw [e]
      by_cases c : t < v
      · rw [if_pos c]
        exact ⟨fun _ y _ h2 => by rw [full, if_pos (by omega)], fun _ => rfl⟩
      · rw [if_neg c, ih]
        constructor
        · intro h y h1 h2
          by_cases f : t - k < v
          · have := h v (by omega) (by omega)
            rw [sem_before hv] at this
            nomatch this
          · rw [full, if_neg (by omega)]
            exact h y h1 h2
        · intro h y h1 h2
          by_cases f : t - k < v
          · have := h v (by omega) (by omega)
            rw [full, if_neg (by omega), sem_before hv] at this
            nomatch this
          · have := h y h1 h2
            rwa [full, if_neg (by omega)] at this
theorem semF_off {k : Int} (hk : 0 ≤ k) {x : Fl} (hx : Wd 0 0 x) (t : Int) : semF (fM 0 k (fF k x)) t = false ↔ ∀ y, t - k ≤ y → y ≤ t → semF x y = false := by
  have h := semF_on hk (x := fT x) (Wd_T.mpr hx) t
  rw [fD_T, fM_T, semF_T] at h
  constructor
  · intro h1 y h2 h3
    have := h.mp (by rw [h1]; rfl) y h2 h3
    rw [semF_T] at this
    simpa using this
  · intro h1
    have := h.mpr fun y h2 h3 => by rw [semF_T, h1 y h2 h3]; rfl
    simpa using this
/-! triples tick by tick -/
def inR (R : List Run) (t : Int) : Bool := R.any fun r => decide (r.1 ≤ t) && decide (t < r.2)
def semT (z : Tri) (t : Int) : Bool := (match z.u with | some u => decide (t < u) | none => false) || ((match z.s with | some s => decide (s ≤ t) | none => false) || inR z.R t)
theorem sem_pair : ∀ (l : List Int) (t : Int), alt 0 0 l → sem false l t = ((match (pair l).2 with | some s => decide (s ≤ t) | none => false) || inR (pair l).1 t)
  | [], t, _ => rfl
  | [a], t, _ => by
    simp only [sem, pair, inR, List.any_nil, Bool.or_false]
    by_cases c : t < a
    · rw [if_pos c]; simp; omega
    · rw [if_neg c]; simp; omega
  | a :: b :: l, t, hl => by
    have h1 := hl.1
    have ih := sem_pair l t (alt_tail (alt_tail hl))
    have hb : ∀ c r, l = c :: r → b < c := by
      intro c r e; subst e; have := hl.2.1; omega
    simp only [sem, pair]
    have e : inR ((a, b) :: (pair l).1) t = (decide (a ≤ t) && decide (t < b) || inR (pair l).1 t) := rfl
    rw [e]
    by_cases c : t < b
    · have hz := sem_before (b := false) (l := l) (t := t) fun x r e => by have := hb x r e; omega
      rw [ih] at hz
      simp only [Bool.or_eq_false_iff] at hz
      rw [hz.1, hz.2]
      by_cases d : t < a
      · rw [if_pos d]; simp; omega
      · rw [if_neg d, if_pos c]; simp; omega
    · rw [if_neg (by omega), if_neg c]
      have : decide (t < b) = false := by simp; omega
      rw [this]
      simp only [Bool.and_false, Bool.false_or]
      rw [← ih]
      rfl
theorem semF_T3 {x : Fl} (h : Wd 0 0 x) (t : Int) : semT (ofF x) t = semF x t := by
  rcases x with ⟨b, l⟩
  cases b
  · have h' : alt 0 0 l := h
    show semT ⟨none, (pair l).1, (pair l).2⟩ t = sem false l t
    rw [sem_pair l t h']; rfl
  · cases l with
    | nil =>
      show semT AO t = true
      simp [semT, AO, inR]; omega
    | cons v l =>
      have h' : alt 0 0 (v :: l) := h
      have hv : ∀ c r, l = c :: r → v < c := by
        intro c r e; subst e; have := h'.1; omega
      show semT ⟨some v, (pair l).1, (pair l).2⟩ t = if t < v then true else sem false l t
      unfold semT
      simp only
      by_cases c : t < v
      · rw [if_pos c]; simp [c]
      · rw [if_neg c, sem_pair l t (alt_tail h')]; simp [c]
theorem inR_app (A B : List Run) (t : Int) : inR (A ++ B) t = (inR A t || inR B t) := by unfold inR; rw [List.any_append]
theorem inR_train {on g : Int} (hon : 1 ≤ on) (hg : 0 ≤ g) (t : Int) : ∀ (n : Nat) (a : Int), inR (train a on g n) t = (decide (a ≤ t) && decide (t < a + n * (on + g) - g) && decide ((t - a) % (on + g) < on))
  | 0, a => by
    have : (decide (a ≤ t) && decide (t < a + ((0 : Nat) : Int) * (on + g) - g)) = false := by simp; omega
    rw [this]; rfl
  | n + 1, a => by
    rw [train_succ]
    have e : inR ((a, a + on) :: train (a + on + g) on g n) t = (decide (a ≤ t) && decide (t < a + on) || inR (train (a + on + g) on g n) t) := rfl
    rw [e, inR_train hon hg t n (a + on + g)]
    have en : a + ((n + 1 : Nat) : Int) * (on + g) - g = (a + on + g) + n * (on + g) - g := by push_cast; grind
    rw [en]
    have hn : 0 ≤ (n : Int) * (on + g) := Int.mul_nonneg (by omega) (by omega)
    have em : (t - (a + on + g)) % (on + g) = (t - a) % (on + g) := by
      have : t - (a + on + g) = (t - a) - (on + g) := by omega
      rw [this, Int.sub_emod_right]
    rw [em]
    by_cases c1 : a ≤ t
    · by_cases c2 : t < a + on + g
      · have e2 : (t - a) % (on + g) = t - a := Int.emod_eq_of_lt (by omega) (by omega)
        rw [e2]
        have c3 : decide (a + on + g ≤ t) = false := by simp; omega
        rw [c3]
        simp only [Bool.false_and, Bool.or_false]
        by_cases c4 : t < a + on
        · have c5 : t < (a + on + g) + (n : Int) * (on + g) - g := by omega
          simp [c1, c4, c5]; omega
        · simp [c1, c4]; omega
      · have c3 : ¬ t < a + on := by omega
        have c4 : a + on + g ≤ t := by omega
        simp [c1, c3, c4]
    · have c4 : ¬ a + on + g ≤ t := by omega
      simp [c1, c4]
theorem inR_burst {M : Int} {b : Bu} (h : b.fit M) (t : Int) : inR b.runs t = (decide (b.tick ≤ t) && decide (t < b.end) && decide ((t - b.tick) % (b.on + b.off) < b.on)) := by
  have h1 := h.ok.times
  show inR (train b.tick b.on b.off b.times.toNat) t = _
  rw [inR_train h.on h.off]
  have e : ((b.times.toNat : Nat) : Int) = b.times := by omega
  have e2 : b.tick + b.times * (b.on + b.off) - b.off = b.end := by unfold Bu.end; grind
  rw [e, e2]
end Law
end
section
set_option autoImplicit false
/-! Windows of what is on: plain. -/
namespace Law
open PySem PL
def Hd (f : Int → Bool) (t : Int) (n : Nat) : List Bool := (List.range (n + 1)).map fun (j : Nat) => f (t - n + j)
theorem hd_len (f : Int → Bool) (t : Int) (n : Nat) : (Hd f t n).length = n + 1 := by simp [Hd]
theorem hd_get (f : Int → Bool) (t : Int) (n i : Nat) (h : i ≤ n) : (Hd f t n)[i]? = some (f (t - n + i)) := by
  unfold Hd
  rw [List.getElem?_map, List.getElem?_range (by omega)]; rfl
theorem hd_delay (f : Int → Bool) (t : Int) (n p : Nat) (h : p ≤ n) : (Hd f t n).take (n + 1 - p) = Hd (fun y => f (y - p)) t (n - p) := by
  apply List.ext_getElem?
  intro i
  rw [List.getElem?_take]
  by_cases c : i ≤ n - p
  · rw [if_pos (by omega), hd_get _ _ _ _ (by omega), hd_get _ _ _ _ c]
    congr 2
    omega
  · rw [if_neg (by omega), List.getElem?_eq_none (by rw [hd_len]; omega)]
/-- what lies in a window -/
def win (L : List Bool) (p i : Nat) : List Bool := (L.drop i).take (p + 1)
def cnt (l : List Bool) : Int := (l.map fun b => (if b then 1 else 0 : Int)).sum
theorem cnt_cons (b : Bool) (l : List Bool) : cnt (b :: l) = (if b then 1 else 0) + cnt l := by simp [cnt]
theorem cnt_bd (l : List Bool) : 0 ≤ cnt l ∧ cnt l ≤ l.length ∧ (cnt l = l.length ↔ ∀ b ∈ l, b = true) ∧ (0 < cnt l ↔ ∃ b ∈ l, b = true) := by
  induction l with
  | nil => simp [cnt]
  | cons b l ih =>
    obtain ⟨h1, h2, h3, h4⟩ := ih
    rw [cnt_cons]
    simp only [List.length_cons, List.mem_cons, forall_eq_or_imp, exists_eq_or_imp]
    cases b
    · refine ⟨by simp; omega, by simp; omega, ?_, ?_⟩
      · constructor
        · intro h; simp at h; omega
        · intro h; nomatch h.1
      · simp; simpa using h4
    · refine ⟨by simp; omega, by simp; omega, ?_, ?_⟩
      · simp only [if_true, true_and]
        rw [← h3]; push_cast; omega
      · simp; omega
def winOn (f : Int → Bool) (p : Nat) (t : Int) : Bool := (List.range (p + 1)).all fun (j : Nat) => f (t - j)
def winOff (f : Int → Bool) (p : Nat) (t : Int) : Bool := (List.range (p + 1)).any fun (j : Nat) => f (t - j)
theorem winOn_iff (f : Int → Bool) (p : Nat) (t : Int) : winOn f p t = true ↔ ∀ y, t - p ≤ y → y ≤ t → f y = true := by
  unfold winOn
  rw [List.all_eq_true]
  constructor
  · intro h y h1 h2
    have := h (t - y).toNat (by rw [List.mem_range]; omega)
    have e : t - ((t - y).toNat : Int) = y := by omega
    rwa [e] at this
  · intro h j hj
    rw [List.mem_range] at hj
    exact h _ (by omega) (by omega)
theorem winOff_iff (f : Int → Bool) (p : Nat) (t : Int) : winOff f p t = true ↔ ∃ y, t - p ≤ y ∧ y ≤ t ∧ f y = true := by
  unfold winOff
  rw [List.any_eq_true]
  constructor
  · rintro ⟨j, hj, h⟩
    rw [List.mem_range] at hj
    exact ⟨_, by omega, by omega, h⟩
  · rintro ⟨y, h1, h2, h⟩
    refine ⟨(t - y).toNat, by rw [List.mem_range]; omega, ?_⟩
    have e : t - ((t - y).toNat : Int) = y := by omega
    rwa [e]
theorem win_mem (f : Int → Bool) (t : Int) (n p i : Nat) (h : i + p ≤ n) (b : Bool) : b ∈ win (Hd f t n) p i ↔ ∃ y, (t - n + p + i) - p ≤ y ∧ y ≤ t - n + p + i ∧ f y = b := by
  unfold win
  constructor
  · intro hb
    obtain ⟨k, hk⟩ := List.getElem?_of_mem hb
    rw [List.getElem?_take] at hk
    split at hk
    · rw [List.getElem?_drop, hd_get _ _ _ _ (by omega)] at hk
      cases hk
      exact ⟨_, by push_cast; omega, by push_cast; omega, rfl⟩
    · nomatch hk
  · rintro ⟨y, h1, h2, rfl⟩
    have e : ((Hd f t n).drop i |>.take (p + 1))[(y - (t - n + i)).toNat]? = some (f y) := by
      rw [List.getElem?_take, if_pos (by omega), List.getElem?_drop, hd_get _ _ _ _ (by omega)]
      congr 2
      push_cast
      omega
    exact List.mem_of_getElem? e
theorem win_len (f : Int → Bool) (t : Int) (n p i : Nat) (h : i + p ≤ n) : (win (Hd f t n) p i).length = p + 1 := by
  unfold win
  rw [List.length_take, List.length_drop, hd_len]; omega
theorem win_on (f : Int → Bool) (t : Int) (n p i : Nat) (h : i + p ≤ n) : decide ((p : Int) < cnt (win (Hd f t n) p i)) = winOn f p (t - (n - p : Nat) + i) := by
  obtain ⟨h1, h2, h3, h4⟩ := cnt_bd (win (Hd f t n) p i)
  rw [win_len f t n p i h] at h2 h3
  have e : t - ((n - p : Nat) : Int) + i = t - n + p + i := by omega
  rw [e]
  have k : (p : Int) < cnt (win (Hd f t n) p i) ↔ winOn f p (t - n + p + i) = true := by
    rw [winOn_iff]
    constructor
    · intro hc y a b
      have := h3.mp (by push_cast; omega)
      exact this _ ((win_mem f t n p i h (f y)).mpr ⟨y, a, b, rfl⟩)
    · intro hc
      have := h3.mpr fun b hb => by
        obtain ⟨y, a, c, rfl⟩ := (win_mem f t n p i h b).mp hb
        exact hc y a c
      push_cast at this
      omega
  cases hw : winOn f p (t - n + p + i)
  · rw [hw] at k; simp at k; simp; exact k
  · rw [hw] at k; simp at k; simp; exact k
theorem win_off (f : Int → Bool) (t : Int) (n p i : Nat) (h : i + p ≤ n) : decide ((0 : Int) < cnt (win (Hd f t n) p i)) = winOff f p (t - (n - p : Nat) + i) := by
  obtain ⟨h1, h2, h3, h4⟩ := cnt_bd (win (Hd f t n) p i)
  have e : t - ((n - p : Nat) : Int) + i = t - n + p + i := by omega
  rw [e]
  have k : (0 : Int) < cnt (win (Hd f t n) p i) ↔ winOff f p (t - n + p + i) = true := by
    rw [winOff_iff, h4]
    constructor
    · rintro ⟨b, hb, rfl⟩
      obtain ⟨y, a, c, d⟩ := (win_mem f t n p i h true).mp hb
      exact ⟨y, a, c, d⟩
    · rintro ⟨y, a, c, d⟩
      exact ⟨true, (win_mem f t n p i h true).mpr ⟨y, a, c, d⟩, rfl⟩
  cases hw : winOff f p (t - n + p + i)
  · rw [hw] at k; simp at k; simp; exact k
  · rw [hw] at k; simp at k; simp; exact k
/-- one part, tick by tick -/
def fpS (f : Int → Bool) : Part → Int → Bool
  | .turn => fun t => !f t
  | .delay k => fun t => f (t - k)
  | .on k => winOn f k.toNat
  | .off k => winOff f k.toNat
theorem fpS_eq {x : Fl} (hx : Wd 0 0 x) {p : Part} (hp : 0 ≤ p.num) (t : Int) : fpS (semF x) p t = semF (fbp x p) t := by
  cases p with
  | turn => exact (semF_T x t).symm
  | delay k => exact (semF_delay k x t).symm
  | on k =>
    simp only [num_on] at hp
    have h1 := semF_on hp hx t
    have h2 := winOn_iff (semF x) k.toNat t
    have e : ((k.toNat : Nat) : Int) = k := by omega
    rw [e, ← h1] at h2
    show winOn (semF x) k.toNat t = semF (fM k 0 (fD k x)) t
    exact Bool.eq_iff_iff.mpr h2
  | off k =>
    simp only [num_off] at hp
    have h1 := semF_off hp hx t
    have h2 := winOff_iff (semF x) k.toNat t
    have e : ((k.toNat : Nat) : Int) = k := by omega
    rw [e] at h2
    show winOff (semF x) k.toNat t = semF (fM 0 k (fF k x)) t
    refine Bool.eq_iff_iff.mpr ?_
    rw [h2]
    constructor
    · rintro ⟨y, a, b, c⟩
      by_cases d : semF (fM 0 k (fF k x)) t = true
      · exact d
      · have := h1.mp (by simpa using d) y a b
        rw [this] at c; nomatch c
    · intro h
      apply Classical.byContradiction
      intro hn
      have := h1.mpr fun y a b => by
        cases hs : semF x y
        · rfl
        · exact absurd ⟨y, a, b, hs⟩ hn
      rw [this] at h; nomatch h
end Law
end
section
set_option autoImplicit false
/-! One signal, one list of flips; what stays the same far out. -/
namespace Law
open PySem PL
theorem sem_inj : ∀ (b b' : Bool) (l l' : List Int), l.Pairwise (· < ·) → l'.Pairwise (· < ·) → (∀ t, sem b l t = sem b' l' t) → b = b' ∧ l = l' := by
  have start : ∀ (b : Bool) (l : List Int), ∃ T : Int, ∀ t, t < T → sem b l t = b := by
    intro b l
    cases l with
    | nil => exact ⟨0, fun _ _ => rfl⟩
    | cons v l => exact ⟨v, fun t h => by rw [sem, if_pos h]⟩
  have main : ∀ (n : Nat) (b : Bool) (l l' : List Int), l.length = n → l.Pairwise (· < ·) → l'.Pairwise (· < ·) → (∀ t, sem b l t = sem b l' t) → l = l' := by
    intro n
    induction n with
    | zero =>
      intro b l l' hn _ h' h
      have : l = [] := List.length_eq_zero_iff.mp hn
      subst this
      cases l' with
      | nil => rfl
      | cons v r =>
        have h1 := h v
        have hv : ∀ a s, r = a :: s → v < a := fun a s e => by subst e; exact (List.pairwise_cons.mp h').1 a (by simp)
        have h2 : sem b (v :: r) v = !b := by rw [sem, if_neg (by omega), sem_before hv]
        rw [h2] at h1
        have : b = !b := h1
        cases b <;> nomatch this
    | succ n ih =>
      intro b l l' hn hl h' h
      cases l with
      | nil => nomatch hn
      | cons v r =>
        have hv : ∀ a s, r = a :: s → v < a := fun a s e => by subst e; exact (List.pairwise_cons.mp hl).1 a (by simp)
        have h2 : sem b (v :: r) v = !b := by rw [sem, if_neg (by omega), sem_before hv]
        cases l' with
        | nil =>
          have h1 := h v
          rw [h2] at h1
          have : (!b) = b := h1
          cases b <;> nomatch this
        | cons v' r' =>
          have hv' : ∀ a s, r' = a :: s → v' < a := fun a s e => by subst e; exact (List.pairwise_cons.mp h').1 a (by simp)
          have h2' : sem b (v' :: r') v' = !b := by rw [sem, if_neg (by omega), sem_before hv']
          have e : v = v' := by
            rcases Int.lt_trichotomy v v' with c | c | c
            · have h1 := h v
              rw [h2, sem, if_pos c] at h1
              cases b <;> nomatch h1
            · exact c
            · have h1 := h v'
              rw [h2', sem, if_pos c] at h1
              cases b <;> nomatch h1
          subst e
          have := ih (!b) r r' (by simpa using hn) (List.pairwise_cons.mp hl).2 (List.pairwise_cons.mp h').2 (fun t => by
            by_cases c : t < v
            · rw [sem_before fun a s e => by have := hv a s e; omega, sem_before fun a s e => by have := hv' a s e; omega]
            · have h1 := h t
              rw [sem, sem, if_neg c, if_neg c] at h1
              exact h1)
          rw [this]
  intro b b' l l' h1 h2 h
  have e : b = b' := by
    obtain ⟨T, hT⟩ := start b l
    obtain ⟨T', hT'⟩ := start b' l'
    have a := hT (min T T' - 1) (by omega)
    have c := hT' (min T T' - 1) (by omega)
    rw [← a, ← c]; exact h _
  subst e
  exact ⟨rfl, main _ b l l' rfl h1 h2 h⟩
theorem semF_inj {x y : Fl} (hx : Wd 0 0 x) (hy : Wd 0 0 y) (h : ∀ t, semF x t = semF y t) : x = y := by
  have := sem_inj x.1 y.1 x.2 y.2 (Wd_asc (Int.le_refl 0) (Int.le_refl 0) hx) (Wd_asc (Int.le_refl 0) (Int.le_refl 0) hy) h
  exact Prod.ext this.1 this.2
theorem fans_wd {row : List Part} (h : ∀ p ∈ row, 0 ≤ p.num) : ∀ {x : Fl}, Wd 0 0 x → Wd 0 0 (fans row x) := by
  induction row with
  | nil => intro x hx; exact hx
  | cons p row ih =>
    intro x hx
    refine ih (fun q hq => h q (by simp [hq])) ?_
    have hp := h p (by simp)
    cases p with
    | turn => exact Wd_T.mpr hx
    | delay k => exact Wd_mono (Wd_M k k hx) (by omega) (by omega)
    | on k => simp only [num_on] at hp; exact Wd_mono (Wd_M k 0 (Wd_D (Int.le_refl 0) (Int.le_refl 0) hp hx)) (by omega) (by omega)
    | off k => simp only [num_off] at hp; exact Wd_mono (Wd_M 0 k (Wd_F (Int.le_refl 0) (Int.le_refl 0) hp hx)) (by omega) (by omega)
/-- a row, tick by tick -/
def rowS (f : Int → Bool) (row : List Part) : Int → Bool := row.foldl fpS f
theorem rowS_eq {row : List Part} (h : ∀ p ∈ row, 0 ≤ p.num) : ∀ {x : Fl}, Wd 0 0 x → semF (fans row x) = rowS (semF x) row := by
  induction row with
  | nil => intro x _; rfl
  | cons p row ih =>
    intro x hx
    have hp := h p (by simp)
    have e : fpS (semF x) p = semF (fbp x p) := funext fun t => fpS_eq hx hp t
    have hw : Wd 0 0 (fbp x p) := fans_wd (row := [p]) (by simpa using hp) hx
    have := ih (fun q hq => h q (by simp [hq])) hw
    show semF (fans row (fbp x p)) = rowS (fpS (semF x) p) row
    rw [e, this]
/-- the same up to a tick -/
def Lft (f : Int → Bool) (T : Int) : Prop := ∀ t, t ≤ T → f t = f T
def Rgt (f : Int → Bool) (T : Int) : Prop := ∀ t, T ≤ t → f t = f T
theorem winOn_same {f : Int → Bool} {p : Nat} {t : Int} {c : Bool} (h : ∀ y, t - p ≤ y → y ≤ t → f y = c) : winOn f p t = c := by
  cases c
  · cases hw : winOn f p t
    · rfl
    · have := (winOn_iff f p t).mp hw t (by omega) (by omega)
      rw [h t (by omega) (by omega)] at this; exact this.symm
  · exact (winOn_iff f p t).mpr h
theorem winOff_same {f : Int → Bool} {p : Nat} {t : Int} {c : Bool} (h : ∀ y, t - p ≤ y → y ≤ t → f y = c) : winOff f p t = c := by
  cases c
  · cases hw : winOff f p t
    · rfl
    · obtain ⟨y, a, b, d⟩ := (winOff_iff f p t).mp hw
      rw [h y a b] at d; exact d.symm
  · exact (winOff_iff f p t).mpr ⟨t, by omega, by omega, h t (by omega) (by omega)⟩
theorem fpS_lft {f : Int → Bool} {T : Int} (h : Lft f T) {p : Part} (hp : 0 ≤ p.num) : Lft (fpS f p) T := by
  intro t ht
  cases p with
  | turn => simp only [fpS]; rw [h t ht]
  | delay k =>
    simp only [num_delay] at hp
    simp only [fpS]; rw [h (t - k) (by omega), h (T - k) (by omega)]
  | on k =>
    simp only [num_on] at hp
    simp only [fpS]
    rw [winOn_same (c := f T) fun y _ b => h y (by omega), winOn_same (c := f T) fun y _ b => h y b]
  | off k =>
    simp only [num_off] at hp
    simp only [fpS]
    rw [winOff_same (c := f T) fun y _ b => h y (by omega), winOff_same (c := f T) fun y _ b => h y b]
theorem fpS_rgt {f : Int → Bool} {T : Int} (h : Rgt f T) {p : Part} (hp : 0 ≤ p.num) : Rgt (fpS f p) (T + p.num) := by
  intro t ht
  cases p with
  | turn => simp only [num_turn] at ht ⊢; simp only [fpS]; rw [h t (by omega), h (T + 0) (by omega)]
  | delay k =>
    simp only [num_delay] at hp ht ⊢
    simp only [fpS]; rw [h (t - k) (by omega), h (T + k - k) (by omega)]
  | on k =>
    simp only [num_on] at hp ht ⊢
    simp only [fpS]
    rw [winOn_same (c := f T) fun y a _ => h y (by omega), winOn_same (c := f T) fun y a _ => h y (by omega)]
  | off k =>
    simp only [num_off] at hp ht ⊢
    simp only [fpS]
    rw [winOff_same (c := f T) fun y a _ => h y (by omega), winOff_same (c := f T) fun y a _ => h y (by omega)]
def tot (row : List Part) : Int := (row.map Part.num).sum
theorem tot_cons (p : Part) (row : List Part) : tot (p :: row) = p.num + tot row := by simp [tot]
theorem tot_pos {row : List Part} (h : ∀ p ∈ row, 0 ≤ p.num) : 0 ≤ tot row := by
  induction row with
  | nil => simp [tot]
  | cons p row ih => rw [tot_cons]; have := ih fun q hq => h q (by simp [hq]); have := h p (by simp); omega
theorem tot_app (a b : List Part) : tot (a ++ b) = tot a + tot b := by unfold tot; rw [List.map_append, List.sum_append]
theorem tot_step {row : List Part} {i : Nat} {p : Part} (hx : row[i]? = some p) : tot (row.take (i + 1)) = tot (row.take i) + p.num := by
  rw [take_succ' hx, tot_app, tot_cons]; simp [tot]
theorem tot_take_le {row : List Part} (h : ∀ p ∈ row, 0 ≤ p.num) (i : Nat) : 0 ≤ tot (row.take i) ∧ tot (row.take i) ≤ tot row := by
  have e : tot row = tot (row.take i) + tot (row.drop i) := by
    conv => lhs; rw [← List.take_append_drop i row]
    rw [tot_app]
  have h1 := tot_pos (row := row.take i) fun q hq => h q (List.mem_of_mem_take hq)
  have h2 := tot_pos (row := row.drop i) fun q hq => h q (List.mem_of_mem_drop hq)
  omega
theorem rowS_step {row : List Part} {i : Nat} {p : Part} (hx : row[i]? = some p) (g : Int → Bool) : rowS g (row.take (i + 1)) = fpS (rowS g (row.take i)) p := by
  rw [take_succ' hx]; unfold rowS; rw [List.foldl_append]; rfl
theorem rowS_lft (row : List Part) (h : ∀ p ∈ row, 0 ≤ p.num) : ∀ {f : Int → Bool} {T : Int}, Lft f T → Lft (rowS f row) T := by
  induction row with
  | nil => intro f T hf; exact hf
  | cons p row ih => intro f T hf; exact ih (fun q hq => h q (by simp [hq])) (fpS_lft hf (h p (by simp)))
theorem rowS_rgt (row : List Part) (h : ∀ p ∈ row, 0 ≤ p.num) : ∀ {f : Int → Bool} {T : Int}, Rgt f T → Rgt (rowS f row) (T + tot row) := by
  induction row with
  | nil => intro f T hf; simpa [tot, rowS] using hf
  | cons p row ih =>
    intro f T hf
    have := ih (fun q hq => h q (by simp [hq])) (fpS_rgt hf (h p (by simp)))
    rw [tot_cons, ← Int.add_assoc]
    exact this
end Law
end
section
set_option autoImplicit false
/-! Loose rows: plain. -/
namespace Law
open PySem PL
inductive LP | turn | delay (k : Int) | on (lo hi : Int) | off (lo hi : Int)
def LP.pv : LP → PV
  | .turn => .tup [.str "turn"]
  | .delay k => .tup [.str "delay", .int k]
  | .on a b => .tup [.str "on", .int a, .int b]
  | .off a b => .tup [.str "off", .int a, .int b]
def LP.ch (more : Bool) : LP → Part
  | .turn => .turn
  | .delay k => .delay k
  | .on a b => .on (if more then a else b)
  | .off a b => .off (if more then b else a)
def LP.isT : LP → Bool
  | .turn => true
  | _ => false
def oddT : List LP → Bool
  | [] => false
  | p :: l => xor p.isT (oddT l)
def choiceP : List LP → Bool → List Part
  | [], _ => []
  | p :: l, more => p.ch (xor more (oddT l)) :: choiceP l more
theorem choiceP_len : ∀ (l : List LP) (b : Bool), (choiceP l b).length = l.length
  | [], _ => rfl
  | p :: l, b => by simp [choiceP, choiceP_len l b]
def LP.opt : LP → Part → Prop
  | .turn, q => q = .turn
  | .delay k, q => q = .delay k
  | .on a b, q => ∃ t, q = .on t ∧ a ≤ t ∧ t ≤ b
  | .off a b, q => ∃ t, q = .off t ∧ a ≤ t ∧ t ≤ b
def LP.ok (B : Int) : LP → Prop
  | .turn => 0 ≤ B
  | .delay k => 0 ≤ k ∧ k ≤ B
  | .on a b => 0 ≤ a ∧ a ≤ b ∧ b ≤ B
  | .off a b => 0 ≤ a ∧ a ≤ b ∧ b ≤ B
theorem ch_opt {B : Int} {p : LP} (h : p.ok B) (more : Bool) : p.opt (p.ch more) := by
  cases p with
  | turn => rfl
  | delay k => rfl
  | on a b =>
    cases more
    · exact ⟨b, rfl, h.2.1, Int.le_refl _⟩
    · exact ⟨a, rfl, Int.le_refl _, h.2.1⟩
  | off a b =>
    cases more
    · exact ⟨a, rfl, Int.le_refl _, h.2.1⟩
    · exact ⟨b, rfl, h.2.1, Int.le_refl _⟩
theorem opt_ok {B : Int} {p : LP} (h : p.ok B) {q : Part} (hq : p.opt q) : q.ok B := by
  cases p with
  | turn => cases hq; exact ⟨by simp [num_turn], by simp only [num_turn]; exact h⟩
  | delay k => cases hq; exact h
  | on a b => obtain ⟨t, rfl, h1, h2⟩ := hq; exact ⟨by simp only [num_on]; have := h.1; omega, by simp only [num_on]; have := h.2.2; omega⟩
  | off a b => obtain ⟨t, rfl, h1, h2⟩ := hq; exact ⟨by simp only [num_off]; have := h.1; omega, by simp only [num_off]; have := h.2.2; omega⟩
inductive IsCh : List Part → List LP → Prop
  | nil : IsCh [] []
  | cons {q : Part} {p : LP} {r : List Part} {l : List LP} : p.opt q → IsCh r l → IsCh (q :: r) (p :: l)
theorem isCh_choice {B : Int} : ∀ {l : List LP}, (∀ p ∈ l, p.ok B) → ∀ b, IsCh (choiceP l b) l
  | [], _, _ => .nil
  | p :: l, h, b => .cons (ch_opt (h p (by simp)) _) (isCh_choice (fun q hq => h q (by simp [hq])) b)
def leS (s : Bool) (f g : Int → Bool) : Prop := if s then ∀ t, f t = true → g t = true else ∀ t, g t = true → f t = true
theorem winOn_mono {f g : Int → Bool} {j k : Nat} (h : ∀ t, f t = true → g t = true) (hk : k ≤ j) (t : Int) : winOn f j t = true → winOn g k t = true := by
  rw [winOn_iff, winOn_iff]
  exact fun a y h1 h2 => h y (a y (by omega) h2)
theorem winOff_mono {f g : Int → Bool} {j k : Nat} (h : ∀ t, f t = true → g t = true) (hk : j ≤ k) (t : Int) : winOff f j t = true → winOff g k t = true := by
  rw [winOff_iff, winOff_iff]
  exact fun ⟨y, a, b, c⟩ => ⟨y, by omega, b, h y c⟩
theorem dom {B : Int} : ∀ {l : List LP} {r : List Part}, (∀ p ∈ l, p.ok B) → IsCh r l → ∀ (more : Bool) (f g : Int → Bool), leS (xor more (oddT l)) f g → leS more (rowS f r) (rowS g (choiceP l more))
  | [], _, _, .nil, more, f, g, h => by
    have e : xor more (oddT []) = more := by simp [oddT]
    rw [e] at h; exact h
  | p :: l, q :: r, hok, .cons ho hc, more, f, g, h => by
    have hp := hok p (by simp)
    refine dom (l := l) (r := r) (fun z hz => hok z (by simp [hz])) hc more (fpS f q) (fpS g (p.ch (xor more (oddT l)))) ?_
    cases p with
    | turn =>
      cases ho
      have h' : leS (!(xor more (oddT l))) f g := by
        have : xor more (oddT (LP.turn :: l)) = !(xor more (oddT l)) := by simp [oddT, LP.isT]
        rw [this] at h; exact h
      simp only [LP.ch, fpS]
      cases hs : xor more (oddT l)
      · rw [hs] at h'
        intro t ht
        have := h' t
        show (!f t) = true
        replace ht : (!g t) = true := ht
        cases hf : f t
        · rfl
        · rw [this hf] at ht; nomatch ht
      · rw [hs] at h'
        intro t ht
        have := h' t
        show (!g t) = true
        replace ht : (!f t) = true := ht
        cases hf : g t
        · rfl
        · rw [this hf] at ht; nomatch ht
    | delay k =>
      cases ho
      have h' : leS (xor more (oddT l)) f g := by
        have : xor more (oddT (LP.delay k :: l)) = xor more (oddT l) := by simp [oddT, LP.isT]
        rw [this] at h; exact h
      simp only [LP.ch, fpS]
      cases hs : xor more (oddT l)
      · rw [hs] at h'; intro t ht; exact h' _ ht
      · rw [hs] at h'; intro t ht; exact h' _ ht
    | on a b =>
      obtain ⟨t0, rfl, h1, h2⟩ := ho
      have h' : leS (xor more (oddT l)) f g := by
        have : xor more (oddT (LP.on a b :: l)) = xor more (oddT l) := by simp [oddT, LP.isT]
        rw [this] at h; exact h
      have h0 := hp.1
      simp only [LP.ch, fpS]
      cases hs : xor more (oddT l)
      · rw [hs] at h'; intro t ht; exact winOn_mono h' (by simp; omega) t ht
      · rw [hs] at h'; intro t ht; exact winOn_mono h' (by simp; omega) t ht
    | off a b =>
      obtain ⟨t0, rfl, h1, h2⟩ := ho
      have h' : leS (xor more (oddT l)) f g := by
        have : xor more (oddT (LP.off a b :: l)) = xor more (oddT l) := by simp [oddT, LP.isT]
        rw [this] at h; exact h
      have h0 := hp.1
      simp only [LP.ch, fpS]
      cases hs : xor more (oddT l)
      · rw [hs] at h'; intro t ht; exact winOff_mono h' (by simp; omega) t ht
      · rw [hs] at h'; intro t ht; exact winOff_mono h' (by simp; omega) t ht
theorem leS_refl (s : Bool) (f : Int → Bool) : leS s f f := by cases s <;> exact fun _ h => h
/-! the program's way: from behind -/
theorem oddT_app : ∀ (a b : List LP), oddT (a ++ b) = xor (oddT a) (oddT b)
  | [], b => by simp [oddT]
  | p :: a, b => by simp [oddT, oddT_app a b]
def cstep (z : List Part × Bool) (p : LP) : List Part × Bool := (z.1 ++ [p.ch z.2], xor z.2 p.isT)
theorem c_fold : ∀ (l : List LP) (more : Bool), l.reverse.foldl cstep ([], more) = ((choiceP l more).reverse, xor more (oddT l))
  | [], more => by simp [choiceP, oddT]
  | p :: l, more => by
    rw [List.reverse_cons, List.foldl_append, c_fold l more]
    simp [cstep, choiceP, oddT]
    cases more <;> cases p.isT <;> cases oddT l <;> rfl
/-! all choices -/
def LP.every : LP → List Part
  | .turn => [.turn]
  | .delay k => [.delay k]
  | .on a b => (List.range (b + 1 - a).toNat).map fun (j : Nat) => .on (a + j)
  | .off a b => (List.range (b + 1 - a).toNat).map fun (j : Nat) => .off (a + j)
def longer (found : List (List Part)) (every : List Part) : List (List Part) := every.flatMap fun q => found.map fun r => r ++ [q]
def choices (l : List LP) : List (List Part) := l.foldl (fun f p => longer f p.every) [[]]
theorem every_opt {p : LP} {q : Part} : q ∈ p.every ↔ p.opt q := by
  cases p with
  | turn => simp [LP.every, LP.opt]
  | delay k => simp [LP.every, LP.opt]
  | on a b =>
    simp only [LP.every, LP.opt, List.mem_map, List.mem_range]
    constructor
    · rintro ⟨j, hj, rfl⟩; exact ⟨_, rfl, by omega, by omega⟩
    · rintro ⟨t, rfl, h1, h2⟩; exact ⟨(t - a).toNat, by omega, by congr 1; omega⟩
  | off a b =>
    simp only [LP.every, LP.opt, List.mem_map, List.mem_range]
    constructor
    · rintro ⟨j, hj, rfl⟩; exact ⟨_, rfl, by omega, by omega⟩
    · rintro ⟨t, rfl, h1, h2⟩; exact ⟨(t - a).toNat, by omega, by congr 1; omega⟩
theorem isCh_snoc {r : List Part} {l : List LP} (h : IsCh r l) {q : Part} {p : LP} (hp : p.opt q) : IsCh (r ++ [q]) (l ++ [p]) := by
  induction h with
  | nil => exact .cons hp .nil
  | cons a _ ih => exact .cons a ih
theorem isCh_unsnoc {r : List Part} {l : List LP} {p : LP} (h : IsCh r (l ++ [p])) : ∃ r' q, r = r' ++ [q] ∧ IsCh r' l ∧ p.opt q := by
  induction l generalizing r with
  | nil =>
    cases h with
    | cons a b => cases b; exact ⟨[], _, rfl, .nil, a⟩
  | cons p0 l ih =>
    cases h with
    | cons a b =>
      obtain ⟨r', q, rfl, h1, h2⟩ := ih b
      exact ⟨_ :: r', q, rfl, .cons a h1, h2⟩
theorem choices_iff (l : List LP) : ∀ r, r ∈ choices l ↔ IsCh r l := by
  refine rev_ind (P := fun l => ∀ r, r ∈ choices l ↔ IsCh r l) ?_ ?_ l
  · intro r
    simp only [choices, List.foldl_nil, List.mem_singleton]
    constructor
    · rintro rfl; exact .nil
    · intro h; cases h; rfl
  · intro l p ih r
    have e : choices (l ++ [p]) = longer (choices l) p.every := by unfold choices; rw [List.foldl_append]; rfl
    rw [e]
    simp only [longer, List.mem_flatMap, List.mem_map]
    constructor
    · rintro ⟨q, hq, r', hr', rfl⟩
      exact isCh_snoc ((ih r').mp hr') (every_opt.mp hq)
    · intro h
      obtain ⟨r', q, rfl, h1, h2⟩ := isCh_unsnoc h
      exact ⟨q, every_opt.mpr h2, r', (ih r').mpr h1, rfl⟩
end Law
end
section
set_option autoImplicit false
namespace Law
open PySem PL
theorem part_good {p : Part} {B : Nat} (hB : B ≤ 10 ^ 100) (h : p.ok B) : Good 3 p.pv := by
  have h1 := h.1
  have h2 := h.2
  have hs : sml p.num := by
    have : (10 ^ 100 : Nat) < 10 ^ 200 := by decide +kernel
    show p.num.natAbs < 10 ^ 200
    omega
  cases p <;> simp only [Part.num] at hs
  · exact (Good.tup (Goods.cons (Good.str (by decide +kernel)) Goods.nil) (by simp)).mono (by decide)
  all_goals exact (Good.tup (Goods.cons (Good.str (by decide +kernel)) (Goods.cons (Good.int hs) Goods.nil)) (by simp)).mono (by decide)
theorem part_dp (p : Part) : p.pv.pd.depth = 1 := by cases p <;> simp [Part.pv]
theorem pvs_good {row : List Part} {B : Nat} (hB : B ≤ 10 ^ 100) (h : ∀ p ∈ row, p.ok B) : Good (3 * row.length + 1) (pvs row) :=
  Good.tup (Goods.map Part.pv row fun p hp => part_good hB (h p hp)) (dps_map _ _ _ fun p _ => by rw [part_dp p]; decide)
theorem sg_good {s : Sg} (h : sml s.2) : Good 3 (Sg.pv s) := ⟨Sg_data s, Sg_sm s h, by rw [Sg_wt s]; decide, by rw [Sg_dp s]; decide⟩
theorem ints_good {l : List Int} (h : ∀ x ∈ l, sml x) : Good (l.length + 1) (.tup (l.map .int)) := by
  have := Good.tup (Goods.map PV.int l fun x hx => Good.int (h x hx)) (dps_map _ _ _ fun x _ => by simp)
  simpa using this
structure Fit (row : List Part) : Prop where
  pos : ∀ p ∈ row, 0 ≤ p.num
  ex : ∃ B : Nat, B ≤ 10 ^ 100 ∧ ∀ p ∈ row, p.ok B
  len : row.length ≤ 100
theorem fit_sml {row : List Part} (h : Fit row) (i : Nat) : sml (wks (row.take i)).at_ ∧ (∀ x ∈ (wks (row.take i)).st, sml x.2) ∧ (wks (row.take i)).st.length ≤ 200 := by
  obtain ⟨B, hB, hok⟩ := h.ex
  have o := wks_ok (row.take i) (fun p hp => hok p (List.mem_of_mem_take hp)) W0 0 0 ⟨by simp [W0], by simp [W0], by simp [W0]⟩
  have hl : (row.take i).length ≤ 100 := by have := h.len; simp; omega
  have hb : 0 + B * (row.take i).length < 10 ^ 200 := by
    have h2 := Nat.mul_le_mul hB hl
    have h3 : (10 ^ 100 * 100 : Nat) < 10 ^ 200 := by decide +kernel
    omega
  exact ⟨Nat.lt_of_le_of_lt o.at_ hb, fun x hx => Nat.lt_of_le_of_lt (o.st x hx) hb, by have := o.len; change _ ≤ 0 + 2 * _ at this; exact Nat.le_trans this (by omega)⟩
theorem found_sml {row : List Part} (h : Fit row) : ∀ x ∈ foundL row, sml x := by
  intro x hx
  unfold foundL Wfd at hx
  obtain ⟨i, _, rfl⟩ := List.mem_map.mp hx
  exact (fit_sml h _).1
theorem found_len (row : List Part) : (foundL row).length = row.length := by simp [foundL, Wfd]
theorem late_sml {row : List Part} (h : Fit row) : sml (wks row).l0 ∧ sml (wks row).l1 := by
  obtain ⟨B, hB, hok⟩ := h.ex
  have : ∀ (row : List Part) (s : W) (b : Nat), (∀ p ∈ row, p.ok B) → s.l0.natAbs ≤ b → s.l1.natAbs ≤ b → (row.foldl wk s).l0.natAbs ≤ b + B * row.length ∧ (row.foldl wk s).l1.natAbs ≤ b + B * row.length := by
    intro row
    induction row with
    | nil => intro s b _ h1 h2; simpa using ⟨h1, h2⟩
    | cons p ps ih =>
      intro s b h0 h1 h2
      have hp := h0 p List.mem_cons_self
      have a1 := hp.1
      have a2 := hp.2
      have f3 : ∀ z : W, z.upH.upL.l0 = z.l0 := by
        intro z; unfold W.upH W.upL; by_cases c1 : z.at_ > z.hi
        · simp only [if_pos c1]; split <;> rfl
        · simp only [if_neg c1]; split <;> rfl
      have f4 : ∀ z : W, z.upH.upL.l1 = z.l1 := by
        intro z; unfold W.upH W.upL; by_cases c1 : z.at_ > z.hi
        · simp only [if_pos c1]; split <;> rfl
        · simp only [if_neg c1]; split <;> rfl
      have st : (wk s p).l0.natAbs ≤ b + B ∧ (wk s p).l1.natAbs ≤ b + B := by
        unfold wk
        rw [f3, f4]
        cases p <;> simp only [Part.num] at a1 a2 <;> simp only [W.mv]
        · omega
        · split <;> simp <;> omega
        · split <;> simp <;> omega
        · omega
      have := ih _ (b + B) (fun q hq => h0 q (List.mem_cons_of_mem _ hq)) st.1 st.2
      simp only [List.foldl_cons, List.length_cons, Nat.mul_add, Nat.mul_one]
      omega
  have o := this row W0 0 hok (by simp [W0]) (by simp [W0])
  have hb : 0 + B * row.length < 10 ^ 200 := by
    have h2 := Nat.mul_le_mul hB h.len
    have h3 : (10 ^ 100 * 100 : Nat) < 10 ^ 200 := by decide +kernel
    omega
  exact ⟨Nat.lt_of_le_of_lt o.1 hb, Nat.lt_of_le_of_lt o.2 hb⟩
def tl (s : W) : List PV := [.int s.l0, .int s.l1, .tup (s.st.map Sg.pv)]
theorem st_good {row : List Part} (h : Fit row) : Good 601 (.tup ((wks row).st.map Sg.pv)) := by
  have f := fit_sml h row.length
  rw [List.take_length] at f
  exact (Good.tup (Goods.map Sg.pv _ fun x hx => sg_good (f.2.1 x hx)) (dps_map _ _ _ fun p _ => by rw [Sg_dp p]; decide)).mono (by have := f.2.2; omega)
theorem tl_good {row : List Part} (h : Fit row) : Goods 603 (tl (wks row)) := (Goods.cons (Good.int (late_sml h).1) (Goods.cons (Good.int (late_sml h).2) (Goods.cons (st_good h) Goods.nil))).mono (by decide)
theorem st_dp (s : W) : PyData.depthAll (PV.pds (s.st.map Sg.pv)) ≤ 1 := dps_map _ _ _ fun p _ => by rw [Sg_dp p]; decide
theorem shape_good' {row : List Part} (h : Fit row) (b : Bool) : Good 605 (.tup (.bl b :: tl (wks row))) :=
  (Good.tup (Goods.cons (Good.bl b) (tl_good h)) (by have := st_dp (wks row); simp [tl]; omega)).mono (by decide)
theorem found_good {row : List Part} (h : Fit row) : Good 101 (.tup ((foundL row).map .int)) := (ints_good (found_sml h)).mono (by rw [found_len]; have := h.len; omega)
theorem fit_straight {row : List Part} (h : Fit row) : Fit (strt row).1 := by
  obtain ⟨B, hB, hok⟩ := h.ex
  exact ⟨fun p hp => (strs_ok hok p hp).1, ⟨B, hB, strs_ok hok⟩, Nat.le_trans (strs_len row) h.len⟩
theorem fit_turn {row : List Part} (h : Fit row) (hl : row.length < 100) : Fit (row ++ [.turn]) := by
  obtain ⟨B, hB, hok⟩ := h.ex
  refine ⟨fun p hp => ?_, ⟨B, hB, fun p hp => ?_⟩, by simp; omega⟩
  · rcases List.mem_append.mp hp with hp | hp
    · exact h.pos p hp
    · simp at hp; subst hp; simp [Part.num]
  · rcases List.mem_append.mp hp with hp | hp
    · exact hok p hp
    · simp at hp; subst hp; simp [Part.ok, Part.num]
theorem hts_sml {row : List Part} (h : Fit row) : ∀ x ∈ hts (mvs row).1, sml x := by rw [hts_found row h.pos]; exact found_sml h
end Law
end
section
set_option autoImplicit false
/-! Loose rows as data. -/
namespace Law
open PySem PL
theorem revT (l : List PV) (μ : Mem) : fRevL [.tup l] μ = .ok (.tup l.reverse) μ := rfl
theorem revR {n : Nat} {l : List PV} {μ : Mem} (h : μ[n]? = some (.lst l)) : fRevL [.ref n] μ = .ok (.ref μ.length) (μ ++ [.lst l.reverse]) := by
  unfold fRevL fRev getL
  simp [h, newL]
theorem fEq_dat {k j : Nat} {p q : PV} (hs : scalP p q = none) (h1 : Good k p) (h2 : Good j q) (μ : Mem) : fEq [p, q] μ = .ok (.bl (PyData.eqv p.pd q.pd)) μ := by
  simp only [fEq, eqR, hs]
  rw [toD_data h1.data, toD_data h2.data]
  simp only
  rw [if_pos ⟨shaped_sm h1.sm (by have := h1.dp; omega), shaped_sm h2.sm (by have := h2.dp; omega)⟩]
theorem lp_good {p : LP} {B : Nat} (hB : B ≤ 10 ^ 100) (h : p.ok B) : Good 5 p.pv := by
  have e : (10 ^ 100 : Nat) < 10 ^ 200 := by decide +kernel
  have gs : ∀ z : Int, 0 ≤ z → z ≤ B → Good 1 (.int z) := fun z a b => Good.int (by show z.natAbs < 10 ^ 200; omega)
  cases p with
  | turn => exact (Good.tup (Goods.cons (Good.str (by decide +kernel)) Goods.nil) (by simp)).mono (by decide)
  | delay k => exact (Good.tup (Goods.cons (Good.str (by decide +kernel)) (Goods.cons (gs k h.1 h.2) Goods.nil)) (by simp)).mono (by decide)
  | on a b => exact (Good.tup (Goods.cons (Good.str (by decide +kernel)) (Goods.cons (gs a h.1 (by have := h.2; omega)) (Goods.cons (gs b (by have := h.1; have := h.2; omega) h.2.2) Goods.nil))) (by simp)).mono (by decide)
  | off a b => exact (Good.tup (Goods.cons (Good.str (by decide +kernel)) (Goods.cons (gs a h.1 (by have := h.2; omega)) (Goods.cons (gs b (by have := h.1; have := h.2; omega) h.2.2) Goods.nil))) (by simp)).mono (by decide)
theorem lp_dp (p : LP) : p.pv.pd.depth = 1 := by cases p <;> simp [LP.pv]
theorem lps_good {l : List LP} {B : Nat} (hB : B ≤ 10 ^ 100) (h : ∀ p ∈ l, p.ok B) : Good (5 * l.length + 1) (.tup (l.map LP.pv)) :=
  Good.tup (Goods.map LP.pv l fun p hp => lp_good hB (h p hp)) (dps_map _ _ _ fun p _ => by rw [lp_dp p]; decide)
theorem lp_turn {p : LP} {B : Nat} (hB : B ≤ 10 ^ 100) (h : p.ok B) (μ : Mem) : fEq [p.pv, .tup [.str "turn"]] μ = .ok (.bl p.isT) μ := by
  have g2 : Good 5 (LP.pv .turn) := lp_good (B := 0) (by decide) (by exact Int.le_refl 0)
  have := fEq_dat (p := p.pv) (q := LP.pv .turn) (by cases p <;> rfl) (lp_good hB h) g2 μ
  have e : LP.pv .turn = .tup [.str "turn"] := rfl
  rw [e] at this
  rw [this]
  cases p <;> simp [LP.pv, LP.isT, PyData.eqv, PyData.eqvAll]
end Law
end
section
set_option autoImplicit false
/-! The law's stock: a list of great numbers (cell 3), the script's numbers (cell 5), the stock (cell 6). -/
namespace Law
open PySem PL
def Stk (m : Mem) : Prop := ∃ (bs fl : List Int) (s t : Int), m[6]? = some (.lst [.ref 3, .ref 5, .int s, .int t]) ∧ m[3]? = some (.lst (bs.map .int)) ∧ m[5]? = some (.lst (fl.map .int)) ∧ bs.length ≤ 100 ∧ 0 < fl.length ∧ fl.length ≤ 100 ∧ 0 ≤ t
def FrS (m m' : Mem) : Prop := m.length ≤ m'.length ∧ ∀ i, i ≠ 3 → i ≠ 6 → i < m.length → m'[i]? = m[i]?
theorem FrS.refl (m : Mem) : FrS m m := ⟨Nat.le_refl _, fun _ _ _ _ => rfl⟩
theorem FrS.trans {x y z : Mem} (h : FrS x y) (k : FrS y z) : FrS x z := ⟨Nat.le_trans h.1 k.1, fun i h1 h2 h3 => (k.2 i h1 h2 (Nat.lt_of_lt_of_le h3 h.1)).trans (h.2 i h1 h2 h3)⟩
theorem FrS.ext {m m' : Mem} (h : Ext m m') : FrS m m' := ⟨h.len, fun i _ _ h3 => by obtain ⟨l, rfl⟩ := h; rw [List.getElem?_append_left h3]⟩
theorem FrS.set {m m' : Mem} (h : FrS m m') {k : Nat} (o : PO) (hk : k = 3 ∨ k = 6 ∨ m.length ≤ k) : FrS m (m'.set k o) := by
  refine ⟨by simpa using h.1, fun i h1 h2 h3 => ?_⟩
  rw [List.getElem?_set_ne (by omega)]
  exact h.2 i h1 h2 h3
theorem FrS.take {m m' : Mem} (h : FrS m m') : FrS m (m'.take m.length) := by
  refine ⟨by have := h.1; simp; omega, fun i h1 h2 h3 => ?_⟩
  rw [List.getElem?_take_of_lt h3]
  exact h.2 i h1 h2 h3
theorem Stk.lt {m : Mem} (h : Stk m) : 6 < m.length := by
  obtain ⟨bs, fl, s, t, h1, _⟩ := h
  exact (List.getElem?_eq_some_iff.mp h1).1
theorem Stk.ext {m m' : Mem} (h : Stk m) (e : Ext m m') : Stk m' := by
  obtain ⟨bs, fl, s, t, h1, h2, h3, h4⟩ := h
  exact ⟨bs, fl, s, t, e.get h1, e.get h2, e.get h3, h4⟩
theorem Stk.app {m : Mem} (h : Stk m) (l : Mem) : Stk (m ++ l) := h.ext (Ext.app _ _)
theorem Stk.set {m : Mem} (h : Stk m) {k : Nat} (o : PO) (hk : 6 < k) : Stk (m.set k o) := by
  obtain ⟨bs, fl, s, t, h1, h2, h3, h4⟩ := h
  exact ⟨bs, fl, s, t, by rw [List.getElem?_set_ne (by omega)]; exact h1, by rw [List.getElem?_set_ne (by omega)]; exact h2, by rw [List.getElem?_set_ne (by omega)]; exact h3, h4⟩
theorem Stk.take {m : Mem} (h : Stk m) {n : Nat} (hn : 6 < n) : Stk (m.take n) := by
  obtain ⟨bs, fl, s, t, h1, h2, h3, h4⟩ := h
  exact ⟨bs, fl, s, t, by rw [List.getElem?_take_of_lt hn]; exact h1, by rw [List.getElem?_take_of_lt (by omega)]; exact h2, by rw [List.getElem?_take_of_lt (by omega)]; exact h3, h4⟩
/-- the stock goes on, the rest stays -/
def Ks (m m' : Mem) : Prop := Stk m' ∧ FrS m m'
theorem Ks.trans {x y z : Mem} (h : Ks x y) (k : Ks y z) : Ks x z := ⟨k.1, h.2.trans k.2⟩
theorem Ks.take {m m' : Mem} (hp : Stk m) (h : Ks m m') : Ks m (m'.take m.length) := ⟨h.1.take hp.lt, h.2.take⟩
theorem Ks.app {m m' : Mem} (h : Ks m m') (l : Mem) : Ks m (m' ++ l) := ⟨h.1.app l, h.2.trans (FrS.ext (Ext.app _ _))⟩
theorem Ks.ext {m m' : Mem} (hp : Stk m) (h : Ext m m') : Ks m m' := ⟨hp.ext h, FrS.ext h⟩
theorem Ks.refl {m : Mem} (hp : Stk m) : Ks m m := ⟨hp, FrS.refl _⟩
theorem Ks.get {m m' : Mem} (h : Ks m m') {i : Nat} {o : PO} (e : m[i]? = some o) (h1 : 6 < i) : m'[i]? = some o := by
  rw [h.2.2 i (by omega) (by omega) (List.getElem?_eq_some_iff.mp e).1]; exact e
theorem Ks.set {m m' : Mem} (h : Ks m m') {k : Nat} (hk : m.length ≤ k) (hm : 6 < m.length) (o : PO) : Ks m (m'.set k o) := ⟨h.1.set _ (by omega), h.2.set _ (by omega)⟩
theorem Ks.trans_ext {m x y : Mem} (h : Ks m x) (e : Ext x y) : Ks m y := ⟨h.1.ext e, h.2.trans (FrS.ext e)⟩
theorem fn_ks {n : Nat} {b : Sm} {args : List PV} {μ : Mem} {P : PV → Prop} (hp : Stk μ) (h : (run n b args μ).sat fun p m => P p ∧ Ks μ m) : (fn n b args μ).sat fun p m => P p ∧ Ks μ m :=
  fn_sat h fun _ _ h1 _ _ => ⟨h1.1, h1.2.take hp⟩
theorem draw_ev (m : Mem) (hp : Stk m) (size : Int) (h0 : 0 < size) (h1 : size < 2 ^ 200) : (m__law_draw [.ref 6, .int size] m).sat fun p m' => (∃ r, p = .int r ∧ 0 ≤ r ∧ r < size) ∧ Ks m m' := by
  apply fn_ks hp
  apply run_sat
  have hd := divOk_small h0 h1
  have hp' := hp
  obtain ⟨bs, fl, s, t, e1, e2, e3, e4, e5, e6, e7⟩ := hp'
  have l6 := hp.lt
  have hr := fun i : Int => And.intro (Int.emod_nonneg i (by omega : size ≠ 0)) (Int.emod_lt_of_pos i h0)
  unfold b__law_draw
  simp [e1]
  have en : fNe [.ref 3, .ref m.length] (m ++ [.lst []]) = .ok (.bl (!bs.isEmpty)) (m ++ [.lst []]) := fNe_ints (by simp [e2]) (by simp)
  rw [en]
  rcases List.eq_nil_or_concat bs with rfl | ⟨bs', x, rfl⟩
  · have q5 : ∀ i : Int, mulOk i 2654435761 := fun i => .inr (.inl (by decide))
    have q1 : ∀ i : Int, mulOk i 48271 := fun i => .inr (.inl (by decide))
    have q2 : ∀ i : Int, mulOk i 69621 := fun i => .inr (.inl (by decide))
    have q3 : ∀ i : Int, mulOk i 362437 := fun i => .inr (.inl (by decide))
    have q4 : ∀ i : Int, mulOk i 40692 := fun i => .inr (.inl (by decide))
    have q6 : ∀ i : Int, mulOk i 65537 := fun i => .inr (.inl (by decide))
    have q7 : ∀ i : Int, mulOk (i % 4294967291) (i % 4294967291) := fun i => .inl (by omega)
    have q8 : divOk 4096 := divOk_small (by decide) (by decide)
    have hfl : (0 : Int) < fl.length := by omega
    have hix := Int.emod_nonneg (t + 1) (by omega : (fl.length : Int) ≠ 0)
    have hix2 := Int.emod_lt_of_pos (t + 1) hfl
    have hk : ((t + 1) % (fl.length : Int)).toNat < fl.length := by omega
    have e3' : ∀ o : PO, ((m ++ [PO.lst []]).set 6 o)[5]? = some (.lst (fl.map .int)) := fun o => by rw [List.getElem?_set_ne (by omega), List.getElem?_append_left (by omega)]; exact e3
    have e1' : ∀ o : PO, ((m ++ [PO.lst []]).set 6 o)[6]? = some o := fun o => get_set_same (get_some e1)
    have ixo : ∀ μ : Mem, ixOf (fl.map PV.int) ((t + 1) % (fl.length : Int)) μ = .ok (.int fl[((t + 1) % (fl.length : Int)).toNat]) μ := fun μ => ixOf_int μ hix (by rw [List.getElem?_map, List.getElem?_eq_getElem hk]; rfl)
    simp [e1, ixN, e1', e3', hfl, e5, ixo, q1, q2, q3, q4, q5, q6, q7, q8, h0, hr]
    refine ⟨⟨[], fl, s, t + 1, by rw [e1'], ?_, by rw [e3'], by simp, e5, e6, by omega⟩, ((FrS.refl m).trans (FrS.ext (Ext.app m [.lst []]))).set _ (by omega)⟩
    rw [List.getElem?_set_ne (by omega)]
    exact get_some e2
  · have hb : bs'.length ≤ 99 := by simp at e4; omega
    have hb' : bs'.length < 16777216 := by omega
    have l3 : 3 < m.length + 1 := by omega
    have g3 : ∀ o : PO, ((m ++ [PO.lst []]).set 3 o)[3]? = some o := fun o => get_set_same (get_some e2)
    have g6 : ∀ o : PO, ((m ++ [PO.lst []]).set 3 o)[6]? = some (.lst [.ref 3, .ref 5, .int s, .int t]) := fun o => by rw [List.getElem?_set_ne (by omega)]; exact get_some e1
    have g5 : ∀ o : PO, ((m ++ [PO.lst []]).set 3 o)[5]? = some (.lst (fl.map .int)) := fun o => by rw [List.getElem?_set_ne (by omega)]; exact get_some e3
    simp [e1, e2, g3, g6, h0, hr, hd, hb']
    refine ⟨fun _ => ⟨⟨bs' ++ [x / size], fl, s, t, g6 _, ?_, g5 _, ?_, e5, e6, e7⟩, ?_⟩, fun _ => ⟨⟨bs', fl, s, t, g6 _, ?_, g5 _, ?_, e5, e6, e7⟩, ?_⟩⟩
    · rw [g3]; simp
    · simp; omega
    · exact ((FrS.refl m).trans (FrS.ext (Ext.app m [.lst []]))).set _ (by omega)
    · rw [g3]
    · omega
    · exact ((FrS.refl m).trans (FrS.ext (Ext.app m [.lst []]))).set _ (by omega)
theorem spick_ev (m : Mem) (hp : Stk m) (k : Nat) (l : List PV) (hk : 6 < k) (h : m[k]? = some (.lst l)) (h0 : 0 < l.length) (h1 : l.length < 1000000) : (m__law_pick [.ref 6, .ref k] m).sat fun p m' => p ∈ l ∧ Ks m m' := by
  apply fn_ks hp
  apply run_sat
  unfold b__law_pick
  simp [h]
  obtain ⟨p, m2, e, ⟨r, rfl, r0, r1⟩, g⟩ := rsat_ex (draw_ev m hp l.length (by omega) (by omega))
  rw [e]
  have hg := g.get h hk
  have hr : r.toNat < l.length := by omega
  simp [hg]
  rw [ixOf_int _ r0 (List.getElem?_eq_getElem hr)]
  simp
  exact g
theorem spick_lit (m : Mem) (hp : Stk m) (l : List PV) (h0 : 0 < l.length) (h1 : l.length < 1000000) : (m__law_pick [.ref 6, .ref m.length] (m ++ [.lst l])).sat fun p m' => p ∈ l ∧ Ks m m' :=
  rsat_imp (spick_ev _ (hp.app _) m.length l hp.lt (by simp) h0 h1) fun _ _ h => ⟨h.1, (Ks.ext hp (Ext.app _ _)).trans h.2⟩
theorem stock_ev (ns : List Int) (hn : ns.length ≤ 63) : (m__law_stock [.ref 0] [.ro (ns.map PV.int)]).sat fun p m => p = .ref 6 ∧ Stk m := by
  refine fn_sat (P := fun p m => p = .ref 6 ∧ Stk m) ?_ (fun p m h h1 h2 => ?_)
  · apply run_sat
    unfold b__law_stock
    simp
    have q1 : ∀ i : Int, mulOk 2 i := fun i => .inl (by decide)
    have q2 : ∀ i : Int, mulOk (-2) i := fun i => .inl (by decide)
    refine lc_of PV.int (fun z => some (.int (if 0 ≤ z then 2 * z else -2 * z - 1))) (ns.take 63) (ys := ((ns.take 63).map fun z => if 0 ≤ z then 2 * z else -2 * z - 1).map PV.int) (by simp [Function.comp_def]) (lk := [(1, (ns.take 63).map PV.int)]) (μ1 := [.ro (ns.map PV.int), .lst ((ns.take 63).map PV.int)]) ?_ (locked_lst _ (by simp)) (by simp; omega) ?_ ?_
    · simp
    · intro x _ l
      refine ⟨_, rfl, ?_⟩
      by_cases c : 0 ≤ x <;> simp [wipe, c, q1, q2]
    generalize hcs : ((ns.take 63).map fun z => if 0 ≤ z then 2 * z else -2 * z - 1) = cs
    have hl : cs.length ≤ 63 := by rw [← hcs]; simp; omega
    simp
    refine lc_of PV.int (fun z => if decide (1000000000000000 ≤ z) = true then some (.int z) else none) cs (filterMap_if _ _ _) (lk := [(2, cs.map PV.int)]) (μ1 := [.ro (ns.map PV.int), .lst ((ns.map PV.int).take 63), .lst (cs.map PV.int)]) ?_ (locked_lst _ (by simp)) (by simp; omega) ?_ ?_
    · simp
    · intro x _ l
      refine ⟨_, rfl, ?_⟩
      by_cases c : 1000000000000000 ≤ x <;> simp [wipe, c]
    simp
    have hz : cs.length ≤ 16777215 := by omega
    simp [hz]
    rw [fSum_lst (l := cs) (by simp)]
    simp
    have hfl := List.length_filter_le (fun z : Int => decide (1000000000000000 ≤ z)) cs
    have mk : ∀ (x : Int) (P : Prop), (Stk [.ro (ns.map PV.int), .lst ((ns.map PV.int).take 63), .lst (cs.map PV.int), .lst ((cs.filter fun z => decide (1000000000000000 ≤ z)).map PV.int), .lst [.int x], .lst (cs.map PV.int ++ [.int x]), .lst [.ref 3, .ref 5, .int cs.sum, .int 0]] → P) → P := fun x P h => h ⟨cs.filter fun z => decide (1000000000000000 ≤ z), cs ++ [x], cs.sum, 0, rfl, rfl, by rw [List.map_append]; rfl, by omega, by simp, by simp; omega, Int.le_refl _⟩
    exact mk _ _ id
  · rw [h.1] at h2
    simp [PV.under] at h2
end Law
end
section
set_option autoImplicit false
/-! Drawn loose rows: run. -/
namespace Law
open PySem PL
def IsLoose (B : Int) (n : Nat) (p : PV) : Prop := ∃ l : List LP, p = .tup (l.map LP.pv) ∧ l.length ≤ n ∧ ∀ x ∈ l, x.ok B
def LooI (B : Int) (m : Mem) (p1 p2 p3 : PV) (i : Nat) (e : PL.Env) (m' : Mem) : Prop := Ks m m' ∧ ∃ (l : List LP) (q5 q6 q7 q8 : Option PV), e = [some (.ref 6), some p1, some p2, some p3, some (.ref m.length), q5, q6, q7, q8] ∧ m'[m.length]? = some (.lst (l.map LP.pv)) ∧ l.length ≤ i ∧ ∀ x ∈ l, x.ok B
theorem law_loose_ev (m : Mem) (hp : Stk m) (parts : Nat) (most wide : Int) (h0 : parts ≤ 100) (h1 : 0 ≤ most) (h2 : most ≤ 10 ^ 30) (h3 : 0 ≤ wide) (h4 : wide ≤ 100) (hm9 : 9 ≤ most ∨ most ≤ 9) : (m__law_loose [.ref 6, .int (parts : Int), .int most, .int wide] m).sat fun p m' => IsLoose (most + wide) parts p ∧ Ks m m' := by
  refine fn_ks (P := IsLoose (most + wide) parts) hp ?_
  apply run_sat
  unfold b__law_loose
  simp only [List.map_cons, List.map_nil, List.length_cons, List.length_nil, List.replicate, List.cons_append, List.nil_append, Nat.reduceAdd, Nat.reduceSub]
  have hlen := hp.lt
  refine seq_sat (fun e m' => m' = m ++ [.lst []] ∧ e = [some (.ref 6), some (.int (parts : Int)), some (.int most), some (.int wide), some (.ref m.length), none, none, none, none]) (by simp) ?_
  rintro e m1 ⟨rfl, rfl⟩
  obtain ⟨p, m2, e2, ⟨n, rfl, n0, n1⟩, g2⟩ := rsat_ex (draw_ev (m ++ [.lst []]) (hp.app _) ((parts : Int) + 1) (by omega) (by omega))
  have g3 : Ks m m2 := (Ks.ext hp (Ext.app _ _)).trans g2
  have c2 : m2[m.length]? = some (.lst []) := g2.get (by simp) (by omega)
  have en : n = ((n.toNat : Nat) : Int) := by omega
  simp only [seq_ev, forS_ev]
  have hr : iRng1 (app m__law_draw (ac (v 0) (ac (app2 fAdd (v 1) (c (.int 1))) an))) [some (.ref 6), some (.int (parts : Int)), some (.int most), some (.int wide), some (.ref m.length), none, none, none, none] (m ++ [.lst []]) = .ok ⟨(List.range n.toNat).map (fun k : Nat => PV.int (0 + k)), []⟩ m2 := by
    simp [iRng1, big62, rangeL, e2]
    omega
  rw [hr]
  simp only [Out.of_ok]
  refine for_thru (fun k : Nat => PV.int (0 + k)) (List.range n.toNat) (LooI (most + wide) m (.int (parts : Int)) (.int most) (.int wide)) (fun _ _ _ _ => locked_nil _) ⟨g3, [], none, none, none, none, rfl, c2, by simp, by simp⟩ ?_ ?_
  · rintro i x e m' hx ⟨g, l, q5, q6, q7, q8, rfl, c1, hl, hok⟩
    have hi : i < n.toNat := by have := (List.getElem?_eq_some_iff.mp hx).1; simpa using this
    simp only [turn_ev, tn_ev, Out.of_ok]
    obtain ⟨mn, hmn⟩ : ∃ mn : Int, (if 9 < most then 9 else most) = mn := ⟨_, rfl⟩
    have hmnb : mn ≤ 9 ∧ mn ≤ most ∧ 0 ≤ mn := by rw [← hmn]; split <;> omega
    refine seq_sat (fun e m2 => Ks m m2 ∧ ∃ way small : Int, m2[m.length]? = some (.lst (l.map LP.pv)) ∧ 0 ≤ way ∧ way < 8 ∧ 0 ≤ small ∧ small ≤ most ∧ small ≤ 9 ∧ e = [some (.ref 6), some (.int (parts : Int)), some (.int most), some (.int wide), some (.ref m.length), some (.int (0 + x)), q6, some (.int way), some (.int small)]) ?_ ?_
    · obtain ⟨p, m3, e3, ⟨way, rfl, w0, w1⟩, g4⟩ := rsat_ex (draw_ev m' g.1 8 (by omega) (by omega))
      obtain ⟨p, m4, e4, ⟨small, rfl, s0, s1⟩, g5⟩ := rsat_ex (draw_ev m3 g4.1 (mn + 1) (by omega) (by omega))
      simp [e3, hmn, e4]
      exact ⟨(g.trans g4).trans g5, g5.get (g4.get c1 (by omega)) (by omega), way, w0, w1, small, s0, by omega, by omega, rfl, rfl⟩
    rintro e m3 ⟨g3, way, small, c3, w0, w1, s0, s1, s2, rfl⟩
    refine seq_sat (fun e m2 => Ks m m2 ∧ ∃ low : Int, m2[m.length]? = some (.lst (l.map LP.pv)) ∧ 0 ≤ low ∧ low ≤ most ∧ e = [some (.ref 6), some (.int (parts : Int)), some (.int most), some (.int wide), some (.ref m.length), some (.int (0 + x)), some (.int low), some (.int way), some (.int small)]) ?_ ?_
    · have hd := divOk_small (j := 1 + small) (by omega) (by omega)
      have hq0 : 0 ≤ most / (1 + small) := Int.ediv_nonneg h1 (by omega)
      have hq1 : most / (1 + small) ≤ most := Int.ediv_le_self _ h1
      obtain ⟨p, m4, e4, hq, g4⟩ := rsat_ex (spick_lit m3 g3.1 [.int small, .int small, .int (most - small), .int (most / (1 + small))] (by simp) (by simp))
      have g5 := g3.trans g4
      have c4 := g4.get c3 (by omega)
      simp at hq
      rcases hq with rfl | rfl | rfl
      all_goals
        simp [hd, e4]
        exact ⟨g5, c4, by omega, by omega⟩
    rintro e m4 ⟨g4, low, c4, l0, l1, rfl⟩
    have hz : l.length < 16777216 := by omega
    have fin : ∀ (y : LP) (m5 : Mem) (q6 q7 q8 : Option PV), Ks m m5 → m5[m.length]? = some (.lst (l.map LP.pv)) → y.ok (most + wide) → LooI (most + wide) m (.int (parts : Int)) (.int most) (.int wide) (i + 1) [some (.ref 6), some (.int (parts : Int)), some (.int most), some (.int wide), some (.ref m.length), some (.int (0 + x)), q6, q7, q8] (m5.set m.length (.lst (l.map LP.pv ++ [y.pv]))) := by
      intro y m5 q6 q7 q8 a b hy
      refine ⟨a.set (Nat.le_refl _) hlen _, l ++ [y], _, _, _, _, rfl, by rw [get_set_same b]; simp, by simp; omega, fun z hz => ?_⟩
      rcases List.mem_append.mp hz with hz | hz
      · exact hok z hz
      · simp at hz; subst hz; exact hy
    by_cases w6 : way = 6
    · have q := fin (.delay low) m4 (some (.int low)) (some (.int way)) (some (.int small)) g4 c4 ⟨l0, by omega⟩
      subst w6
      simp [c4, hz]
      simpa [LP.pv] using q
    by_cases w7 : way = 7
    · have q := fin .turn m4 (some (.int low)) (some (.int way)) (some (.int small)) g4 c4 (by show 0 ≤ most + wide; omega)
      subst w7
      simp [c4, hz]
      simpa [LP.pv] using q
    have g5 := g4.app [.lst [.str "on", .str "off"]]
    have c5 : (m4 ++ [PO.lst [.str "on", .str "off"]])[m.length]? = some (.lst (l.map LP.pv)) := get_some c4
    obtain ⟨p, m6, e6, ⟨z, rfl, z0, z1⟩, g6⟩ := rsat_ex (draw_ev _ g5.1 (wide + 1) (by omega) (by omega))
    have g7 := g5.trans g6
    have c7 := g6.get c5 (by omega)
    have hm2 : way % 2 = 0 ∨ way % 2 = 1 := by omega
    rcases hm2 with e2' | e2'
    · have q := fin (.on low (low + z)) m6 (some (.int low)) (some (.int way)) (some (.int small)) g7 c7 ⟨l0, by omega, by omega⟩
      simp [w6, w7, e2', e6, c4, c7, hz]
      simpa [LP.pv] using q
    · have q := fin (.off low (low + z)) m6 (some (.int low)) (some (.int way)) (some (.int small)) g7 c7 ⟨l0, by omega, by omega⟩
      simp [w6, w7, e2', e6, c4, c7, hz]
      simpa [LP.pv] using q
  · rintro e m' ⟨g, l, q5, q6, q7, q8, rfl, c1, hl, hok⟩
    simp [c1]
    exact ⟨⟨l, rfl, by simp at hl; omega, hok⟩, g⟩
end Law
end
section
set_option autoImplicit false
/-! k41: values with empty dicts in them, shown. -/
namespace Law
open PySem PL
theorem toEn_conv (μ : Mem) (n : Nat) (p : PV) : PV.conv (fun j => toEn μ (n + 1) (.ref j)) p = toEn μ (n + 1) p := by
  have e : toEn μ (n + 1) = PV.conv (fun k => match μ[k]? with
    | some (.lst l) => (PV.convs (fun j => toEn μ n (.ref j)) l).map .list
    | some (.ro l) => (PV.convs (fun j => toEn μ n (.ref j)) l).map .list
    | some (.dct []) => some (.dict [])
    | _ => none) := by
    funext q
    rw [toEn]
    all_goals congr 1
  rw [e]
  congr 1
theorem toEn_lst {μ : Mem} {k : Nat} {l : List PV} (h : μ[k]? = some (.lst l)) (n : Nat) : toEn μ (n + 1) (.ref k) = (PV.convs (fun j => toEn μ n (.ref j)) l).map .list := by
  rw [toEn]
  simp only [PV.conv]
  rw [h]
theorem toEn_dct {μ : Mem} {k : Nat} (h : μ[k]? = some (.dct [])) (n : Nat) : toEn μ (n + 1) (.ref k) = some (.dict []) := by
  rw [toEn]
  simp only [PV.conv]
  rw [h]
structure Ce (m : Mem) (L e : Nat) (p : PV) (d : PyData) : Prop where
  cv : ∀ m' n, FrS m m' → PV.conv (fun j => toEn m' (n + 1) (.ref j)) p = some d
  sh : d.showable = true
  ln : d.shown.length + 2 ≤ L
  dp : d.depth ≤ e
theorem Ce.mono {m : Mem} {L e L' e' : Nat} {p : PV} {d : PyData} (h : Ce m L e p d) (a : L ≤ L') (b : e ≤ e') : Ce m L' e' p d := ⟨h.cv, h.sh, Nat.le_trans h.ln a, Nat.le_trans h.dp b⟩
theorem Ce.frs {m m' : Mem} {L e : Nat} {p : PV} {d : PyData} (h : Ce m L e p d) (x : FrS m m') : Ce m' L e p d := ⟨fun m2 n y => h.cv m2 n (x.trans y), h.sh, h.ln, h.dp⟩
theorem Ce.data {m : Mem} {k : Nat} {p : PV} (h : Good k p) : Ce m (2000 * k) 10 p p.pd := ⟨fun _ _ _ => conv_pd _ p h.data, shw_sm _ h.sm, by have := shown_len _ h.sm; have := h.wt; omega, h.dp⟩
theorem FrS.get {m m' : Mem} (h : FrS m m') {k : Nat} {o : PO} (e : m[k]? = some o) (h1 : 6 < k) : m'[k]? = some o := by
  rw [h.2 k (by omega) (by omega) (List.getElem?_eq_some_iff.mp e).1]
  exact e
theorem Ce.lst {m : Mem} {k w : Nat} {l : List PV} (hk : 6 < k) (h : m[k]? = some (.lst l)) (g : Goods w l) : Ce m (2000 * (w + 1)) 11 (.ref k) (.list (PV.pds l)) := by
  have sm : (PyData.list (PV.pds l)).sm = true := by simp [g.sm]
  refine ⟨fun m' n x => ?_, shw_sm _ sm, ?_, ?_⟩
  · show toEn m' (n + 1) (.ref k) = _
    rw [toEn_lst (x.get h hk), convs_pd _ l g.data]
    rfl
  · have h1 := shown_len _ sm
    have h2 : (PyData.list (PV.pds l)).wt = PyData.wts (PV.pds l) + 1 := by simp
    have := g.wt
    rw [h2] at h1
    omega
  · have := g.dp
    simp
    omega
theorem Ce.dct {m : Mem} {k : Nat} (hk : 6 < k) (h : m[k]? = some (.dct [])) : Ce m 10 2 (.ref k) (.dict []) :=
  ⟨fun m' n x => toEn_dct (x.get h hk) n, by decide, by decide, by decide⟩
theorem Ce.all {m : Mem} {L e : Nat} : ∀ {l : List PV}, (∀ q ∈ l, ∃ d, Ce m L e q d) → ∃ ds, (∀ m' n, FrS m m' → PV.convs (fun j => toEn m' (n + 1) (.ref j)) l = some ds) ∧ PyData.showableAll ds = true ∧ ((PyData.shownAll ds).map fun t => t.length + 2).sum ≤ L * l.length ∧ PyData.depthAll ds ≤ e ∧ ds.length = l.length
  | [], _ => ⟨[], fun _ _ _ => rfl, by simp [PyData.showableAll], by simp [PyData.shownAll], by simp [PyData.depthAll], rfl⟩
  | q :: l, h => by
    obtain ⟨d, hd⟩ := h q (by simp)
    obtain ⟨ds, a, b, c, f, g⟩ := Ce.all (l := l) fun x hx => h x (by simp [hx])
    refine ⟨d :: ds, fun m' n x => ?_, by simp [PyData.showableAll, hd.sh, b], ?_, ?_, by simp [g]⟩
    · simp only [PV.convs, hd.cv m' n x, a m' n x, Option.bind_some, Option.map_some]
    · have := hd.ln
      simp only [PyData.shownAll_cons, List.map_cons, List.sum_cons, List.length_cons, Nat.mul_add, Nat.mul_one]
      omega
    · have := hd.dp
      simp only [PyData.depthAll]
      omega
theorem Ce.tuple {m : Mem} {L e : Nat} {l : List PV} (h : ∀ q ∈ l, ∃ d, Ce m L e q d) : ∃ d, Ce m (L * l.length + 10) (e + 1) (.tup l) d := by
  obtain ⟨ds, a, b, c, f, g⟩ := Ce.all h
  refine ⟨.tuple ds, fun m' n x => by simp only [PV.conv, a m' n x, Option.map_some], by simpa [PyData.showable] using b, ?_, by simp only [PyData.depth]; omega⟩
  rw [PyData.shown_tuple]
  have h1 := join_len (PyData.shownAll ds)
  simp only [strLen_append]
  have e1 : (Str.ofString "(").length = 1 := by decide
  have e2 : (Str.ofString (if ds.length == 1 then ",)" else ")" : String)).length ≤ 2 := by split <;> decide
  rw [e1]
  omega
/-- what repr tells -/
def Rs (m : Mem) (p : PV) : Prop := ∃ S : Str, ∀ m', FrS m m' → fReprE [p] m' = .ok (.str S) m'
theorem reprE_ok {m : Mem} {p : PV} {d : PyData} (h : toE m p = some d) (a : d.showable = true) (b : d.shown.length ≤ 16777216) (e : d.depth ≤ 60) : fReprE [p] m = .ok (.str d.shown) m := by
  simp only [fReprE, h]
  rw [if_pos ⟨a, b, e⟩]
theorem Ce.rs {m : Mem} {L e : Nat} {p : PV} {d : PyData} (h : Ce m L e p d) (hL : L ≤ 16777216) (he : e ≤ 60) : Rs m p := by
  refine ⟨d.shown, fun m' x => reprE_ok ?_ h.sh (by have := h.ln; omega) (Nat.le_trans h.dp he)⟩
  have := h.cv m' 4 x
  rw [toEn_conv] at this
  exact this
theorem rs_lst {m : Mem} {k L e : Nat} {l : List PV} (hk : 6 < k) (h : m[k]? = some (.lst l)) (hl : ∀ q ∈ l, ∃ d, Ce m L e q d) (hL : L * l.length ≤ 16777000) (he : e ≤ 59) : Rs m (.ref k) := by
  obtain ⟨ds, a, b, c, f, g⟩ := Ce.all hl
  refine ⟨(PyData.list ds).shown, fun m' x => reprE_ok (d := .list ds) ?_ (by simpa [PyData.showable] using b) ?_ (by simp only [PyData.depth]; omega)⟩
  · show toEn m' 5 (.ref k) = _
    rw [toEn_lst (x.get h hk), a m' 3 x]
    rfl
  · rw [PyData.shown_list]
    have h1 := join_len (PyData.shownAll ds)
    simp only [strLen_append]
    have e1 : (Str.ofString "[").length = 1 := by decide
    have e2 : (Str.ofString "]").length = 1 := by decide
    rw [e1, e2]
    omega
theorem Rs.frs {m m' : Mem} {p : PV} (h : Rs m p) (x : FrS m m') : Rs m' p := ⟨h.choose, fun m2 y => h.choose_spec m2 (x.trans y)⟩
/-- data shown -/
theorem reprE_good {m : Mem} {k : Nat} {p : PV} (h : Good k p) (hk : k ≤ 8000) : fReprE [p] m = .ok (.str p.pd.shown) m := by
  refine reprE_ok ?_ (shw_sm _ h.sm) ?_ (Nat.le_trans h.dp (by decide))
  · unfold toE
    rw [← toEn_conv]
    exact conv_pd _ p h.data
  · have := shown_len _ h.sm
    have := h.wt
    omega
end Law
end
section
set_option autoImplicit false
/-! k41: what is a loose part: program and law. -/
namespace Law
open PySem PL
/-- a value that is asked for its type, and set beside texts -/
def Kq (μ : Mem) : PV → Prop
  | .cst _ => False
  | .ref n => (∃ l, μ[n]? = some (.lst l)) ∨ ∃ kvs, μ[n]? = some (.dct kvs)
  | _ => True
def isI : PV → Bool
  | .int _ => true
  | _ => false
def isIB : PV → Bool
  | .int _ => true
  | .bl _ => true
  | _ => false
def isB : PV → Bool
  | .bl _ => true
  | _ => false
def isSt : PV → Bool
  | .str _ => true
  | _ => false
def isTu : PV → Bool
  | .tup _ => true
  | _ => false
def stB (q : PV) (y : Str) : Bool := match q with
  | .str x => decide (x = y)
  | _ => false
variable {μ : Mem}
theorem kq_str {q : PV} (h : Kq μ q) (y : Str) : strEq μ q y = some (stB q y) := by
  cases q with
  | ref n => rcases h with ⟨l, h⟩ | ⟨l, h⟩ <;> simp [strEq, stB, h]
  | cst a => exact h.elim
  | _ => rfl
theorem kq_int {q : PV} (h : Kq μ q) : fIsi .int [q] μ = .ok (.bl (isIB q)) μ := by
  cases q with
  | ref n => rcases h with ⟨l, h⟩ | ⟨l, h⟩ <;> simp [fIsi, isTy, h, Ty.isL, Ty.isD, isIB]
  | cst a => exact h.elim
  | _ => rfl
theorem kq_bool {q : PV} (h : Kq μ q) : fIsi .bool [q] μ = .ok (.bl (isB q)) μ := by
  cases q with
  | ref n => rcases h with ⟨l, h⟩ | ⟨l, h⟩ <;> simp [fIsi, isTy, h, Ty.isL, Ty.isD, isB]
  | cst a => exact h.elim
  | _ => rfl
theorem kq_st {q : PV} (h : Kq μ q) : fIsi .str [q] μ = .ok (.bl (isSt q)) μ := by
  cases q with
  | ref n => rcases h with ⟨l, h⟩ | ⟨l, h⟩ <;> simp [fIsi, isTy, h, Ty.isL, Ty.isD, isSt]
  | cst a => exact h.elim
  | _ => rfl
theorem kq_tu {q : PV} (h : Kq μ q) : fIsi .tuple [q] μ = .ok (.bl (isTu q)) μ := by
  cases q with
  | ref n => rcases h with ⟨l, h⟩ | ⟨l, h⟩ <;> simp [fIsi, isTy, h, Ty.isL, Ty.isD, isTu]
  | cst a => exact h.elim
  | _ => rfl
theorem is_int_ev {q : PV} (h : Kq μ q) : m_is_integer [q] μ = .ok (.bl (isI q)) μ := by
  have e1 := kq_int h
  have e2 := kq_bool h
  have e3 : isI q = (isIB q && !isB q) := by cases q <;> rfl
  rw [e3]
  generalize isIB q = a at *
  generalize isB q = b at *
  apply fn_pure0
  rw [run_ev]
  unfold b_is_integer
  cases a <;> simp [e1, e2]
def tickB : PV → Bool
  | .int i => decide (0 ≤ i) && decide (i ≤ 1000000000000000000000000000000)
  | _ => false
theorem are_ticks_ev {r : List PV} (h : ∀ q ∈ r, Kq μ q) (hr : r.length ≤ 100) : m_are_ticks [.tup r] μ = .ok (.bl (r.all tickB)) μ := by
  apply fn_sat_data rfl
  apply run_sat
  unfold b_are_ticks
  have lc1 : lc (iVal (v 0)) (tn 1) yes (PL.and (app m_is_integer (ac (v 1) an)) (chain fLe fLe (c (.int 0)) (v 1) (c K_MAX_TICKS))) [1] [some (.tup r), none] μ = .ok (.ref μ.length) (μ ++ [.lst (r.map fun q => .bl (tickB q))]) := by
    have hm : (r.map fun q => PV.bl (tickB q)) = r.filterMap fun q => some (.bl (tickB q)) := by simp
    rw [hm]
    have hr' : r = r.map id := by simp
    refine lc_pure (id : PV → PV) (fun q => some (.bl (tickB q))) r (μ1 := μ) (lk := []) (by simp) (fun _ => locked_nil _) (by show _ < 16777216; omega) ?_
    intro q hq l'
    have hk : Kq (μ ++ l') q := by
      have := h q hq
      cases q with
      | ref n => rcases this with ⟨l, e⟩ | ⟨l, e⟩; exact .inl ⟨l, get_some e⟩; exact .inr ⟨l, get_some e⟩
      | cst a => exact this.elim
      | _ => trivial
    have e := is_int_ev hk
    refine ⟨_, rfl, ?_⟩
    cases q with
    | int i =>
      by_cases c : (0 : Int) ≤ i
      · simp [wipe, e, isI, tickB, c]
      · simp [wipe, e, isI, tickB, c]
    | _ => simp [wipe, e, isI, tickB]
  have ha : fAll [.ref μ.length] (μ ++ [.lst (r.map fun q => .bl (tickB q))]) = .ok (.bl (r.all tickB)) (μ ++ [.lst (r.map fun q => .bl (tickB q))]) := by
    have hb : ∀ l : List PV, boolsOf (l.map fun q => PV.bl (tickB q)) = some (l.map tickB) := by
      intro l
      induction l with
      | nil => rfl
      | cons q l ih => simp [boolsOf, ih]
    have hg : getL (μ ++ [.lst (r.map fun q => .bl (tickB q))]) (.ref μ.length) = some (r.map fun q => .bl (tickB q)) := by simp [getL]
    simp only [fAll, hg, Option.bind_some, hb]
    simp [List.all_map, Function.comp_def]
  simp [lc1, ha]
def leB : PV → PV → Bool
  | .int i, .int j => decide (i ≤ j)
  | _, _ => false
/-- a loose part -/
def partB : PV → Bool
  | .tup (x :: r) => if stB x "turn" then r.isEmpty else if stB x "delay" then (match r with | [t] => tickB t | _ => false)
    else if stB x "on" || stB x "off" then (match r with | [a, b] => tickB a && (tickB b && leB a b) | _ => false) else false
  | _ => false
theorem eqx_nil {x : PV} {r : List PV} : fEqX [.tup (x :: r), .tup []] μ = .ok (.bl false) μ := rfl
theorem eqx_nil0 : fEqX [.tup [], .tup []] μ = .ok (.bl true) μ := rfl
theorem eqx_turn {x : PV} {r : List PV} (h : Kq μ x) : fEqX [.tup (x :: r), .tup [.str ("turn" : Str)]] μ = .ok (.bl (stB x "turn" && r.isEmpty)) μ := by
  have e : strsEq μ r [] = some r.isEmpty := by cases r <;> rfl
  have e2 := kq_str h "turn"
  simp only [fEqX, textsOf, Option.map_some, strsEq, e, e2]
theorem eqx_str {x : PV} (h : Kq μ x) (y : Str) : fEqX [x, .str y] μ = .ok (.bl (stB x y)) μ := by
  simp only [fEqX, kq_str h y]
theorem inx {x : PV} (h : Kq μ x) : fInX [x, .tup [.str ("on" : Str), .str ("off" : Str)]] μ = .ok (.bl (stB x "on" || stB x "off")) μ := by
  simp only [fInX, textsOf, Option.map_some, strIn, kq_str h, Bool.or_false]
theorem is_timer_x {x : PV} {r : List PV} (h : Kq μ x) : m_is_timer [.tup (x :: r)] μ = .ok (.bl (stB x "on" || stB x "off")) μ := by
  have e := inx h
  apply fn_pure0
  rw [run_ev]
  unfold b_is_timer
  simp [e]
theorem stB_ne {x : PV} {y z : Str} (h : stB x y = true) (hne : ¬ y = z) : stB x z = false := by
  cases x with
  | str w =>
    have : w = y := of_decide_eq_true h
    subst this
    exact decide_eq_false hne
  | _ => rfl
theorem lpart_ev {l : List PV} (h : ∀ q ∈ l, Kq μ q) (hl : l.length ≤ 100) : m_is_loose_part [.tup l] μ = .ok (.bl (partB (.tup l))) μ := by
  apply fn_pure0
  rw [run_ev]
  unfold b_is_loose_part
  cases l with
  | nil =>
    have e0 := eqx_nil0 (μ := μ)
    have e1 : fIsi .tuple [.tup []] μ = .ok (.bl true) μ := rfl
    simp [e0, e1, partB]
  | cons x r =>
    have hx := h x (by simp)
    have hr := fun q hq => h q (List.mem_cons_of_mem x hq)
    have e0 := eqx_nil (μ := μ) (x := x) (r := r)
    have e1 : fIsi .tuple [.tup (x :: r)] μ = .ok (.bl true) μ := rfl
    have e2 := eqx_turn hx (r := r)
    have e3 := eqx_str hx "delay"
    have e4 := is_timer_x hx (r := r)
    have e5 := are_ticks_ev hr (by simp at hl; omega)
    have e6 : fSl [.tup (x :: r), .int 1, .non] μ = .ok (.tup r) μ := by rw [fSl_tup10]; congr 1; congr 1; exact cut_from (x :: r) 1
    have d1 : ¬ ("turn" : Str) = "delay" := by decide
    have d2 : ¬ ("turn" : Str) = "on" := by decide
    have d3 : ¬ ("turn" : Str) = "off" := by decide
    by_cases c1 : stB x "turn" = true
    · have f1 := stB_ne c1 d1
      have f2 := stB_ne c1 d2
      have f3 := stB_ne c1 d3
      cases r with
      | nil => simp [e0, e1, e2, partB, c1]
      | cons a r => simp [e0, e1, e2, e3, e4, partB, c1, f1, f2, f3]
    · simp only [Bool.not_eq_true] at c1
      by_cases c2 : stB x "delay" = true
      · match r, e5, e6 with
        | [], e5, e6 => simp [e0, e1, e2, e3, partB, c1, c2]
        | [t], e5, e6 => simp [-fSl_tup10, e0, e1, e2, e3, e5, e6, partB, c1, c2]
        | a :: b :: r, e5, e6 =>
          have hz : ¬ ((r.length : Int) + 1 + 1 + 1 = 2) := by omega
          simp [e0, e1, e2, e3, partB, c1, c2, hz]
      · simp only [Bool.not_eq_true] at c2
        by_cases c3 : (stB x "on" || stB x "off") = true
        · match r, e5, e6 with
          | [], e5, e6 => simp [e0, e1, e2, e3, e4, partB, c1, c2, c3]
          | [t], e5, e6 => simp [e0, e1, e2, e3, e4, partB, c1, c2, c3]
          | [a, b], e5, e6 =>
            cases ta : tickB a with
            | false => simp [-fSl_tup10, e0, e1, e2, e3, e4, e5, e6, partB, c1, c2, c3, ta]
            | true =>
              cases tb : tickB b with
              | false => simp [-fSl_tup10, e0, e1, e2, e3, e4, e5, e6, partB, c1, c2, c3, ta, tb]
              | true =>
                cases a with
                | int i =>
                  cases b with
                  | int j => simp [-fSl_tup10, e0, e1, e2, e3, e4, e5, e6, partB, c1, c2, c3, ta, tb, leB]
                  | _ => cases tb
                | _ => cases ta
          | a :: b :: d :: r, e5, e6 =>
            have hz : ¬ ((r.length : Int) + 1 + 1 + 1 + 1 = 3) := by omega
            simp [e0, e1, e2, e3, e4, partB, c1, c2, c3, hz]
        · simp only [Bool.not_eq_true] at c3
          simp [e0, e1, e2, e3, e4, partB, c1, c2, c3]
theorem lpart_no {p : PV} (h : Kq μ p) (ht : isTu p = false) : m_is_loose_part [p] μ = .ok (.bl false) μ := by
  have e := kq_tu h
  rw [ht] at e
  apply fn_pure0
  rw [run_ev]
  unfold b_is_loose_part
  simp [e]
theorem wpart_no {p : PV} (h : Kq μ p) (ht : isTu p = false) : m__law_is_part [p] μ = .ok (.bl false) μ := by
  have e := kq_tu h
  rw [ht] at e
  apply fn_pure0
  rw [run_ev]
  unfold b__law_is_part
  simp [e]
def wh41 (q a b : PV) : Bool := isI q && (leB a q && leB q b)
theorem whole_ev {q : PV} (h : Kq μ q) (a b : Int) : m__law_is_whole [q, .int a, .int b] μ = .ok (.bl (wh41 q (.int a) (.int b))) μ := by
  have e1 := kq_int h
  have e2 := kq_bool h
  apply fn_pure0
  rw [run_ev]
  unfold b__law_is_whole
  cases q with
  | int i =>
    simp only [isIB, isB] at e1 e2
    by_cases c : a ≤ i
    · simp [e1, e2, wh41, isI, leB, c]
    · simp [e1, e2, wh41, isI, leB, c]
  | bl i =>
    simp only [isIB, isB] at e1 e2
    simp [e1, e2, wh41, isI]
  | _ =>
    simp only [isIB, isB] at e1 e2
    simp [e1, e2, wh41, isI]
theorem whole_tick (q : PV) : wh41 q (.int 0) (.int 1000000000000000000000000000000) = tickB q := by
  cases q <;> simp [wh41, isI, leB, tickB]
theorem wpart_ev {l : List PV} (h : ∀ q ∈ l, Kq μ q) : m__law_is_part [.tup l] μ = .ok (.bl (partB (.tup l))) μ := by
  apply fn_pure0
  rw [run_ev]
  unfold b__law_is_part
  cases l with
  | nil =>
    have e0 := eqx_nil0 (μ := μ)
    have e1 : fIsi .tuple [.tup []] μ = .ok (.bl true) μ := rfl
    simp [e0, e1, partB]
  | cons x r =>
    have hx := h x (by simp)
    have hr := fun q hq => h q (List.mem_cons_of_mem x hq)
    have e0 := eqx_nil (μ := μ) (x := x) (r := r)
    have e1 : fIsi .tuple [.tup (x :: r)] μ = .ok (.bl true) μ := rfl
    have e2 := eqx_str hx "turn"
    have e3 := eqx_str hx "delay"
    have e4 := kq_st hx
    have d1 : ¬ ("turn" : Str) = "delay" := by decide
    cases x with
    | str w =>
      have e5 : fNotIn [.str w, .tup [.str ("on" : Str), .str ("off" : Str)]] μ = .ok (.bl (!(stB (.str w) "on" || stB (.str w) "off"))) μ := by
        rw [fNotIn_tup rfl rfl]
        have bd : ∀ y : Str, (y == w) = decide (w = y) := fun y => by
          by_cases c : w = y
          · subst c; simp
          · have c' : ¬ y = w := fun h => c h.symm
            simp [c, c']
        simp [eqF, stB, bd]
      simp only [isSt] at e4
      generalize hst : stB (.str w) = st at *
      by_cases c1 : st "turn" = true
      · cases r with
        | nil => simp [e0, e1, e2, e4, partB, hst, c1]
        | cons a r =>
          have hz : ¬ ((r.length : Int) + 1 + 1 = 1) := by omega
          simp [e0, e1, e2, e4, partB, hst, c1, hz]
      · simp only [Bool.not_eq_true] at c1
        by_cases c2 : st "delay" = true
        · match r, hr with
          | [], hr => simp [e0, e1, e2, e3, e4, partB, hst, c1, c2]
          | [t], hr =>
            have w1 := whole_ev (hr t (by simp)) 0 1000000000000000000000000000000
            rw [whole_tick] at w1
            simp [e0, e1, e2, e3, e4, w1, partB, hst, c1, c2]
          | a :: b :: r, hr =>
            have hz : ¬ ((r.length : Int) + 1 + 1 + 1 = 2) := by omega
            simp [e0, e1, e2, e3, e4, partB, hst, c1, c2, hz]
        · simp only [Bool.not_eq_true] at c2
          by_cases c3 : (st "on" || st "off") = true
          · rw [c3] at e5
            match r, hr with
            | [], hr => simp [-fNotIn_tup, e0, e1, e2, e3, e4, e5, partB, hst, c1, c2, c3]
            | [t], hr => simp [-fNotIn_tup, e0, e1, e2, e3, e4, e5, partB, hst, c1, c2, c3]
            | [a, b], hr =>
              have w1 := whole_ev (hr a (by simp)) 0 1000000000000000000000000000000
              rw [whole_tick] at w1
              cases ta : tickB a with
              | false =>
                rw [ta] at w1
                simp [-fNotIn_tup, e0, e1, e2, e3, e4, e5, w1, partB, hst, c1, c2, c3, ta]
              | true =>
                rw [ta] at w1
                cases a with
                | int i =>
                  have w2 := whole_ev (hr b (by simp)) i 1000000000000000000000000000000
                  have w3 : wh41 b (.int i) (.int 1000000000000000000000000000000) = (tickB b && leB (.int i) b) := by
                    cases b with
                    | int j =>
                      have hi : 0 ≤ i := by simp [tickB] at ta; exact ta.1
                      simp only [wh41, isI, leB, tickB, Bool.true_and]
                      by_cases h1 : i ≤ j
                      · have : 0 ≤ j := by omega
                        simp [h1, this]
                      · simp [h1]
                    | _ => rfl
                  rw [w3] at w2
                  simp [-fNotIn_tup, e0, e1, e2, e3, e4, e5, w1, w2, partB, hst, c1, c2, c3, ta]
                | _ => cases ta
            | a :: b :: d :: r, hr =>
              have hz : ¬ ((r.length : Int) + 1 + 1 + 1 + 1 = 3) := by omega
              simp [-fNotIn_tup, e0, e1, e2, e3, e4, e5, partB, hst, c1, c2, c3, hz]
          · simp only [Bool.not_eq_true] at c3
            rw [c3] at e5
            simp [-fNotIn_tup, e0, e1, e2, e3, e4, e5, partB, hst, c1, c2, c3]
    | _ =>
      simp only [isSt] at e4
      simp [e0, e1, e4, partB, stB]
end Law
end
section
set_option autoImplicit false
/-! k41: what is a loose row: program and law; the kinds of values. -/
namespace Law
open PySem PL
def Kp (μ : Mem) (p : PV) : Prop := match p with
  | .tup l => (∀ q ∈ l, Kq μ q) ∧ l.length ≤ 100
  | p => Kq μ p
theorem part_both {μ : Mem} {p : PV} (h : Kp μ p) : m_is_loose_part [p] μ = .ok (.bl (partB p)) μ ∧ m__law_is_part [p] μ = .ok (.bl (partB p)) μ := by
  cases p with
  | tup l => exact ⟨lpart_ev h.1 h.2, wpart_ev h.1⟩
  | cst a => exact h.elim
  | non => exact ⟨lpart_no (p := .non) h rfl, wpart_no (p := .non) h rfl⟩
  | bl b => exact ⟨lpart_no (p := .bl b) h rfl, wpart_no (p := .bl b) h rfl⟩
  | int b => exact ⟨lpart_no (p := .int b) h rfl, wpart_no (p := .int b) h rfl⟩
  | str b => exact ⟨lpart_no (p := .str b) h rfl, wpart_no (p := .str b) h rfl⟩
  | ref b => exact ⟨lpart_no (p := .ref b) h rfl, wpart_no (p := .ref b) h rfl⟩
/-- the first place that is no loose part -/
def errI : List PV → Nat → Option Nat
  | [], _ => none
  | q :: r, k => if partB q then errI r (k + 1) else some k
def errT : PV → PV
  | .tup l => if 40 < l.length then .str "form" else match errI l 0 with
    | none => .non
    | some k => .tup [.str "part", .int (k : Nat)]
  | _ => .str "form"
theorem enum_any (l : List PV) : enumL 0 l = (l.zipIdx).map fun z => PV.tup [.int (z.2 : Nat), z.1] := by
  have key : ∀ (l : List PV) (k : Nat), enumL k l = (l.zipIdx k).map fun z => PV.tup [.int (z.2 : Nat), z.1] := by
    intro l
    induction l with
    | nil => intro k; rfl
    | cons p l ih => intro k; simp only [List.map_cons, enumL, ih (k + 1), List.zipIdx_cons]
  exact key l 0
theorem zip_one {l : List PV} {i : Nat} {z : PV × Nat} (h : l.zipIdx[i]? = some z) : z.2 = i ∧ l[i]? = some z.1 := by
  rw [List.getElem?_zipIdx] at h
  cases e : l[i]? with
  | none => rw [e] at h; cases h
  | some x =>
    rw [e] at h
    simp only [Option.map_some, Option.some.injEq] at h
    subst h
    exact ⟨by simp, rfl⟩
theorem errT_data (p : PV) : (errT p).data = true := by
  unfold errT
  split
  · split
    · rfl
    · split <;> rfl
  · rfl
theorem drop_at {l : List PV} {i : Nat} {q : PV} (h : l[i]? = some q) : l.drop i = q :: l.drop (i + 1) := by
  obtain ⟨h1, rfl⟩ := List.getElem?_eq_some_iff.mp h
  exact List.drop_eq_getElem_cons h1
theorem errors_tup {μ : Mem} {l : List PV} (h : ∀ q ∈ l, Kp μ q) : m_loose_error [.tup l] μ = .ok (errT (.tup l)) μ ∧ m__law_due [.tup l] μ = .ok (errT (.tup l)) μ := by
  have et : fIsi .tuple [.tup l] μ = .ok (.bl true) μ := rfl
  have ez : fLen [.tup l] μ = .ok (.int (l.length : Nat)) μ := rfl
  by_cases c : 40 < l.length
  · have c' : (40 : Int) < (l.length : Nat) := by omega
    have e : errT (.tup l) = .str "form" := by simp [errT, c]
    rw [e]
    constructor
    · apply fn_pure0
      rw [run_ev]
      unfold b_loose_error
      simp [et, ez, c']
    · apply fn_pure0
      rw [run_ev]
      unfold b__law_due
      simp [et, ez, c']
  · have c' : ¬ (40 : Int) < (l.length : Nat) := by omega
    have e : errT (.tup l) = match errI l 0 with
      | none => .non
      | some k => .tup [.str "part", .int (k : Nat)] := by simp [errT, c]
    have hd := errT_data (.tup l)
    have zl : l.zipIdx.length = l.length := List.length_zipIdx
    constructor
    · refine fn_sat_data hd ?_
      apply run_sat
      unfold b_loose_error
      simp only [List.map_cons, List.map_nil, List.length_cons, List.length_nil, List.replicate, List.cons_append, List.nil_append, Nat.reduceAdd, Nat.reduceSub]
      refine seq_sat (fun e m => e = [some (.tup l), none, none] ∧ m = μ) (by simp [et, ez, c']) ?_
      rintro e0 m ⟨rfl, rfl⟩
      simp only [seq_ev, forS_ev]
      have hit : iEnum (v 0) [some (.tup l), none, none] m = .ok ⟨(l.zipIdx).map fun z => PV.tup [.int (z.2 : Nat), z.1], []⟩ m := by rw [← enum_any]; simp
      rw [hit]
      simp only [Out.of_ok]
      refine for_nb (fun z : PV × Nat => PV.tup [.int (z.2 : Nat), z.1]) l.zipIdx (fun i e' m' => m' = m ∧ errI l 0 = errI (l.drop i) i ∧ ∃ q1 q2, e' = [some (.tup l), q1, q2]) (fun _ _ _ _ => locked_nil _) ⟨rfl, rfl, _, _, rfl⟩ ?_ ?_
      · rintro i z e' m' hz ⟨rfl, hi, q1, q2, rfl⟩
        obtain ⟨z2, hq⟩ := zip_one hz
        have hp := (part_both (h z.1 (List.mem_of_getElem? hq))).1
        rw [drop_at hq, errI] at hi
        rw [z2]
        generalize z.1 = q at *
        cases b : partB q with
        | true =>
          rw [b] at hp hi
          simp [hp]
          exact hi
        | false =>
          rw [b] at hp hi
          simp at hi
          rw [e, hi]
          simp [hp]
      · rintro e' m' ⟨rfl, hi, q1, q2, rfl⟩
        rw [zl, List.drop_length] at hi
        rw [e, hi]
        simp [errI]
    · refine fn_sat_data hd ?_
      apply run_sat
      unfold b__law_due
      simp only [List.map_cons, List.map_nil, List.length_cons, List.length_nil, List.replicate, List.cons_append, List.nil_append, Nat.reduceAdd, Nat.reduceSub]
      refine seq_sat (fun e m => e = [some (.tup l), none, none] ∧ m = μ) (by simp [et, ez, c']) ?_
      rintro e0 m ⟨rfl, rfl⟩
      simp only [seq_ev, forS_ev]
      have hit : iEnum (v 0) [some (.tup l), none, none] m = .ok ⟨(l.zipIdx).map fun z => PV.tup [.int (z.2 : Nat), z.1], []⟩ m := by rw [← enum_any]; simp
      rw [hit]
      simp only [Out.of_ok]
      refine for_nb (fun z : PV × Nat => PV.tup [.int (z.2 : Nat), z.1]) l.zipIdx (fun i e' m' => m' = m ∧ errI l 0 = errI (l.drop i) i ∧ ∃ q1 q2, e' = [some (.tup l), q1, q2]) (fun _ _ _ _ => locked_nil _) ⟨rfl, rfl, _, _, rfl⟩ ?_ ?_
      · rintro i z e' m' hz ⟨rfl, hi, q1, q2, rfl⟩
        obtain ⟨z2, hq⟩ := zip_one hz
        have hp := (part_both (h z.1 (List.mem_of_getElem? hq))).2
        rw [drop_at hq, errI] at hi
        rw [z2]
        generalize z.1 = q at *
        cases b : partB q with
        | true =>
          rw [b] at hp hi
          simp [hp]
          exact hi
        | false =>
          rw [b] at hp hi
          simp at hi
          rw [e, hi]
          simp [hp]
      · rintro e' m' ⟨rfl, hi, q1, q2, rfl⟩
        rw [zl, List.drop_length] at hi
        rw [e, hi]
        simp [errI]
theorem errors_no {μ : Mem} {p : PV} (h : Kq μ p) (ht : isTu p = false) : m_loose_error [p] μ = .ok (errT p) μ ∧ m__law_due [p] μ = .ok (errT p) μ := by
  have e := kq_tu h
  rw [ht] at e
  have e2 : errT p = .str "form" := by cases p <;> first | rfl | cases ht
  rw [e2]
  constructor
  · apply fn_pure0
    rw [run_ev]
    unfold b_loose_error
    simp [e]
  · apply fn_pure0
    rw [run_ev]
    unfold b__law_due
    simp [e]
/-! kinds of values -/
def P41 (m : Mem) (p : PV) : Prop := (∀ m', FrS m m' → Kp m' p) ∧ ∃ d, Ce m 200000 15 p d
theorem P41.frs {m m' : Mem} {p : PV} (h : P41 m p) (x : FrS m m') : P41 m' p := ⟨fun m2 y => h.1 m2 (x.trans y), h.2.choose, h.2.choose_spec.frs x⟩
theorem kq_data {μ : Mem} {q : PV} (h : q.data = true) : Kq μ q := by
  cases q with
  | ref n => simp [PV.data] at h
  | cst a => simp [PV.data] at h
  | _ => trivial
theorem wt_pos : ∀ d : PyData, 1 ≤ d.wt := fun d => by cases d <;> simp [PyData.wt]
theorem wts_len : ∀ l : List PV, l.length ≤ PyData.wts (PV.pds l)
  | [] => by simp
  | q :: l => by have := wts_len l; have := wt_pos q.pd; simp; omega
theorem P41.dat {m : Mem} {p : PV} (g : Good 60 p) : P41 m p := by
  refine ⟨fun m' _ => ?_, _, (Ce.data g).mono (by decide) (by decide)⟩
  have hd := g.data
  cases p with
  | tup l =>
    simp only [PV.data] at hd
    refine ⟨fun q hq => kq_data ((datas_iff l).mp hd q hq), ?_⟩
    have h1 := g.wt
    have h2 := wts_len l
    simp at h1
    omega
  | ref n => simp [PV.data] at hd
  | cst a => simp [PV.data] at hd
  | _ => trivial
theorem P41.lst {m : Mem} {k : Nat} {l : List PV} (hk : 6 < k) (hc : m[k]? = some (.lst l)) (g : Goods 50 l) : P41 m (.ref k) :=
  ⟨fun m' x => .inl ⟨l, x.get hc hk⟩, _, (Ce.lst hk hc g).mono (by decide) (by decide)⟩
theorem P41.dct {m : Mem} {k : Nat} (hk : 6 < k) (hc : m[k]? = some (.dct [])) : P41 m (.ref k) :=
  ⟨fun m' x => .inr ⟨[], x.get hc hk⟩, _, (Ce.dct hk hc).mono (by decide) (by decide)⟩
/-- a list or an empty dict ahead of data -/
theorem P41.head {m : Mem} {x : PV} {r : List PV} {L e : Nat} {d : PyData} (hx : ∀ m', FrS m m' → Kq m' x) (hc : Ce m L e x d) (hL : L ≤ 20000) (he : e ≤ 12) (hr : ∀ q ∈ r, Good 3 q) (hl : r.length ≤ 3) : P41 m (.tup (x :: r)) := by
  refine ⟨fun m' y => ⟨fun q hq => ?_, by simp; omega⟩, ?_⟩
  · rcases List.mem_cons.mp hq with rfl | hq
    · exact hx m' y
    · exact kq_data (hr q hq).data
  · obtain ⟨d', hd⟩ := Ce.tuple (m := m) (L := 20000) (e := 12) (l := x :: r) fun q hq => by
      rcases List.mem_cons.mp hq with rfl | hq
      · exact ⟨_, hc.mono hL he⟩
      · exact ⟨_, (Ce.data (hr q hq)).mono (by decide) (by decide)⟩
    exact ⟨d', hd.mono (by simp; omega) (by decide)⟩
theorem P41.headL {m : Mem} {k : Nat} {l r : List PV} (hk : 6 < k) (hc : m[k]? = some (.lst l)) (g : Goods 8 l) (hr : ∀ q ∈ r, Good 3 q) (hl : r.length ≤ 3) : P41 m (.tup (.ref k :: r)) :=
  P41.head (fun m' x => .inl ⟨l, x.get hc hk⟩) (Ce.lst hk hc g) (by decide) (by decide) hr hl
theorem P41.headD {m : Mem} {k : Nat} {r : List PV} (hk : 6 < k) (hc : m[k]? = some (.dct [])) (hr : ∀ q ∈ r, Good 3 q) (hl : r.length ≤ 3) : P41 m (.tup (.ref k :: r)) :=
  P41.head (fun m' x => .inr ⟨[], x.get hc hk⟩) (Ce.dct hk hc) (by decide) (by decide) hr hl
inductive T41 (m : Mem) (p : PV) : Prop
  | tup (l : List PV) (e : p = .tup l) (h : ∀ q ∈ l, P41 m q) (hl : l.length ≤ 45)
  | lst (k : Nat) (l : List PV) (e : p = .ref k) (hk : 6 < k) (hc : m[k]? = some (.lst l)) (h : ∀ q ∈ l, P41 m q) (hl : l.length ≤ 45)
  | dct (k : Nat) (e : p = .ref k) (hk : 6 < k) (hc : m[k]? = some (.dct []))
  | dat (g : Good 10 p) (ht : isTu p = false)
theorem T41.frs {m m' : Mem} {p : PV} (h : T41 m p) (x : FrS m m') : T41 m' p := by
  cases h with
  | tup l e h hl => exact .tup l e (fun q hq => (h q hq).frs x) hl
  | lst k l e hk hc h hl => exact .lst k l e hk (x.get hc hk) (fun q hq => (h q hq).frs x) hl
  | dct k e hk hc => exact .dct k e hk (x.get hc hk)
  | dat g ht => exact .dat g ht
theorem T41.rs {m : Mem} {p : PV} (h : T41 m p) : Rs m p := by
  cases h with
  | tup l e h hl =>
    subst e
    obtain ⟨d, hd⟩ := Ce.tuple fun q hq => (h q hq).2
    exact hd.rs (by omega) (by decide)
  | lst k l e hk hc h hl =>
    subst e
    exact rs_lst hk hc (fun q hq => (h q hq).2) (by omega) (by decide)
  | dct k e hk hc =>
    subst e
    exact (Ce.dct hk hc).rs (by decide) (by decide)
  | dat g ht => exact (Ce.data g).rs (by decide) (by decide)
theorem T41.err {m : Mem} {p : PV} (h : T41 m p) {m' : Mem} (x : FrS m m') : m_loose_error [p] m' = .ok (errT p) m' ∧ m__law_due [p] m' = .ok (errT p) m' := by
  cases h with
  | tup l e h hl => subst e; exact errors_tup fun q hq => (h q hq).1 m' x
  | lst k l e hk hc h hl => subst e; exact errors_no (.inl ⟨l, x.get hc hk⟩) rfl
  | dct k e hk hc => subst e; exact errors_no (.inr ⟨[], x.get hc hk⟩) rfl
  | dat g ht => exact errors_no (kq_data g.data) ht
theorem errI_le : ∀ (l : List PV) (k j : Nat), errI l k = some j → j ≤ k + l.length
  | [], k, j, h => by cases h
  | q :: l, k, j, h => by
    unfold errI at h
    split at h
    · have := errI_le l (k + 1) j h; simp; omega
    · cases h; simp
theorem errT_good (p : PV) : Good 10 (errT p) := by
  have g1 : Good 10 (.str "form") := (Good.str (by decide +kernel)).mono (by decide)
  unfold errT
  split
  · rename_i l
    split
    · exact g1
    · rename_i c
      split
      · exact ⟨by simp, by simp, by simp, by simp⟩
      · rename_i k hk
        have hb := errI_le l 0 k hk
        have hs : sml ((k : Nat) : Int) := by unfold sml; omega
        exact (Good.tup (Goods.cons (Good.str (x := "part") (by decide +kernel)) (Goods.cons (Good.int hs) Goods.nil)) (by simp)).mono (by decide)
  · exact g1
end Law
end
section
set_option autoImplicit false
/-! What the laws' ends have in common. -/
namespace Law
open PySem PL
theorem seq_sat2 {a b : Sm} {env : PL.Env} {μ : Mem} {W : Wp} (P : PL.Env → Mem → Prop) (hA : (a env μ).sat { nx := P, rt := W.rt, bk := W.bk, ct := W.ct }) (hb : ∀ e m, P e m → (b e m).sat W) : (seq a b env μ).sat W := by
  rw [seq_ev]
  refine then_sat (sat_imp hA (fun e m h => hb e m h) (fun _ _ h => h) (fun _ _ h => h) (fun _ _ h => h))
theorem nx_only {o : Out} {P : PL.Env → Mem → Prop} {W : Wp} (h : o.sat { nx := P }) (i : ∀ e m, P e m → W.nx e m) : o.sat W := sat_imp h i (fun _ _ h => h.elim) (fun _ _ h => h.elim) (fun _ _ h => h.elim)
theorem fAdd_refs {μ : Mem} {a b : Nat} {l r : List PV} (ha : μ[a]? = some (.lst l)) (hb : μ[b]? = some (.lst r)) (hz : l.length + r.length ≤ SL) : fAdd [.ref a, .ref b] μ = .ok (.ref μ.length) (μ ++ [.lst (l ++ r)]) := by
  have : l.length + r.length ≤ 16777216 := hz
  simp [fAdd, ha, hb, newL, this]
theorem c28 : (10 : Int) ^ (28 : Nat) = 10000000000000000000000000000 := by decide
theorem c29 : (10 : Int) ^ (29 : Nat) = 100000000000000000000000000000 := by decide
theorem c30 : (10 : Int) ^ (30 : Nat) = 1000000000000000000000000000000 := by decide
theorem c12 : (10 : Int) ^ (12 : Nat) = 1000000000000 := by decide
theorem c20 : (10 : Int) ^ (20 : Nat) = 100000000000000000000 := by decide
theorem c40 : (10 : Int) ^ 40 = 10000000000000000000000000000000000000000 := by decide
theorem n40 : (10 : Nat) ^ 40 = 10000000000000000000000000000000000000000 := by decide
end Law
end
section
set_option autoImplicit false
/-! k41: mostly no loose part: drawn. -/
namespace Law
open PySem PL
/-- a flat item -/
structure Fq (p : PV) : Prop where
  g : Good 3 p
  d : p.pd.depth ≤ 3
theorem Fq.int {i : Int} (h : sml i) : Fq (.int i) := ⟨(Good.int h).mono (by decide), by simp⟩
theorem Fq.bl (b : Bool) : Fq (.bl b) := ⟨(Good.bl b).mono (by decide), by simp⟩
theorem Fq.non : Fq .non := ⟨⟨by simp, by simp, by simp, by simp⟩, by simp⟩
theorem Fq.str {x : Str} (h : (PyData.strOk x && decide ((reprText x).length ≤ 1990)) = true) : Fq (.str x) := ⟨(Good.str h).mono (by decide), by simp⟩
theorem fqs {l : List PV} (h : ∀ q ∈ l, Fq q) : Goods (3 * l.length) l ∧ PyData.depthAll (PV.pds l) ≤ 3 := by
  induction l with
  | nil => exact ⟨Goods.nil, by simp⟩
  | cons q l ih =>
    obtain ⟨g, d⟩ := ih fun x hx => h x (List.mem_cons_of_mem _ hx)
    obtain ⟨g1, d1⟩ := h q (List.mem_cons_self ..)
    exact ⟨(Goods.cons g1 g).mono (by simp; omega), by simp; omega⟩
inductive Q41 (C : Nat → Prop) (m : Mem) (p : PV) : Prop
  | dat (g : Good 60 p)
  | lst (k : Nat) (l : List PV) (e : p = .ref k) (hk : C k) (hc : m[k]? = some (.lst l)) (g : Goods 50 l)
  | dct (k : Nat) (e : p = .ref k) (hk : C k) (hc : m[k]? = some (.dct []))
  | headL (k : Nat) (l r : List PV) (e : p = .tup (.ref k :: r)) (hk : C k) (hc : m[k]? = some (.lst l)) (g : Goods 8 l) (hr : ∀ q ∈ r, Good 3 q) (hl : r.length ≤ 3)
  | headD (k : Nat) (r : List PV) (e : p = .tup (.ref k :: r)) (hk : C k) (hc : m[k]? = some (.dct [])) (hr : ∀ q ∈ r, Good 3 q) (hl : r.length ≤ 3)
theorem Q41.p {C : Nat → Prop} (hC : ∀ k, C k → 6 < k) {m : Mem} {p : PV} (h : Q41 C m p) : P41 m p := by
  cases h with
  | dat g => exact P41.dat g
  | lst k l e hk hc g => subst e; exact P41.lst (hC _ hk) hc g
  | dct k e hk hc => subst e; exact P41.dct (hC _ hk) hc
  | headL k l r e hk hc g hr hl => subst e; exact P41.headL (hC _ hk) hc g hr hl
  | headD k r e hk hc hr hl => subst e; exact P41.headD (hC _ hk) hc hr hl
theorem Q41.frs {C : Nat → Prop} {m m' : Mem} {p : PV} (h : Q41 C m p) (x : ∀ i o, C i → m[i]? = some o → m'[i]? = some o) : Q41 C m' p := by
  cases h with
  | dat g => exact .dat g
  | lst k l e hk hc g => exact .lst k l e hk (x _ _ hk hc) g
  | dct k e hk hc => exact .dct k e hk (x _ _ hk hc)
  | headL k l r e hk hc g hr hl => exact .headL k l r e hk (x _ _ hk hc) g hr hl
  | headD k r e hk hc hr hl => exact .headD k r e hk (x _ _ hk hc) hr hl
theorem Q41.take {C : Nat → Prop} {m : Mem} {p : PV} {n : Nat} (h : Q41 C m p) (hn : p.under n = true) : Q41 C (m.take n) p := by
  have tk : ∀ (k : Nat) (o : PO), k < n → m[k]? = some o → (m.take n)[k]? = some o := fun k o h1 h2 => by rw [List.getElem?_take_of_lt h1]; exact h2
  cases h with
  | dat g => exact .dat g
  | lst k l e hk hc g =>
    subst e
    simp only [PV.under, decide_eq_true_eq] at hn
    exact .lst k l rfl hk (tk k _ hn hc) g
  | dct k e hk hc =>
    subst e
    simp only [PV.under, decide_eq_true_eq] at hn
    exact .dct k rfl hk (tk k _ hn hc)
  | headL k l r e hk hc g hr hl =>
    subst e
    simp only [PV.under, PV.unders, Bool.and_eq_true, decide_eq_true_eq] at hn
    exact .headL k l r rfl hk (tk k _ hn.1 hc) g hr hl
  | headD k r e hk hc hr hl =>
    subst e
    simp only [PV.under, PV.unders, Bool.and_eq_true, decide_eq_true_eq] at hn
    exact .headD k r rfl hk (tk k _ hn.1 hc) hr hl
theorem Q41.sub {C D : Nat → Prop} {m : Mem} {p : PV} (h : Q41 C m p) (x : ∀ i, C i → D i) : Q41 D m p := by
  cases h with
  | dat g => exact .dat g
  | lst k l e hk hc g => exact .lst k l e (x _ hk) hc g
  | dct k e hk hc => exact .dct k e (x _ hk) hc
  | headL k l r e hk hc g hr hl => exact .headL k l r e (x _ hk) hc g hr hl
  | headD k r e hk hc hr hl => exact .headD k r e (x _ hk) hc hr hl
theorem Q41.tupF {C : Nat → Prop} {m : Mem} {l : List PV} (h : ∀ q ∈ l, Fq q) (hl : l.length ≤ 4) : Q41 C m (.tup l) :=
  .dat ((Good.tup (fqs h).1 (by have := (fqs h).2; omega)).mono (by omega))
theorem Q41.flat {C : Nat → Prop} {m : Mem} {p : PV} (h : Fq p) : Q41 C m p := .dat (h.1.mono (by decide))
theorem Q41.lstF {C : Nat → Prop} {m : Mem} {k : Nat} {l : List PV} (hk : C k) (hc : m[k]? = some (.lst l)) (h : ∀ q ∈ l, Fq q) (hl : l.length ≤ 4) : Q41 C m (.ref k) := .lst k l rfl hk hc ((fqs h).1.mono (by omega))
theorem Fq.tup2 {a b : Int} (ha : sml a) (hb : sml b) : Fq (.tup [.int a, .int b]) :=
  ⟨(Good.tup (Goods.cons (Good.int ha) (Goods.cons (Good.int hb) Goods.nil)) (by simp)).mono (by decide), by simp⟩
theorem Fq.tup1 {a : PV} (ha : Good 1 a) (hd : a.pd.depth ≤ 1) : Fq (.tup [a]) :=
  ⟨(Good.tup (Goods.cons ha Goods.nil) (by simp; omega)).mono (by decide), by simp; omega⟩
def Od41 (m0 : Mem) (k n : Nat) (m : Mem) : Prop := Ks m0 m ∧ m0.length ≤ k ∧ ∃ L, m[k]? = some (.lst L) ∧ 0 < L.length ∧ L.length ≤ n ∧ ∀ q ∈ L, Q41 (fun i => m0.length ≤ i) m q
theorem frs_app (m M : Mem) : FrS m (m ++ M) := FrS.ext (Ext.app m M)
theorem Od41.mk0 {m0 m : Mem} {n : Nat} {K : List PV} (g : Ks m0 m) (hl : 0 < K.length) (hn : K.length ≤ n) (hK : ∀ q ∈ K, Q41 (fun i => m0.length ≤ i) (m ++ [.lst K]) q) : Od41 m0 m.length n (m ++ [.lst K]) :=
  ⟨g.app _, g.2.1, K, by simp, hl, hn, hK⟩
theorem Od41.add {m0 : Mem} {k n : Nat} {m : Mem} (h : Od41 m0 k n m) (hp0 : Stk m0) (M : Mem) {K : List PV} (hK : ∀ q ∈ K, Q41 (fun i => m0.length ≤ i) (m ++ (M ++ [PO.lst K])) q) (hn : n + K.length ≤ 1000) :
    ∃ m', fAdd [.ref k, .ref (m.length + M.length)] (m ++ (M ++ [PO.lst K])) = .ok (.ref (m.length + M.length + 1)) m' ∧ Od41 m0 (m.length + M.length + 1) (n + K.length) m' := by
  obtain ⟨g, hk, L, hc, l0, ln, hL⟩ := h
  have hlt := hp0.lt
  have h1 : (m ++ (M ++ [PO.lst K]))[k]? = some (.lst L) := get_some hc
  have h2 : (m ++ (M ++ [PO.lst K]))[m.length + M.length]? = some (.lst K) := by
    rw [List.getElem?_append_right (by omega), List.getElem?_append_right (by omega)]
    have : m.length + M.length - m.length - M.length = 0 := by omega
    rw [this]
    rfl
  have hlen : (m ++ (M ++ [PO.lst K])).length = m.length + M.length + 1 := by simp; omega
  refine ⟨m ++ (M ++ [PO.lst K]) ++ [PO.lst (L ++ K)], ?_, ?_, by have := g.2.1; omega, L ++ K, ?_, by simp; omega, by simp; omega, ?_⟩
  · rw [fAdd_refs h1 h2 (by show _ ≤ 16777216; omega), hlen]
  · exact (g.app _).app _
  · rw [← hlen]; simp
  · intro q hq
    rcases List.mem_append.mp hq with hq | hq
    · exact (hL q hq).frs (fun i o _ h => get_some (get_some h))
    · exact (hK q hq).frs (fun i o _ h => get_some h)
abbrev eOd (k : Nat) (w : Str) (low : Int) : PL.Env := [some (.ref 6), some (.str w), some (.ref k), some (.int low), some (.int 1000000000000000000000000000000)]
theorem law_odd_ev (m0 : Mem) (hp : Stk m0) : (m__law_odd [.ref 6] m0).sat fun p m' => Q41 (fun i => m0.length ≤ i) m' p ∧ Ks m0 m' := by
  have hlt0 := hp.lt
  have key : (run 5 b__law_odd [.ref 6] m0).sat fun p m' => Q41 (fun i => m0.length ≤ i) m' p ∧ Ks m0 m' := by
    apply run_sat
    unfold b__law_odd
    simp only [List.map_cons, List.map_nil, List.length_cons, List.length_nil, List.replicate, List.cons_append, List.nil_append, Nat.reduceAdd, Nat.reduceSub]
    refine seq_sat (fun e m => Ks m0 m ∧ ∃ low : Int, 0 ≤ low ∧ low < 5 ∧ e = [some (.ref 6), none, none, some (.int low), some (.int 1000000000000000000000000000000)]) ?_ ?_
    · obtain ⟨p, m, e, ⟨low, rfl, h0, h1⟩, g⟩ := rsat_ex (draw_ev m0 hp 5 (by omega) (by omega))
      simp [e]
      exact ⟨g, h0, h1⟩
    rintro e m ⟨g, low, l0, l1, rfl⟩
    refine seq_sat (fun e m => Ks m0 m ∧ ∃ w : Str, (w = "on" ∨ w = "off") ∧ e = [some (.ref 6), some (.str w), none, some (.int low), some (.int 1000000000000000000000000000000)]) ?_ ?_
    · obtain ⟨p, m2, e2, hq, g2⟩ := rsat_ex (spick_lit m g.1 [.str ("on" : Str), .str ("off" : Str)] (by simp) (by simp))
      simp only [List.mem_cons, List.not_mem_nil, or_false] at hq
      rcases hq with rfl | rfl
      · simp [e2]; exact g.trans g2
      · simp [e2]; exact g.trans g2
    rintro e m1 ⟨g1, w, hw, rfl⟩
    have fw : Fq (.str w) := by rcases hw with rfl | rfl <;> exact Fq.str (by decide +kernel)
    have gw : Good 1 (.str w) := by rcases hw with rfl | rfl <;> exact Good.str (by decide +kernel)
    have sm : ∀ i : Int, 0 ≤ i → i < 10 → sml i := fun i a b => by unfold sml; omega
    have fl : Fq (.int low) := Fq.int (sm low l0 (by omega))
    have fl1 : Fq (.int (low + 1)) := Fq.int (sm (low + 1) (by omega) (by omega))
    have ff : Fq (.int 1000000000000000000000000000000) := Fq.int (by decide +kernel)
    have ff1 : Fq (.int 1000000000000000000000000000001) := Fq.int (by decide +kernel)
    have ff2 : Fq (.int (1000000000000000000000000000000 * 1000000000000000000000000000000)) := Fq.int (by decide +kernel)
    have ff3 : Fq (.int (1000000000000000000000000000000 * 1000000000000000000000000000000 * 1000000000000000000000000000000)) := Fq.int (by decide +kernel)
    have f1 : Fq (.int 1) := Fq.int (by decide +kernel)
    have f0 : Fq (.int 0) := Fq.int (by decide +kernel)
    have f2 : Fq (.int 2) := Fq.int (by decide +kernel)
    have f7 : Fq (.int 7) := Fq.int (by decide +kernel)
    have fm : Fq (.int (-1)) := Fq.int (by decide +kernel)
    have fdel : Fq (.str ("delay" : Str)) := Fq.str (by decide +kernel)
    have ftur : Fq (.str ("turn" : Str)) := Fq.str (by decide +kernel)
    have fOn : Fq (.str ("On" : Str)) := Fq.str (by decide +kernel)
    have flat_ : Fq (.str ("late" : Str)) := Fq.str (by decide +kernel)
    have fs2 : Fq (.str ("2" : Str)) := Fq.str (by decide +kernel)
    have fon1 : Fq (.tup [.str ("on" : Str)]) := Fq.tup1 (Good.str (by decide +kernel)) (by simp)
    have f11 : Fq (.tup [.int 1]) := Fq.tup1 (Good.int (by decide +kernel)) (by simp)
    have fll : Fq (.tup [.int low, .int low]) := Fq.tup2 (sm low l0 (by omega)) (sm low l0 (by omega))
    have t1 : ∀ (m : Mem) (a : PV), Fq a → Q41 (fun i => m0.length ≤ i) m (.tup [a]) := fun m a ha => Q41.tupF (by (simp only [List.forall_mem_cons, List.not_mem_nil, false_implies, implies_true, and_true]; (repeat' apply And.intro)); exact ha) (by simp)
    have t2 : ∀ (m : Mem) (a b : PV), Fq a → Fq b → Q41 (fun i => m0.length ≤ i) m (.tup [a, b]) := fun m a b ha hb => Q41.tupF (by (simp only [List.forall_mem_cons, List.not_mem_nil, false_implies, implies_true, and_true]; (repeat' apply And.intro)); exact ha; exact hb) (by simp)
    have t3 : ∀ (m : Mem) (a b c : PV), Fq a → Fq b → Fq c → Q41 (fun i => m0.length ≤ i) m (.tup [a, b, c]) := fun m a b c ha hb hc => Q41.tupF (by (simp only [List.forall_mem_cons, List.not_mem_nil, false_implies, implies_true, and_true]; (repeat' apply And.intro)); exact ha; exact hb; exact hc) (by simp)
    have t4 : ∀ (m : Mem) (a b c d : PV), Fq a → Fq b → Fq c → Fq d → Q41 (fun i => m0.length ≤ i) m (.tup [a, b, c, d]) := fun m a b c d ha hb hc hd => Q41.tupF (by (simp only [List.forall_mem_cons, List.not_mem_nil, false_implies, implies_true, and_true]; (repeat' apply And.intro)); exact ha; exact hb; exact hc; exact hd) (by simp)
    refine seq_sat (fun e m => ∃ k, Od41 m0 k 6 m ∧ e = eOd k w low) ?_ ?_
    · have hod : Od41 m0 m1.length 6 (m1 ++ [.lst [.tup [.str w, .int (low + 1), .int low], .tup [.str w, .int low], .tup [.str w], .tup [.str w, .int low, .int 1000000000000000000000000000000], .tup [.str w, .int low, .int 1000000000000000000000000000001], .tup [.str w, .int 1000000000000000000000000000000, .int 1000000000000000000000000000000]]]) := by
        refine Od41.mk0 g1 (by simp) (by simp) ?_
        (simp only [List.forall_mem_cons, List.not_mem_nil, false_implies, implies_true, and_true]; (repeat' apply And.intro))
        · exact t3 _ _ _ _ fw fl1 fl
        · exact t2 _ _ _ fw fl
        · exact t1 _ _ fw
        · exact t3 _ _ _ _ fw fl ff
        · exact t3 _ _ _ _ fw fl ff1
        · exact t3 _ _ _ _ fw ff ff
      simp
      exact hod
    rintro e m2 ⟨k2, h2, rfl⟩
    refine seq_sat (fun e m => ∃ k, Od41 m0 k 11 m ∧ e = eOd k w low) ?_ ?_
    · obtain ⟨m', ea, ho⟩ := h2.add hp [] (K := [.tup [.str w, .int (-1), .int low], .tup [.str w, .bl true, .int 2], .tup [.str w, .int 0, .bl true], .tup [.str w, .bl false, .int low], .tup [.str w, .non, .int low]]) (by
        (simp only [List.forall_mem_cons, List.not_mem_nil, false_implies, implies_true, and_true]; (repeat' apply And.intro))
        · exact t3 _ _ _ _ fw fm fl
        · exact t3 _ _ _ _ fw (Fq.bl _) f2
        · exact t3 _ _ _ _ fw f0 (Fq.bl _)
        · exact t3 _ _ _ _ fw (Fq.bl _) fl
        · exact t3 _ _ _ _ fw Fq.non fl) (by simp)
      simp only [List.nil_append, List.length_nil, Nat.add_zero] at ea ho
      simp [-fAdd_ref, ea]
      exact ho
    rintro e m3 ⟨k3, h3, rfl⟩
    have hm3 : m0.length ≤ m3.length := h3.1.2.1
    refine seq_sat (fun e m => ∃ k, Od41 m0 k 16 m ∧ e = eOd k w low) ?_ ?_
    · obtain ⟨m', ea, ho⟩ := h3.add hp [.lst [.str w, .int low, .int low]] (K := [.ref m3.length, .tup [.str w, .int low, .int low, .int low], .tup [.str w, .tup [.int low, .int low]], .tup [.str ("delay" : Str), .int low, .int low], .tup [.str ("delay" : Str)]]) (by
        (simp only [List.forall_mem_cons, List.not_mem_nil, false_implies, implies_true, and_true]; (repeat' apply And.intro))
        · exact Q41.lstF hm3 (l := [.str w, .int low, .int low]) (by simp) (by (simp only [List.forall_mem_cons, List.not_mem_nil, false_implies, implies_true, and_true]; (repeat' apply And.intro)); exact fw; exact fl; exact fl) (by simp)
        · exact t4 _ _ _ _ _ fw fl fl fl
        · exact t2 _ _ _ fw fll
        · exact t3 _ _ _ _ fdel fl fl
        · exact t1 _ _ fdel) (by simp)
      simp only [List.cons_append, List.nil_append, List.length_cons, List.length_nil] at ea ho
      simp [-fAdd_ref, ea]
      exact ho
    rintro e m4 ⟨k4, h4, rfl⟩
    refine seq_sat (fun e m => ∃ k, Od41 m0 k 23 m ∧ e = eOd k w low) ?_ ?_
    · obtain ⟨m', ea, ho⟩ := h4.add hp [] (K := [.tup [.str ("delay" : Str), .int (-1)], .tup [.str ("delay" : Str), .int 1000000000000000000000000000000], .tup [.str ("delay" : Str), .int 1000000000000000000000000000001], .tup [.str ("delay" : Str), .bl true], .tup [.str ("turn" : Str), .int 0], .tup [.str ("turn" : Str)], .str ("turn" : Str)]) (by
        (simp only [List.forall_mem_cons, List.not_mem_nil, false_implies, implies_true, and_true]; (repeat' apply And.intro))
        · exact t2 _ _ _ fdel fm
        · exact t2 _ _ _ fdel ff
        · exact t2 _ _ _ fdel ff1
        · exact t2 _ _ _ fdel (Fq.bl _)
        · exact t2 _ _ _ ftur f0
        · exact t1 _ _ ftur
        · exact Q41.flat ftur) (by simp)
      simp only [List.nil_append, List.length_nil, Nat.add_zero] at ea ho
      simp [-fAdd_ref, ea]
      exact ho
    rintro e m5 ⟨k5, h5, rfl⟩
    have hm5 : m0.length ≤ m5.length := h5.1.2.1
    refine seq_sat (fun e m => ∃ k, Od41 m0 k 32 m ∧ e = eOd k w low) ?_ ?_
    · obtain ⟨m', ea, ho⟩ := h5.add hp [.lst [.str ("turn" : Str)], .dct []] (K := [.ref m5.length, .tup [.str ("On" : Str), .int 1, .int 2], .tup [.non, .int 1, .int 2], .tup [.tup [.str ("on" : Str)], .int 1, .int 2], .tup [], .non, .int 7, .ref (m5.length + 1), .tup [.str w, .int low, .int (low + 1)]]) (by
        (simp only [List.forall_mem_cons, List.not_mem_nil, false_implies, implies_true, and_true]; (repeat' apply And.intro))
        · exact Q41.lstF hm5 (l := [.str ("turn" : Str)]) (by simp) (by (simp only [List.forall_mem_cons, List.not_mem_nil, false_implies, implies_true, and_true]; (repeat' apply And.intro)); exact ftur) (by simp)
        · exact t3 _ _ _ _ fOn f1 f2
        · exact t3 _ _ _ _ Fq.non f1 f2
        · exact t3 _ _ _ _ fon1 f1 f2
        · exact Q41.tupF (by simp) (by simp)
        · exact Q41.flat Fq.non
        · exact Q41.flat f7
        · exact Q41.dct _ rfl (show m0.length ≤ m5.length + 1 by omega) (by simp)
        · exact t3 _ _ _ _ fw fl fl1) (by simp)
      simp only [List.cons_append, List.nil_append, List.length_cons, List.length_nil] at ea ho
      simp [-fAdd_ref, ea]
      exact ho
    rintro e m6 ⟨k6, h6, rfl⟩
    refine seq_sat (fun e m => ∃ k, Od41 m0 k 36 m ∧ e = eOd k w low) ?_ ?_
    · obtain ⟨m', ea, ho⟩ := h6.add hp [] (K := [.tup [.str ("late" : Str), .int 1, .int 2], .tup [.int 1, .str w, .int 2], .tup [.str w, .int (1000000000000000000000000000000 * 1000000000000000000000000000000), .int (1000000000000000000000000000000 * 1000000000000000000000000000000 * 1000000000000000000000000000000)], .tup [.str w, .int low, .int (1000000000000000000000000000000 * 1000000000000000000000000000000 * 1000000000000000000000000000000)]]) (by
        (simp only [List.forall_mem_cons, List.not_mem_nil, false_implies, implies_true, and_true]; (repeat' apply And.intro))
        · exact t3 _ _ _ _ flat_ f1 f2
        · exact t3 _ _ _ _ f1 fw f2
        · exact t3 _ _ _ _ fw ff2 ff3
        · exact t3 _ _ _ _ fw fl ff3) (by simp)
      simp only [List.nil_append, List.length_nil, Nat.add_zero] at ea ho
      have mu1 : ∀ μ : Mem, fMul [.int 1000000000000000000000000000000, .int 1000000000000000000000000000000] μ = .ok (.int (1000000000000000000000000000000 * 1000000000000000000000000000000)) μ := fun μ => by
        have : mulOk 1000000000000000000000000000000 1000000000000000000000000000000 := by decide +kernel
        simp only [fMul]
        rw [if_pos this]
      have mu2 : ∀ μ : Mem, fMul [.int (1000000000000000000000000000000 * 1000000000000000000000000000000), .int 1000000000000000000000000000000] μ = .ok (.int (1000000000000000000000000000000 * 1000000000000000000000000000000 * 1000000000000000000000000000000)) μ := fun μ => by
        have : mulOk (1000000000000000000000000000000 * 1000000000000000000000000000000) 1000000000000000000000000000000 := by decide +kernel
        simp only [fMul]
        rw [if_pos this]
      generalize (1000000000000000000000000000000 * 1000000000000000000000000000000 * 1000000000000000000000000000000 : Int) = c90 at *
      generalize (1000000000000000000000000000000 * 1000000000000000000000000000000 : Int) = c60 at *
      simp [-fAdd_ref, ea, mu1, mu2]
      exact ho
    rintro e m7 ⟨k7, h7, rfl⟩
    have hm7 : m0.length ≤ m7.length := h7.1.2.1
    refine seq_sat (fun e m => ∃ k, Od41 m0 k 42 m ∧ e = eOd k w low) ?_ ?_
    · obtain ⟨m', ea, ho⟩ := h7.add hp [.lst [.str w], .dct [], .lst []] (K := [.tup [.ref m7.length, .int low, .int low], .tup [.ref (m7.length + 1), .int 1, .int 2], .tup [.ref (m7.length + 2)], .tup [.str w, .int low, .non], .tup [.str w, .int low, .str ("2" : Str)], .tup [.str ("delay" : Str), .non]]) (by
        (simp only [List.forall_mem_cons, List.not_mem_nil, false_implies, implies_true, and_true]; (repeat' apply And.intro))
        · exact Q41.headL _ [.str w] _ rfl hm7 (by simp) ((fqs (by (simp only [List.forall_mem_cons, List.not_mem_nil, false_implies, implies_true, and_true]; (repeat' apply And.intro)); exact fw)).1.mono (by simp)) (by (simp only [List.forall_mem_cons, List.not_mem_nil, false_implies, implies_true, and_true]; (repeat' apply And.intro)); exact fl.g; exact fl.g) (by simp)
        · exact Q41.headD _ _ rfl (show m0.length ≤ m7.length + 1 by omega) (by simp) (by (simp only [List.forall_mem_cons, List.not_mem_nil, false_implies, implies_true, and_true]; (repeat' apply And.intro)); exact f1.g; exact f2.g) (by simp)
        · exact Q41.headL _ [] _ rfl (show m0.length ≤ m7.length + 2 by omega) (by simp) (Goods.nil.mono (by decide)) (by simp) (by simp)
        · exact t3 _ _ _ _ fw fl Fq.non
        · exact t3 _ _ _ _ fw fl fs2
        · exact t2 _ _ _ fdel Fq.non) (by simp)
      simp only [List.cons_append, List.nil_append, List.length_cons, List.length_nil] at ea ho
      simp [-fAdd_ref, ea]
      exact ho
    rintro e m8 ⟨k8, h8, rfl⟩
    obtain ⟨m9, ea, g9, hk9, L, hc9, L0, Ln, hL⟩ := h8.add hp [] (K := [.tup [.str ("delay" : Str), .tup [.int 1]]]) (by (simp only [List.forall_mem_cons, List.not_mem_nil, false_implies, implies_true, and_true]; (repeat' apply And.intro)); exact t2 _ _ _ fdel f11) (by simp)
    simp only [List.nil_append, List.length_nil, Nat.add_zero] at ea hc9
    have hm8 : 6 < m8.length := by have := h8.1.2.1; omega
    have Ln' : L.length ≤ 43 := by simpa using Ln
    obtain ⟨p, m10, e10, hq, g10⟩ := rsat_ex (spick_ev m9 g9.1 (m8.length + 1) L (by omega) hc9 L0 (by omega))
    simp [-fAdd_ref, ea, e10]
    exact ⟨(hL p hq).frs (fun i o hi h => g10.2.get h (by omega)), g9.trans g10⟩
  exact fn_sat key fun p m h hn hu => ⟨h.1.take hu, h.2.take hp⟩
end Law
end
section
set_option autoImplicit false
/-! k41: the things that are asked. -/
namespace Law
open PySem PL
inductive S41 (C : Nat → Prop) (m : Mem) (p : PV) : Prop
  | tup (l : List PV) (e : p = .tup l) (h : ∀ q ∈ l, Q41 C m q) (hl : l.length ≤ 45)
  | lst (k : Nat) (l : List PV) (e : p = .ref k) (hk : C k) (hc : m[k]? = some (.lst l)) (h : ∀ q ∈ l, Q41 C m q) (hl : l.length ≤ 45)
  | dct (k : Nat) (e : p = .ref k) (hk : C k) (hc : m[k]? = some (.dct []))
  | dat (g : Good 10 p) (ht : isTu p = false)
theorem S41.t {C : Nat → Prop} (hC : ∀ k, C k → 6 < k) {m : Mem} {p : PV} (h : S41 C m p) : T41 m p := by
  cases h with
  | tup l e h hl => exact .tup l e (fun q hq => (h q hq).p hC) hl
  | lst k l e hk hc h hl => exact .lst k l e (hC _ hk) hc (fun q hq => (h q hq).p hC) hl
  | dct k e hk hc => exact .dct k e (hC _ hk) hc
  | dat g ht => exact .dat g ht
theorem S41.frs {C : Nat → Prop} {m m' : Mem} {p : PV} (h : S41 C m p) (x : ∀ i o, C i → m[i]? = some o → m'[i]? = some o) : S41 C m' p := by
  cases h with
  | tup l e h hl => exact .tup l e (fun q hq => (h q hq).frs x) hl
  | lst k l e hk hc h hl => exact .lst k l e hk (x _ _ hk hc) (fun q hq => (h q hq).frs x) hl
  | dct k e hk hc => exact .dct k e hk (x _ _ hk hc)
  | dat g ht => exact .dat g ht
theorem Q41.move {C D : Nat → Prop} {m m' : Mem} {p : PV} (h : Q41 C m p) (x : ∀ i o, C i → m[i]? = some o → D i ∧ m'[i]? = some o) : Q41 D m' p := by
  cases h with
  | dat g => exact .dat g
  | lst k l e hk hc g => exact .lst k l e (x _ _ hk hc).1 (x _ _ hk hc).2 g
  | dct k e hk hc => exact .dct k e (x _ _ hk hc).1 (x _ _ hk hc).2
  | headL k l r e hk hc g hr hl => exact .headL k l r e (x _ _ hk hc).1 (x _ _ hk hc).2 g hr hl
  | headD k r e hk hc hr hl => exact .headD k r e (x _ _ hk hc).1 (x _ _ hk hc).2 hr hl
theorem S41.move {C D : Nat → Prop} {m m' : Mem} {p : PV} (h : S41 C m p) (x : ∀ i o, C i → m[i]? = some o → D i ∧ m'[i]? = some o) : S41 D m' p := by
  cases h with
  | tup l e h hl => exact .tup l e (fun q hq => (h q hq).move x) hl
  | lst k l e hk hc h hl => exact .lst k l e (x _ _ hk hc).1 (x _ _ hk hc).2 (fun q hq => (h q hq).move x) hl
  | dct k e hk hc => exact .dct k e (x _ _ hk hc).1 (x _ _ hk hc).2
  | dat g ht => exact .dat g ht
abbrev Ck (k : Nat) : Nat → Prop := fun i => 6 < i ∧ i ≠ k
def Th (k n : Nat) (m : Mem) : Prop := Stk m ∧ 6 < k ∧ ∃ L, m[k]? = some (.lst L) ∧ L.length ≤ n ∧ ∀ q ∈ L, S41 (Ck k) m q
theorem ks_keep {m m' : Mem} (g : Ks m m') {k : Nat} : ∀ i o, Ck k i → m[i]? = some o → m'[i]? = some o := fun i o hi h => g.get h hi.1
theorem Th.ks {k n : Nat} {m m' : Mem} (h : Th k n m) (g : Ks m m') : Th k n m' := by
  obtain ⟨a, b, L, c, d, e⟩ := h
  exact ⟨g.1, b, L, g.get c b, d, fun q hq => (e q hq).frs (ks_keep g)⟩
theorem Th.push {k n : Nat} {m : Mem} (h : Th k n m) {q : PV} (hq : S41 (Ck k) m q) (hn : n ≤ 1000) : ∃ m', fAppend [.ref k, q] m = .ok .non m' ∧ isKd .list m (.ref k) = true ∧ Th k (n + 1) m' ∧ (∀ i o, Ck k i → m[i]? = some o → m'[i]? = some o) := by
  obtain ⟨a, b, L, c, d, e⟩ := h
  have x : ∀ i o, Ck k i → m[i]? = some o → (m.set k (.lst (L ++ [q])))[i]? = some o := fun i o hi h => by rw [List.getElem?_set_ne (Ne.symm hi.2)]; exact h
  refine ⟨m.set k (.lst (L ++ [q])), ?_, by simp [isKd, c], ⟨a.set _ (by omega), b, _, get_set_same c, by simp; omega, ?_⟩, x⟩
  · have hz : L.length < 16777216 := by omega
    simp [c, hz]
  · intro p hp
    rcases List.mem_append.mp hp with hp | hp
    · exact (e p hp).frs x
    · rw [List.mem_singleton.mp hp]; exact hq.frs x
theorem odd_ck {m0 m : Mem} {k : Nat} {p : PV} (hk : k < m0.length) (hp : Stk m0) (h : Q41 (fun i => m0.length ≤ i) m p) : Q41 (Ck k) m p := h.sub fun i hi => ⟨by have := hp.lt; omega, by omega⟩
theorem sl_t41 (L : List PV) {a : Int} (ha : 0 ≤ a) (μ : Mem) : fSl [.tup L, .non, .int a] μ = .ok (.tup (L.take a.toNat)) μ := by rw [fSl_tup01, cut_toI L ha]
theorem sl_f41 (L : List PV) {a : Int} (ha : 0 ≤ a) (μ : Mem) : fSl [.tup L, .int a, .non] μ = .ok (.tup (L.drop a.toNat)) μ := by rw [fSl_tup10, cut_fromI L ha]
theorem ad41 {a b : List PV} (h : a.length + b.length ≤ 1000) (μ : Mem) : fAdd [.tup a, .tup b] μ = .ok (.tup (a ++ b)) μ := fAdd_tup μ (by show _ ≤ 16777216; omega)
/-- the test of all things -/
theorem ask_ev {k n : Nat} {m : Mem} (h : Th k n m) (q0 q1 q2 q3 q4 q5 q7 q8 q9 q10 q11 q12 q13 q14 : Option PV) :
   (forS (iEnum (v 6)) (tt 2 (tc (tn 7) (tc (tn 9) t0)))
    (seq (par 13 14 (app fReprE (ac (v 9) an)) (app fReprE (ac (app m__law_due (ac (v 9) an)) an)))
    (seq (setv 10 (PL.ite (app2 fEq (app2 fMod (v 7) (c (.int 3))) (c (.int 0))) (callK m_loose_error [0] an (ac (v 9) an)) (app m_loose_error (ac (v 9) an))))
    (PL.cond (PL.or (app2 fNe (app fReprE (ac (v 10) an)) (v 14)) (PL.or (app2 fNe (app fReprE (ac (app m_loose_error (ac (v 9) an)) an)) (v 14)) (app2 fNe (app fReprE (ac (v 9) an)) (v 13))))
     (ret (c (.bl false)))
     skip))) [q0, q1, q2, q3, q4, q5, some (.ref k), q7, q8, q9, q10, q11, q12, q13, q14] m).sat { nx := fun e m' => m' = m ∧ ∃ q7 q9 q10 q13 q14, e = [q0, q1, q2, q3, q4, q5, some (.ref k), q7, q8, q9, q10, q11, q12, q13, q14] } := by
  obtain ⟨a, b, L, c, d, e⟩ := h
  simp only [forS_ev]
  have hit : iEnum (v 6) [q0, q1, q2, q3, q4, q5, some (.ref k), q7, q8, q9, q10, q11, q12, q13, q14] m = .ok ⟨(L.zipIdx).map fun z => PV.tup [.int (z.2 : Nat), z.1], [(k, L)]⟩ m := by
    rw [← enum_any]
    simp [enumOf, getL, c]
  rw [hit]
  simp only [Out.of_ok]
  refine for_sat0 (fun z : PV × Nat => PV.tup [.int (z.2 : Nat), z.1]) L.zipIdx (fun _ e m' => m' = m ∧ ∃ q7 q9 q10 q13 q14, e = [q0, q1, q2, q3, q4, q5, some (.ref k), q7, q8, q9, q10, q11, q12, q13, q14]) (fun _ _ _ h => by rw [h.1]; exact locked_lst _ c) ⟨rfl, _, _, _, _, _, rfl⟩ ?_ (fun _ _ h => h)
  rintro i z e' m' hz ⟨rfl, q7, q9, q10, q13, q14, rfl⟩
  obtain ⟨z2, hq⟩ := zip_one hz
  have ht := (e z.1 (List.mem_of_getElem? hq)).t (fun i hi => hi.1)
  rw [z2]
  generalize z.1 = q at *
  obtain ⟨S, hS⟩ := ht.rs
  have r1 := hS m' (FrS.refl _)
  obtain ⟨r2, r3⟩ := ht.err (FrS.refl m')
  have r4 := reprE_good (m := m') (errT_good q) (by decide)
  generalize (errT q).pd.shown = S2 at *
  generalize errT q = eq_ at *
  have pm : ∀ a : PV, perm [0] [a] = [a] := fun _ => rfl
  by_cases cz : ((i : Nat) : Int) % 3 = 0
  · simp [r1, r2, r3, r4, pm, cz]
  · simp [r1, r2, r3, r4, pm, cz]
end Law
end
section
set_option autoImplicit false
set_option maxHeartbeats 1600000
namespace Law
open PySem PL
theorem q_lp {C : Nat → Prop} {m : Mem} {p : LP} {B : Nat} (hB : B ≤ 10 ^ 100) (h : p.ok B) : Q41 C m p.pv := .dat ((lp_good hB h).mono (by decide))
/-- the parts of a loose row -/
def LooL (l : List PV) : Prop := l.length ≤ 6 ∧ ∀ q ∈ l, Good 5 q ∧ q.pd.depth ≤ 3
theorem LooL.q {l : List PV} (h : LooL l) {C : Nat → Prop} {m : Mem} : ∀ q ∈ l, Q41 C m q := fun q hq => .dat ((h.2 q hq).1.mono (by decide))
theorem gds {l : List PV} (h : ∀ q ∈ l, Good 5 q ∧ q.pd.depth ≤ 3) : Goods (5 * l.length) l ∧ PyData.depthAll (PV.pds l) ≤ 3 := by
  induction l with
  | nil => exact ⟨Goods.nil, by simp⟩
  | cons q l ih =>
    obtain ⟨g, d⟩ := ih fun x hx => h x (List.mem_cons_of_mem _ hx)
    obtain ⟨g1, d1⟩ := h q (List.mem_cons_self ..)
    exact ⟨(Goods.cons g1 g).mono (by simp; omega), by simp; omega⟩
def thI (k n : Nat) (L : List PV) (pg pf : PV) (e : PL.Env) (m : Mem) : Prop := Th k n m ∧ k < m.length ∧ ∃ q2 q7 q8 q9 q10 q11 q12 q13 q14 : Option PV, e = [some (.ref 0), some (.ref 6), q2, some pg, some (.tup L), some pf, some (.ref k), q7, q8, q9, q10, q11, q12, q13, q14]
noncomputable abbrev oddB : Sm :=
    (seq (par 11 12 (app m__law_draw (ac (v 1) (ac (app2 fAdd (app fLen (ac (v 4) an)) (c (.int 1))) an))) (app m__law_draw (ac (v 1) (ac (app2 fAdd (app fLen (ac (v 4) an)) (c (.int 1))) an))))
    (seq (setv 8 (app2 fAdd (app2 fAdd (sl (v 4) (c .non) (app1 fPart (v 11))) (app fTup (ac (app m__law_odd (ac (v 1) an)) an))) (sl (v 4) (app1 fPart (app2 fAdd (v 11) (app m__law_draw (ac (v 1) (ac (c (.int 2)) an))))) (c .non))))
    (seq (PL.exp (mth .list fAppend (v 6) (ac (v 8) an)))
    (PL.exp (mth .list fAppend (v 6) (ac (app2 fAdd (app2 fAdd (sl (v 8) (c .non) (app1 fPart (v 12))) (app fTup (ac (app m__law_odd (ac (v 1) an)) an))) (sl (v 8) (app1 fPart (v 12)) (c .non))) an))))))
theorem odds_ev {k n : Nat} {L : List PV} {pg pf : PV} (hL : LooL L) (hn : n ≤ 900) {e : PL.Env} {m : Mem} (h : thI k n L pg pf e m) : (oddB e m).sat { nx := thI k (n + 2) L pg pf } := by
  obtain ⟨hT, hk, q2, q7, q8, q9, q10, q11, q12, q13, q14, rfl⟩ := h
  have hl6 := hL.1
  unfold oddB
  have el : ∀ μ, fLen [.tup L] μ = .ok (.int (L.length : Nat)) μ := fun _ => rfl
  obtain ⟨p, m1, e1, ⟨a, rfl, a0, a1⟩, g1⟩ := rsat_ex (draw_ev m hT.1 ((L.length : Nat) + 1) (by omega) (by omega))
  obtain ⟨p, m2, e2, ⟨t, rfl, t0, t1⟩, g2⟩ := rsat_ex (draw_ev m1 g1.1 ((L.length : Nat) + 1) (by omega) (by omega))
  have hT2 := (hT.ks g1).ks g2
  have hk2 : k < m2.length := by have := g1.2.1; have := g2.2.1; omega
  have hlen : ((L.length : Nat) : Int) = (L.length : Int) := rfl
  generalize hnl : ((L.length : Nat) : Int) = nl at *
  refine seq_sat (fun e m' => m' = m2 ∧ e = [some (.ref 0), some (.ref 6), q2, some pg, some (.tup L), some pf, some (.ref k), q7, q8, q9, q10, some (.int a), some (.int t), q13, q14]) ?_ ?_
  · generalize PV.tup L = pl at *
    simp [el, e1, e2]
  rintro e m' ⟨rfl, rfl⟩
  obtain ⟨x, m3, e3, hx, g3⟩ := rsat_ex (law_odd_ev m' hT2.1)
  obtain ⟨p, m4, e4, ⟨d, rfl, d0, d1⟩, g4⟩ := rsat_ex (draw_ev m3 g3.1 2 (by omega) (by omega))
  have hx4 : Q41 (Ck k) m4 x := (odd_ck hk2 hT2.1 hx).frs (ks_keep g4)
  have hT4 := (hT2.ks g3).ks g4
  have hk4 : k < m4.length := by have := g3.2.1; have := g4.2.1; omega
  have s1 := fun μ => sl_t41 L a0 μ
  have s2 := fun μ => sl_f41 L (a := a + d) (by omega) μ
  obtain ⟨O, hO⟩ : ∃ O, O = L.take a.toNat ++ [x] ++ L.drop (a + d).toNat := ⟨_, rfl⟩
  have zt : (L.take a.toNat).length ≤ 6 := by rw [List.length_take]; omega
  have zd : (L.drop (a + d).toNat).length ≤ 6 := by rw [List.length_drop]; omega
  have ad1 : ∀ μ, fAdd [.tup (L.take a.toNat), .tup [x]] μ = .ok (.tup (L.take a.toNat ++ [x])) μ := fun μ => ad41 (by simp; omega) μ
  have ad2 : ∀ μ, fAdd [.tup (L.take a.toNat ++ [x]), .tup (L.drop (a + d).toNat)] μ = .ok (.tup O) μ := fun μ => by rw [hO]; exact ad41 (by simp; omega) μ
  have hOl : O.length ≤ 13 := by rw [hO]; simp only [List.length_append, List.length_singleton]; omega
  have hOq : ∀ q ∈ O, Q41 (Ck k) m4 q := by
    rw [hO]
    intro q hq
    rcases List.mem_append.mp hq with hq | hq
    · rcases List.mem_append.mp hq with hq | hq
      · exact hL.q q (List.mem_of_mem_take hq)
      · rw [List.mem_singleton.mp hq]; exact hx4
    · exact hL.q q (List.mem_of_mem_drop hq)
  clear hO
  refine seq_sat (fun e m' => m' = m4 ∧ e = [some (.ref 0), some (.ref 6), q2, some pg, some (.tup L), some pf, some (.ref k), q7, some (.tup O), q9, q10, some (.int a), some (.int t), q13, q14]) ?_ ?_
  · have adi : ∀ μ, fAdd [.int a, .int d] μ = .ok (.int (a + d)) μ := fun _ => rfl
    generalize PV.tup (L.take a.toNat ++ [x]) = p2 at *
    generalize PV.tup (L.take a.toNat) = p1 at *
    generalize PV.tup (L.drop (a + d).toNat) = p3 at *
    generalize PV.tup L = pl at *
    generalize PV.tup O = po at *
    generalize a + d = ad at *
    simp [-fAdd_int, s1, s2, e3, e4, ad1, ad2, adi]
  rintro e m'' ⟨rfl, rfl⟩
  obtain ⟨m5, e5, k5, hT5, x5⟩ := hT4.push (.tup O rfl hOq (by omega)) (by omega)
  have hOq5 : ∀ q ∈ O, Q41 (Ck k) m5 q := fun q hq => (hOq q hq).frs x5
  have hk5 : k < m5.length := by obtain ⟨_, _, L5, c5, _⟩ := hT5; exact (List.getElem?_eq_some_iff.mp c5).1
  refine seq_sat (fun e m' => m' = m5 ∧ e = [some (.ref 0), some (.ref 6), q2, some pg, some (.tup L), some pf, some (.ref k), q7, some (.tup O), q9, q10, some (.int a), some (.int t), q13, q14]) ?_ ?_
  · generalize PV.tup O = po at *
    simp only [exp_ev, mth_ev] at *
    simp [-fAppend_ref, e5, k5]
  rintro e m6 ⟨rfl, rfl⟩
  obtain ⟨y, m7, e7, hy, g7⟩ := rsat_ex (law_odd_ev m6 hT5.1)
  have hy7 : Q41 (Ck k) m7 y := odd_ck hk5 hT5.1 hy
  have hT7 := hT5.ks g7
  have s3 := fun μ => sl_t41 O t0 μ
  have s4 := fun μ => sl_f41 O t0 μ
  obtain ⟨U, hU⟩ : ∃ U, U = O.take t.toNat ++ [y] ++ O.drop t.toNat := ⟨_, rfl⟩
  have zt2 : (O.take t.toNat).length ≤ 13 := by rw [List.length_take]; omega
  have zd2 : (O.drop t.toNat).length ≤ 13 := by rw [List.length_drop]; omega
  have ad3 : ∀ μ, fAdd [.tup (O.take t.toNat), .tup [y]] μ = .ok (.tup (O.take t.toNat ++ [y])) μ := fun μ => ad41 (by simp; omega) μ
  have ad4 : ∀ μ, fAdd [.tup (O.take t.toNat ++ [y]), .tup (O.drop t.toNat)] μ = .ok (.tup U) μ := fun μ => by rw [hU]; exact ad41 (by simp; omega) μ
  have hUl : U.length ≤ 30 := by rw [hU]; simp only [List.length_append, List.length_singleton]; omega
  have hUq : ∀ q ∈ U, Q41 (Ck k) m7 q := by
    rw [hU]
    intro q hq
    rcases List.mem_append.mp hq with hq | hq
    · rcases List.mem_append.mp hq with hq | hq
      · exact (hOq5 q (List.mem_of_mem_take hq)).frs (ks_keep g7)
      · rw [List.mem_singleton.mp hq]; exact hy7
    · exact (hOq5 q (List.mem_of_mem_drop hq)).frs (ks_keep g7)
  clear hU
  obtain ⟨m8, e8, k8, hT8, x8⟩ := hT7.push (.tup U rfl hUq (by omega)) (by omega)
  have hk8 : k < m8.length := by obtain ⟨_, _, L8, c8, _⟩ := hT8; exact (List.getElem?_eq_some_iff.mp c8).1
  have fin : thI k (n + 1 + 1) L pg pf [some (.ref 0), some (.ref 6), q2, some pg, some (.tup L), some pf, some (.ref k), q7, some (.tup O), q9, q10, some (.int a), some (.int t), q13, q14] m8 := ⟨hT8, hk8, _, _, _, _, _, _, _, _, _, rfl⟩
  have kd6 : isKd .list m6 (.ref k) = true := by
    obtain ⟨_, _, L6, c6, _⟩ := hT5
    simp [isKd, c6]
  generalize PV.tup (O.take t.toNat ++ [y]) = p2 at *
  generalize PV.tup (O.take t.toNat) = p1 at *
  generalize PV.tup (O.drop t.toNat) = p3 at *
  generalize PV.tup U = pu at *
  generalize PV.tup O = po at *
  generalize PV.tup L = pl at *
  simp [-fAppend_ref, s3, s4, e7, ad3, ad4, kd6, e8]
  exact fin
theorem turnI_data {q : PV} {l : List LP} {B : Nat} (hB : B ≤ 10 ^ 100) (h : ∀ p ∈ l, p.ok B) (hq : q ∈ l.map LP.pv) : Good 5 q ∧ q.pd.depth ≤ 3 := by
  obtain ⟨p, hp, rfl⟩ := List.mem_map.mp hq
  exact ⟨lp_good hB (h p hp), by rw [lp_dp]; decide⟩
theorem mul40 {l : List PV} (h0 : l ≠ []) (h : l.length ≤ 1000) (μ : Mem) : fMul [.tup l, .int 40] μ = .ok (.tup (List.replicate 40 l).flatten) μ := by
  simp only [fMul]
  rw [if_pos ⟨h0, by decide, by decide, h⟩]
  rfl
theorem rep_len (l : List PV) : ∀ n : Nat, (List.replicate n l).flatten.length = n * l.length
  | 0 => by simp
  | n + 1 => by rw [List.replicate_succ, List.flatten_cons, List.length_append, rep_len l n, Nat.succ_mul]; omega
def turnE (e : PL.Env) (m : Mem) : Prop := Stk m ∧ ∃ q2 q3 q4 q5 q6 q7 q8 q9 q10 q11 q12 q13 q14 : Option PV, e = [some (.ref 0), some (.ref 6), q2, q3, q4, q5, q6, q7, q8, q9, q10, q11, q12, q13, q14]
theorem law_pure (ns : List Int) (hn : ns.length ≤ 63) (_ : ∀ z ∈ ns, Builtin.Int.intBits z ≤ 1048576) : ∃ μ', m_law [.ref 0] [.ro (ns.map PV.int)] = .ok (.bl true) μ' := by
  have key : (run 15 b_law [.ref 0] [.ro (ns.map PV.int)]).sat fun p _ => p = .bl true := by
    apply run_sat
    unfold b_law
    simp only [List.map_cons, List.map_nil, List.length_cons, List.length_nil, List.replicate, List.cons_append, List.nil_append, Nat.reduceAdd, Nat.reduceSub]
    refine seq_sat (fun e m => turnE e m) ?_ ?_
    · obtain ⟨p, m, e, rfl, hp⟩ := rsat_ex (stock_ev ns hn)
      have fin : turnE [some (.ref 0), some (.ref 6), none, none, none, none, none, none, none, none, none, none, none, none, none] m := ⟨hp, _, _, _, _, _, _, _, _, _, _, _, _, _, rfl⟩
      simp [e]
      exact fin
    rintro e m hE
    refine seq_sat turnE ?_ ?_
    · obtain ⟨hp, q2, q3, q4, q5, q6, q7, q8, q9, q10, q11, q12, q13, q14, rfl⟩ := hE
      simp only [forS_ev]
      have hr : iRng1 (c (.int 4)) [some (.ref 0), some (.ref 6), q2, q3, q4, q5, q6, q7, q8, q9, q10, q11, q12, q13, q14] m = .ok ⟨(List.range 4).map (fun k : Nat => PV.int (0 + k)), []⟩ m := by
        simp [iRng1, big62, rangeL]
      rw [hr]
      simp only [Out.of_ok]
      refine for_sat0 (fun k : Nat => PV.int (0 + k)) (List.range 4) (fun _ => turnE) (fun _ _ _ _ => locked_nil _) ⟨hp, _, _, _, _, _, _, _, _, _, _, _, _, _, rfl⟩ ?_ (fun _ _ h => h)
      rintro i x e m hx ⟨hp, q2, q3, q4, q5, q6, q7, q8, q9, q10, q11, q12, q13, q14, rfl⟩
      simp only [turn_ev, tn_ev, Out.of_ok, List.set]
      generalize PV.int (0 + (x : Int)) = px
      have c30' : (10 : Int) ^ 30 = 1000000000000000000000000000000 := by decide
      refine seq_sat2 (fun e m => Stk m ∧ ∃ great : Int, 4 ≤ great ∧ great + 9 ≤ 10 ^ 30 ∧ e = [some (.ref 0), some (.ref 6), some px, some (.int great), q4, q5, q6, q7, q8, q9, q10, q11, q12, q13, q14]) ?_ ?_
      · obtain ⟨p, m2, e2, hq, g⟩ := rsat_ex (spick_lit m hp [.int 4, .int 999999999999999999999999999991, .int 100000000000000000000000000000] (by simp) (by simp))
        simp at hq
        rcases hq with rfl | rfl | rfl
        all_goals
          simp [e2]
          exact g.1
      rintro e m1 ⟨hp1, great, h4, h30, rfl⟩
      refine seq_sat2 (fun e m => Stk m ∧ ∃ l : List LP, l.length ≤ 6 ∧ (∀ p ∈ l, p.ok (10 ^ 30 : Nat)) ∧ e = [some (.ref 0), some (.ref 6), some px, some (.int great), some (.tup (l.map LP.pv)), q5, q6, q7, q8, q9, q10, q11, q12, q13, q14]) ?_ ?_
      · obtain ⟨p, m2, e2, hq, g2⟩ := rsat_ex (spick_lit m1 hp1 [.int 0, .int 1, .int 3, .int 9] (by simp) (by simp))
        have hq2 : ∃ w : Int, p = .int w ∧ 0 ≤ w ∧ w ≤ 9 := by
          simp at hq
          rcases hq with rfl | rfl | rfl | rfl <;> exact ⟨_, rfl, by omega, by omega⟩
        obtain ⟨w, rfl, w0, w1⟩ := hq2
        obtain ⟨p, m3, e3, ⟨l, rfl, la, lb⟩, g3⟩ := rsat_ex (law_loose_ev m2 g2.1 6 great w (by omega) (by omega) (by omega) w0 (by omega) (by omega))
        have e3' : m__law_loose [.ref 6, .int 6, .int great, .int w] m2 = .ok (.tup (l.map LP.pv)) m3 := e3
        have fin : Stk m3 ∧ ∃ l' : List LP, l'.length ≤ 6 ∧ (∀ p ∈ l', p.ok (10 ^ 30 : Nat)) ∧ PV.tup (l.map LP.pv) = PV.tup (l'.map LP.pv) := ⟨g3.1, l, la, fun p hp => by
          have c : great + w ≤ ((10 ^ 30 : Nat) : Int) := by have : ((10 ^ 30 : Nat) : Int) = 10 ^ 30 := by decide +kernel
                                                             rw [this]; omega
          have := lb p hp
          cases p with
          | turn => exact Int.le_trans this c
          | delay k => exact ⟨this.1, Int.le_trans this.2 c⟩
          | on a b => exact ⟨this.1, this.2.1, Int.le_trans this.2.2 c⟩
          | off a b => exact ⟨this.1, this.2.1, Int.le_trans this.2.2 c⟩, rfl⟩
        generalize PV.tup (l.map LP.pv) = pl at *
        simp [e2, e3']
        exact fin
      rintro e m2 ⟨hp2, l, l6, lok, rfl⟩
      have hB : (10 ^ 30 : Nat) ≤ 10 ^ 100 := by decide +kernel
      obtain ⟨L, hLd⟩ : ∃ L, L = l.map LP.pv := ⟨_, rfl⟩
      have hL : LooL L := ⟨by rw [hLd]; simpa using l6, fun q hq => turnI_data hB lok (by rw [← hLd]; exact hq)⟩
      rw [← hLd]
      clear hLd lok l6 l
      have hl6 := hL.1
      have gt : Good 5 (PV.tup [.str ("turn" : Str)]) := (Good.tup (Goods.cons (Good.str (by decide +kernel)) Goods.nil) (by simp)).mono (by decide)
      have gd : Good 5 (PV.tup [.str ("delay" : Str), .int 0]) := (Good.tup (Goods.cons (Good.str (by decide +kernel)) (Goods.cons (Good.int (by decide +kernel)) Goods.nil)) (by simp)).mono (by decide)
      obtain ⟨F, hF⟩ : ∃ F, F = (List.replicate 40 (L ++ [PV.tup [.str ("turn" : Str)]])).flatten := ⟨_, rfl⟩
      have hFq : ∀ q ∈ F, Good 5 q := by
        rw [hF]
        intro q hq
        rw [List.mem_flatten] at hq
        obtain ⟨l2, h1, h2⟩ := hq
        rw [List.mem_replicate] at h1
        rw [h1.2] at h2
        rcases List.mem_append.mp h2 with h | h
        · exact (hL.2 q h).1
        · rw [List.mem_singleton.mp h]; exact gt
      have hFl : F.length ≤ 280 := by
        rw [hF, rep_len, List.length_append]
        have : L.length ≤ 6 := hl6
        have h1 : ([PV.tup [.str ("turn" : Str)]] : List PV).length = 1 := rfl
        rw [h1]
        exact Nat.le_trans (Nat.mul_le_mul_left 40 (Nat.add_le_add_right this 1)) (by decide)
      have fq : ∀ {C : Nat → Prop} {m : Mem} (n : Nat), ∀ q ∈ F.take n, Q41 C m q := fun n q hq => .dat ((hFq q (List.mem_of_mem_take hq)).mono (by decide))
      have lt : ∀ n : Nat, (F.take n).length ≤ n := fun n => by rw [List.length_take]; omega
      have ad0 : ∀ μ, fAdd [.tup L, .tup [.tup [.str ("turn" : Str)]]] μ = .ok (.tup (L ++ [PV.tup [.str ("turn" : Str)]])) μ := fun μ => ad41 (by simp; omega) μ
      have mu0 : ∀ μ, fMul [.tup (L ++ [PV.tup [.str ("turn" : Str)]]), .int 40] μ = .ok (.tup F) μ := fun μ => by rw [hF]; exact mul40 (by simp) (by simp; omega) μ
      clear hF
      refine seq_sat2 (fun e m => m = m2 ∧ e = [some (.ref 0), some (.ref 6), some px, some (.int great), some (.tup L), some (.tup F), q6, q7, q8, q9, q10, q11, q12, q13, q14]) ?_ ?_
      · generalize PV.tup (L ++ [PV.tup [.str ("turn" : Str)]]) = p1 at *
        generalize PV.tup L = pl at *
        generalize PV.tup F = pf at *
        simp [-fAdd_tup, ad0, mu0]
      rintro e m3 ⟨rfl, rfl⟩
      have hp6 := hp2.lt
      have s40 := fun μ => sl_t41 F (a := 40) (by decide) μ
      have s41 := fun μ => sl_t41 F (a := 41) (by decide) μ
      have s39 := fun μ => sl_t41 F (a := 39) (by decide) μ
      simp only [Int.reduceToNat] at s40 s41 s39
      have gl : Good 60 (.tup L) := (Good.tup (gds hL.2).1 (by have := (gds hL.2).2; omega)).mono (by omega)
      refine seq_sat2 (fun e m => thI (m3.length + 2) 11 L (.int great) (.tup F) e m) ?_ ?_
      · have hT : Th (m3.length + 2) 11 (m3 ++ [.lst L, .dct [], .lst [.tup L, .ref m3.length, .tup (F.take 40), .tup (F.take 41), .tup [], .non, .tup [.tup L], .ref (m3.length + 1), .int 7, .str ("turn" : Str), .bl true]]) := by
          refine ⟨hp2.app _, by omega, _, by simp; rfl, by simp, ?_⟩
          simp only [List.forall_mem_cons, List.not_mem_nil, false_implies, implies_true, and_true]
          refine ⟨.tup L rfl hL.q (by omega), .lst m3.length L rfl ⟨by omega, by omega⟩ (by simp) hL.q (by omega), .tup _ rfl (fq 40) (by have := lt 40; omega), .tup _ rfl (fq 41) (by have := lt 41; omega), .tup [] rfl (by simp) (by simp), .dat ⟨by simp, by simp, by simp, by simp⟩ rfl, .tup [.tup L] rfl (fun q hq => by rw [List.mem_singleton.mp hq]; exact .dat gl) (by simp), .dct (m3.length + 1) rfl ⟨by omega, by omega⟩ (by simp), .dat ((Good.int (by decide +kernel)).mono (by decide)) rfl, .dat ((Good.str (by decide +kernel)).mono (by decide)) rfl, .dat ((Good.bl true).mono (by decide)) rfl⟩
        have fin : ∀ q7 q8 q9 q10 q11 q12 q13 q14, thI (m3.length + 2) 11 L (.int great) (.tup F) [some (.ref 0), some (.ref 6), some px, some (.int great), some (.tup L), some (.tup F), some (.ref (m3.length + 2)), q7, q8, q9, q10, q11, q12, q13, q14] (m3 ++ [.lst L, .dct [], .lst [.tup L, .ref m3.length, .tup (F.take 40), .tup (F.take 41), .tup [], .non, .tup [.tup L], .ref (m3.length + 1), .int 7, .str ("turn" : Str), .bl true]]) := fun q7 q8 q9 q10 q11 q12 q13 q14 => ⟨hT, by simp, _, _, _, _, _, _, _, _, _, rfl⟩
        have el : ∀ μ : Mem, fList [.tup L] μ = .ok (.ref μ.length) (μ ++ [.lst L]) := fun _ => rfl
        clear hT
        generalize PV.tup (F.take 40) = p40 at *
        generalize PV.tup (F.take 41) = p41 at *
        generalize PV.tup (F.take 39) = p39 at *
        generalize PV.tup F = pf at *
        generalize PV.tup L = pl at *
        simp [el, s40, s41]
        exact fin _ _ _ _ _ _ _ _
      rintro e m4 ⟨hT4, hk4, q2', q7', q8', q9', q10', q11', q12', q13', q14', rfl⟩
      generalize hk : m3.length + 2 = k at *
      refine seq_sat2 (fun e m => thI k 12 L (.int great) (.tup F) e m) ?_ ?_
      · have hq : ∀ q ∈ L ++ [PV.tup [.str ("delay" : Str), .int 0]], Q41 (Ck k) m4 q := fun q hq => by
          rcases List.mem_append.mp hq with h | h
          · exact hL.q q h
          · rw [List.mem_singleton.mp h]; exact .dat (gd.mono (by decide))
        obtain ⟨m5, e5, k5, hT5, x5⟩ := hT4.push (.tup _ rfl hq (by simp; omega)) (by omega)
        have hk5 : k < m5.length := by obtain ⟨_, _, L5, c5, _⟩ := hT5; exact (List.getElem?_eq_some_iff.mp c5).1
        have ad1 : ∀ μ, fAdd [.tup L, .tup [.tup [.str ("delay" : Str), .int 0]]] μ = .ok (.tup (L ++ [PV.tup [.str ("delay" : Str), .int 0]])) μ := fun μ => ad41 (by simp; omega) μ
        have fin : thI k 12 L (.int great) (.tup F) [some (.ref 0), some (.ref 6), q2', some (.int great), some (.tup L), some (.tup F), some (.ref k), q7', q8', q9', q10', q11', q12', q13', q14'] m5 := ⟨hT5, hk5, _, _, _, _, _, _, _, _, _, rfl⟩
        generalize PV.tup (L ++ [PV.tup [.str ("delay" : Str), .int 0]]) = p1 at *
        generalize PV.tup F = pf at *
        generalize PV.tup L = pl at *
        simp [-fAppend_ref, -fAdd_tup, ad1, e5, k5]
        exact fin
      rintro e m5 h5
      refine seq_sat2 (fun e m => thI k 32 L (.int great) (.tup F) e m) ?_ ?_
      · obtain ⟨a5, b5, q2', q7', q8', q9', q10', q11', q12', q13', q14', rfl⟩ := h5
        simp only [forS_ev]
        have hr10 : iRng1 (c (.int 10)) [some (.ref 0), some (.ref 6), q2', some (.int great), some (.tup L), some (.tup F), some (.ref k), q7', q8', q9', q10', q11', q12', q13', q14'] m5 = .ok ⟨(List.range 10).map (fun k : Nat => PV.int (0 + k)), []⟩ m5 := by
          simp [iRng1, big62, rangeL]
        rw [hr10]
        simp only [Out.of_ok]
        refine nx_only (for_sat0 (fun k : Nat => PV.int (0 + k)) (List.range 10) (fun j e m => thI k (12 + 2 * j) L (.int great) (.tup F) e m) (W := { nx := fun e m => thI k 32 L (.int great) (.tup F) e m }) (fun _ _ _ _ => locked_nil _) ⟨a5, b5, _, _, _, _, _, _, _, _, _, rfl⟩ ?_ (fun e m h => by simpa using h)) (fun _ _ h => h)
        rintro j y e m6 hy ⟨a6, b6, q2', q7', q8', q9', q10', q11', q12', q13', q14', rfl⟩
        have hj : j < 10 := by have := lt_of_get hy; simpa using this
        simp only [turn_ev, tn_ev, Out.of_ok, List.set]
        exact nx_only (odds_ev hL (n := 12 + 2 * j) (by omega) ⟨a6, b6, _, _, _, _, _, _, _, _, _, rfl⟩) (fun e m h => by
          have e2 : 12 + 2 * (j + 1) = 12 + 2 * j + 2 := by omega
          rw [e2]; exact h)
      rintro e m6 ⟨hT6, hk6, q2', q7', q8', q9', q10', q11', q12', q13', q14', rfl⟩
      refine seq_sat2 (fun e m => ∃ k, thI k 34 L (.int great) (.tup F) e m) ?_ ?_
      · obtain ⟨x, m7, e7, hx, g7⟩ := rsat_ex (law_odd_ev m6 hT6.1)
        obtain ⟨y, m8, e8, hy, g8⟩ := rsat_ex (law_odd_ev m7 g7.1)
        obtain ⟨a8, b8, L0, c8, d8, i8⟩ := (hT6.ks g7).ks g8
        have l76 := g7.2.1
        have l87 := g8.2.1
        have h66 := hT6.1.lt
        have ad1 : ∀ μ, fAdd [.tup (F.take 40), .tup [x]] μ = .ok (.tup (F.take 40 ++ [x])) μ := fun μ => ad41 (by have := lt 40; simp at this ⊢; omega) μ
        have hz : (F.take 40 ++ [x]).length ≤ 45 := by have := lt 40; simp at this ⊢; omega
        obtain ⟨M, hM⟩ : ∃ M, M = m8 ++ [PO.lst [y], PO.lst [.tup (F.take 40 ++ [x]), .ref m8.length], PO.lst (L0 ++ [.tup (F.take 40 ++ [x]), .ref m8.length])] := ⟨_, rfl⟩
        have mv : ∀ i o, 6 < i → m8[i]? = some o → Ck (m8.length + 2) i ∧ M[i]? = some o := fun i o hi h => by
          have hlt := (List.getElem?_eq_some_iff.mp h).1
          exact ⟨⟨hi, by omega⟩, by rw [hM]; exact get_some h⟩
        have hx8 : Q41 (Ck (m8.length + 2)) M x := (hx.frs (fun i o hi h => g8.2.get h (by omega))).move (fun i o hi h => mv i o (by omega) h)
        have hy8 : Q41 (Ck (m8.length + 2)) M y := hy.move (fun i o hi h => mv i o (by omega) h)
        have fa : fAdd [.ref k, .ref (m8.length + 1)] (m8 ++ [PO.lst [y], PO.lst [.tup (F.take 40 ++ [x]), .ref m8.length]]) = .ok (.ref (m8.length + 2)) M := by
          have h1 : (m8 ++ [PO.lst [y], PO.lst [.tup (F.take 40 ++ [x]), .ref m8.length]])[k]? = some (.lst L0) := get_some c8
          have h2 : (m8 ++ [PO.lst [y], PO.lst [.tup (F.take 40 ++ [x]), .ref m8.length]])[m8.length + 1]? = some (.lst [.tup (F.take 40 ++ [x]), .ref m8.length]) := by simp
          have := fAdd_refs h1 h2 (by show _ ≤ 16777216; simp; omega)
          rw [this, hM]
          simp
        have hTM : Th (m8.length + 2) 34 M := by
          refine ⟨by rw [hM]; exact a8.app _, by omega, L0 ++ [.tup (F.take 40 ++ [x]), .ref m8.length], by rw [hM]; simp, by simp; omega, fun q hq => ?_⟩
          rcases List.mem_append.mp hq with hq | hq
          · exact (i8 q hq).move (fun i o hi h => mv i o hi.1 h)
          · simp only [List.mem_cons, List.not_mem_nil, or_false] at hq
            rcases hq with rfl | rfl
            · refine .tup _ rfl (fun q hq => ?_) hz
              rcases List.mem_append.mp hq with h | h
              · exact fq 40 q h
              · rw [List.mem_singleton.mp h]; exact hx8
            · exact .lst m8.length [y] rfl ⟨by omega, by omega⟩ (by rw [hM]; simp) (fun q hq => by rw [List.mem_singleton.mp hq]; exact hy8) (by simp)
        have fin : ∃ k, thI k 34 L (.int great) (.tup F) [some (.ref 0), some (.ref 6), q2', some (.int great), some (.tup L), some (.tup F), some (.ref (m8.length + 2)), q7', q8', q9', q10', q11', q12', q13', q14'] M := ⟨_, hTM, by rw [hM]; simp, _, _, _, _, _, _, _, _, _, rfl⟩
        clear hTM hM
        generalize PV.tup (F.take 40 ++ [x]) = p1 at *
        generalize PV.tup (F.take 40) = p40 at *
        generalize PV.tup F = pf at *
        generalize PV.tup L = pl at *
        simp [-fAdd_ref, -fAdd_tup, s40, e7, e8, ad1, fa]
        exact fin
      rintro e m7 ⟨k7, hT7, hk7, q2', q7', q8', q9', q10', q11', q12', q13', q14', rfl⟩
      refine seq_sat2 (fun e m => ∃ k, thI k 35 L (.int great) (.tup F) e m) ?_ ?_
      · obtain ⟨x, m8, e8, hx, g8⟩ := rsat_ex (law_odd_ev m7 hT7.1)
        have hT8 := hT7.ks g8
        have hx8 : Q41 (Ck k7) m8 x := odd_ck hk7 hT7.1 hx
        have hq : ∀ q ∈ F.take 39 ++ [x], Q41 (Ck k7) m8 q := fun q hq => by
          rcases List.mem_append.mp hq with h | h
          · exact fq 39 q h
          · rw [List.mem_singleton.mp h]; exact hx8
        obtain ⟨m9, e9, k9, hT9, x9⟩ := hT8.push (.tup _ rfl hq (by have := lt 39; simp at this ⊢; omega)) (by omega)
        have hk9 : k7 < m9.length := by obtain ⟨_, _, L5, c5, _⟩ := hT9; exact (List.getElem?_eq_some_iff.mp c5).1
        have ad1 : ∀ μ, fAdd [.tup (F.take 39), .tup [x]] μ = .ok (.tup (F.take 39 ++ [x])) μ := fun μ => ad41 (by have := lt 39; simp at this ⊢; omega) μ
        have fin : ∃ k, thI k 35 L (.int great) (.tup F) [some (.ref 0), some (.ref 6), q2', some (.int great), some (.tup L), some (.tup F), some (.ref k7), q7', q8', q9', q10', q11', q12', q13', q14'] m9 := ⟨k7, hT9, hk9, _, _, _, _, _, _, _, _, _, rfl⟩
        have kd7 : isKd .list m7 (.ref k7) = true := by
          obtain ⟨_, _, L6, c6, _⟩ := hT7
          simp [isKd, c6]
        generalize PV.tup (F.take 39 ++ [x]) = p1 at *
        generalize PV.tup (F.take 39) = p39 at *
        generalize PV.tup F = pf at *
        generalize PV.tup L = pl at *
        simp [-fAppend_ref, -fAdd_tup, s39, e8, ad1, e9, kd7]
        exact fin
      rintro e m8 ⟨k8, hT8, hk8, q2', q7', q8', q9', q10', q11', q12', q13', q14', rfl⟩
      exact nx_only (ask_ev hT8 _ _ _ _ _ _ _ _ _ _ _ _ _ _) (fun e m h => by
        obtain ⟨rfl, a, b, c, d, f, rfl⟩ := h
        exact ⟨hT8.1, _, _, _, _, _, _, _, _, _, _, _, _, _, rfl⟩)
    rintro e m2 ⟨hp2, q2, q3, q4, q5, q6, q7, q8, q9, q10, q11, q12, q13, q14, rfl⟩
    have le : ∀ μ, m_loose_error [.tup [.tup [.str ("off" : Str), .bl true, .int 2]]] μ = .ok (.tup [.str ("part" : Str), .int 0]) μ := fun μ => by
      have := (errors_tup (μ := μ) (l := [.tup [.str ("off" : Str), .bl true, .int 2]]) (fun q hq => by
        rw [List.mem_singleton.mp hq]
        exact ⟨fun q hq => by simp at hq; rcases hq with rfl | rfl | rfl <;> trivial, by simp⟩)).1
      rw [this]
      rfl
    have gp : Good 10 (PV.tup [.str ("part" : Str), .int 0]) := (Good.tup (Goods.cons (Good.str (by decide +kernel)) (Goods.cons (Good.int (by decide +kernel)) Goods.nil)) (by simp)).mono (by decide)
    have ee : ∀ μ, fEq [.tup [.str ("part" : Str), .int 0], .tup [.str ("part" : Str), .int 0]] μ = .ok (.bl true) μ := fun μ => by
      rw [fEq_dat rfl gp gp]
      simp [PyData.eqv, PyData.eqvAll]
    simp [le, ee]
  obtain ⟨p, m, e, rfl⟩ := rsat_ex key
  unfold m_law
  rw [fn_ev, e]
  unfold gc
  simp only
  split
  · exact ⟨_, rfl⟩
  · exact ⟨_, rfl⟩
end Law
end
section
set_option Elab.async false
open PySem PySem.W PyProof.Rows
set_option maxRecDepth 100000 in
set_option maxHeartbeats 0 in
theorem PySem.Challenge.cw_latewires_k41_what_is_a_loose_row_holds : PySem.Challenge.rw_latewires_k41_what_is_a_loose_row.Holds := by
  w_on; o_law; k_head; (case hw => w_witness2)
  k_fill
  refine PL.walkP (l := PySem.Challenge.rw_latewires_k41_what_is_a_loose_row) (n := 63) (k := 5) (x := "script") (st := Law.s_law) (m := Law.m_law) rfl (by decide) rfl ⟨rfl, by decide, by decide⟩ (fun w h Y => PySem.W.kIn_of Y) Law.bd_law ?F Law.law_pure
  case F =>
    intro w mg h base KX G Kb Gb
    refine' Law.all_mk KX G ?z_all ?z_bool ?z_enumerate ?z_int ?z_isinstance ?z_len ?z_list ?z_min ?z_range ?z_repr ?z_str ?z_sum ?z_tuple ?y_MAX_PARTS ?y_MAX_TICKS ?a_is_integer ?l_is_integer ?c_is_integer ?k_is_integer ?a_are_ticks ?l_are_ticks ?c_are_ticks ?k_are_ticks ?a_is_timer ?l_is_timer ?c_is_timer ?k_is_timer ?a_is_loose_part ?l_is_loose_part ?c_is_loose_part ?k_is_loose_part ?a_loose_error ?l_loose_error ?c_loose_error ?k_loose_error ?a__law_stock ?l__law_stock ?c__law_stock ?k__law_stock ?a__law_draw ?l__law_draw ?c__law_draw ?k__law_draw ?a__law_pick ?l__law_pick ?c__law_pick ?k__law_pick ?a__law_loose ?l__law_loose ?c__law_loose ?k__law_loose ?a__law_is_whole ?l__law_is_whole ?c__law_is_whole ?k__law_is_whole ?a__law_is_part ?l__law_is_part ?c__law_is_part ?k__law_is_part ?a__law_due ?l__law_due ?c__law_due ?k__law_due ?a__law_odd ?l__law_odd ?c__law_odd ?k__law_odd ?a_law ?l_law ?c_law ?k_law
    (case z_all => k_is)
    (case z_bool => k_is)
    (case z_enumerate => k_is)
    (case z_int => k_is)
    (case z_isinstance => k_is)
    (case z_len => k_is)
    (case z_list => k_is)
    (case z_min => k_is)
    (case z_range => k_is)
    (case z_repr => k_is)
    (case z_str => k_is)
    (case z_sum => k_is)
    (case z_tuple => k_is)
    (case y_MAX_PARTS => k_is)
    (case y_MAX_TICKS => k_is)
    (case a_is_integer => k_is)
    (case l_is_integer => k_is)
    (case c_is_integer => k_is)
    (case k_is_integer => k_is)
    (case a_are_ticks => k_is)
    (case l_are_ticks => k_is)
    (case c_are_ticks => k_is)
    (case k_are_ticks => k_is)
    (case a_is_timer => k_is)
    (case l_is_timer => k_is)
    (case c_is_timer => k_is)
    (case k_is_timer => k_is)
    (case a_is_loose_part => k_is)
    (case l_is_loose_part => k_is)
    (case c_is_loose_part => k_is)
    (case k_is_loose_part => k_is)
    (case a_loose_error => k_is)
    (case l_loose_error => k_is)
    (case c_loose_error => k_is)
    (case k_loose_error => k_is)
    (case a__law_stock => k_is)
    (case l__law_stock => k_is)
    (case c__law_stock => k_is)
    (case k__law_stock => k_is)
    (case a__law_draw => k_is)
    (case l__law_draw => k_is)
    (case c__law_draw => k_is)
    (case k__law_draw => k_is)
    (case a__law_pick => k_is)
    (case l__law_pick => k_is)
    (case c__law_pick => k_is)
    (case k__law_pick => k_is)
    (case a__law_loose => k_is)
    (case l__law_loose => k_is)
    (case c__law_loose => k_is)
    (case k__law_loose => k_is)
    (case a__law_is_whole => k_is)
    (case l__law_is_whole => k_is)
    (case c__law_is_whole => k_is)
    (case k__law_is_whole => k_is)
    (case a__law_is_part => k_is)
    (case l__law_is_part => k_is)
    (case c__law_is_part => k_is)
    (case k__law_is_part => k_is)
    (case a__law_due => k_is)
    (case l__law_due => k_is)
    (case c__law_due => k_is)
    (case k__law_due => k_is)
    (case a__law_odd => k_is)
    (case l__law_odd => k_is)
    (case c__law_odd => k_is)
    (case k__law_odd => k_is)
    (case a_law => k_is)
    (case l_law => k_is)
    (case c_law => k_is)
    (case k_law => k_is)
end
