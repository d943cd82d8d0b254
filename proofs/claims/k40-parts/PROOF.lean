import PyProof.Rows.All
import Wide.All
import OpenK.AllK
import Wide.FinOn
import HandS.ForMost
import HandS.Exc
import HandS.WordsExc
import HandS.CallSlots
import HandS.Deep
import HandS.Wide
import HandS.IsInst
import HandS.TupAny
import HandS.Flow
import HandS.Walk
import HandS.Defaults
import HandS.Property
import HandS.Style
import HandS.Conv
import HandS.SortInts
import HandS.ExcOwn
import HandS.Codes
import HandS.Remove
import HandS.More
import HandS.SetFor
import HandS.DictComp
import KE.SortData
import HandS.Zip
import KE.KStateDown
import HandS.Ends
import HandS.Head0
import HandS.Head1
import HandS.Head2
import HandS.HeadEnd
import HandS.HeadHook4
import PySem.Challenge.RW_wardwork_k40_ring_and_order_part_the_pid
set_option Elab.async false
set_option maxRecDepth 100000
/-! Mp: a small deterministic machine for plain Python, read off the same syntax trees. Memory is a list of objects, an address is a place in it. -/
namespace Mp
open PySem L2
inductive Val where
  | non | bl (b : Bool) | int (i : Int) | str (x : Str) | tup (ts : List Val) | ref (n : Nat) | fn (g : Str)
  deriving Inhabited
inductive Ob where
  | lst (xs : List Val)
  | ins (c : Str) (fs : List (Str × Val))
  | rol (xs : List Val)
  | dic (kvs : List (Key × Val))
  | frd (kvs : List (Key × Val))
  deriving Inhabited
/-! ### dicts: keys are ints and texts -/
def keyOf : Val → Option Key
  | .int i => some (.inl i)
  | .str x => some (.inr x)
  | _ => none
def keyV : Key → Val
  | .inl i => .int i
  | .inr x => .str x
def dGet {α : Type} (kvs : List (Key × α)) (k : Key) : Option α := (kvs.find? fun kv => decide (kv.1 = k)).map (·.2)
def dPut {α : Type} (kvs : List (Key × α)) (k : Key) (v : α) : List (Key × α) := if (kvs.any fun kv => decide (kv.1 = k)) = true then kvs.map (fun kv => if kv.1 = k then (kv.1, v) else kv) else kvs ++ [(k, v)]
def dDrop {α : Type} (kvs : List (Key × α)) (k : Key) : List (Key × α) := kvs.filter fun kv => decide (kv.1 ≠ k)
abbrev Mem := List Ob
abbrev Env := List (Option Val)
inductive Res (α : Type) where
  | ok (a : α) (h : Mem)
  | exc (c : Str) (fs : List (Str × Val)) (h : Mem)
  | bad
namespace Res
def bind {α β : Type} (r : Res α) (k : α → Mem → Res β) : Res β := match r with
  | .ok a h => k a h
  | .exc c fs h => .exc c fs h
  | .bad => .bad
@[simp] theorem bind_ok {α β : Type} (a : α) (h : Mem) (k : α → Mem → Res β) : (Res.ok a h).bind k = k a h := rfl
@[simp] theorem bind_bad {α β : Type} (k : α → Mem → Res β) : (Res.bad : Res α).bind k = .bad := rfl
@[simp] theorem bind_exc {α β : Type} (c : Str) (fs : List (Str × Val)) (h : Mem) (k : α → Mem → Res β) : (Res.exc c fs h : Res α).bind k = .exc c fs h := rfl
/-- an option as a result -/
def opt {α : Type} (o : Option α) (h : Mem) : Res α := match o with
  | some a => .ok a h
  | none => .bad
@[simp] theorem opt_some {α : Type} (a : α) (h : Mem) : opt (some a) h = .ok a h := rfl
@[simp] theorem opt_none {α : Type} (h : Mem) : opt (none : Option α) h = .bad := rfl
/-- no exception goes out -/
def shut {α : Type} (r : Res α) : Res α := match r with
  | .ok a h => .ok a h
  | _ => .bad
@[simp] theorem shut_ok {α : Type} (a : α) (h : Mem) : (Res.ok a h).shut = .ok a h := rfl
end Res
abbrev ME := Env → Mem → Res Val
abbrev MT := Env → Mem → Res Bool
abbrev MA := Env → Mem → Res (List Val)
/-! ### reading -/
/-- the items of a list, a tuple -/
def seqOf (h : Mem) : Val → Option (List Val)
  | .tup ts => some ts
  | .ref n => match h[n]? with
    | some (.lst xs) => some xs
    | some (.rol xs) => some xs
    | _ => none
  | _ => none
def lstOf (h : Mem) : Val → Option (List Val)
  | .ref n => match h[n]? with
    | some (.lst xs) => some xs
    | some (.rol xs) => some xs
    | _ => none
  | _ => none
mutual
/-- a value read to its depth -/
def rd (h : Mem) : Nat → Val → Option PyData
  | 0, _ => none
  | _ + 1, .non => some .none
  | _ + 1, .bl b => some (.bool b)
  | _ + 1, .int i => some (.int i)
  | _ + 1, .str x => some (.str x)
  | _ + 1, .fn _ => none
  | n + 1, .tup ts => (rds h n ts).map .tuple
  | n + 1, .ref a => match h[a]? with
    | some (.lst xs) => (rds h n xs).map .list
    | some (.rol xs) => (rds h n xs).map .list
    | _ => none
def rds (h : Mem) : Nat → List Val → Option (List PyData)
  | 0, _ => none
  | _ + 1, [] => some []
  | n + 1, v :: vs => match rd h n v, rds h n vs with
    | some d, some ds => some (d :: ds)
    | _, _ => none
end
/-- read, and of a shape that == takes -/
def rdS (h : Mem) (v : Val) : Option PyData := match rd h 20000 v with
  | some d => if SeqAt.shaped d then some d else none
  | none => none
def truthy (h : Mem) : Val → Option Bool
  | .non => some false
  | .bl b => some b
  | .int i => some (i != 0)
  | .str y => if y.length ≤ sizeLine then some ((y.length : Int) != 0) else none
  | .tup ts => some (!ts.isEmpty)
  | .ref n => match h[n]? with
    | some (.lst xs) => some (!xs.isEmpty)
    | some (.rol xs) => some (!xs.isEmpty)
    | _ => none
  | .fn _ => none
/-! ### operators -/
def newL (xs : List Val) (h : Mem) : Res Val := if xs.length ≤ sizeLine then .ok (.ref h.length) (h ++ [.lst xs]) else .bad
def mulOk (i j : Int) : Bool := decide (-(2 ^ 64) < i ∧ i < 2 ^ 64) || decide (-(2 ^ 64) < j ∧ j < 2 ^ 64)
def binop (op : Operator) (x y : Val) (h : Mem) : Res Val := match op, x, y with
  | .Add, .int i, .int j => .ok (.int (i + j)) h
  | .Add, .str i, .str j => if i.length + j.length ≤ sizeLine then .ok (.str (i ++ j)) h else .bad
  | .Add, .tup xs, .tup ys => if xs.length + ys.length ≤ sizeLine then .ok (.tup (xs ++ ys)) h else .bad
  | .Add, .ref n, .ref m => match h[n]?, h[m]? with
    | some (.lst xs), some (.lst ys) => newL (xs ++ ys) h
    | _, _ => .bad
  | .Sub, .int i, .int j => .ok (.int (i - j)) h
  | .Mult, .int i, .int j => if mulOk i j then .ok (.int (i * j)) h else .bad
  | .Mult, .ref n, .int k => match h[n]? with
    | some (.lst xs) => if -(2 ^ 63) ≤ k ∧ k < 2 ^ 63 ∧ xs.length * k.toNat ≤ sizeLine then newL (List.replicate k.toNat xs).flatten h else .bad
    | _ => .bad
  | .FloorDiv, .int i, .int j => if 0 < j ∧ j < 2 ^ 64 then .ok (.int (i / j)) h else .bad
  | .Mod, .int i, .int j => if 0 < j then .ok (.int (i % j)) h else .bad
  | .Pow, .int i, .int j => if 0 ≤ j ∧ j ≤ 1000000 ∧ i.natAbs < 2 ^ 64 then .ok (.int (i ^ j.toNat)) h else .bad
  | _, _, _ => .bad
/-- flat == -/
def eqF : Val → Val → Bool
  | .non, .non => true
  | .bl a, .bl b => a == b
  | .bl a, .int b => (if a then 1 else 0) == b
  | .int a, .bl b => a == (if b then 1 else 0)
  | .int a, .int b => a == b
  | .str a, .str b => a == b
  | _, _ => false
def flat : Val → Bool
  | .non => true
  | .bl _ => true
  | .int _ => true
  | .str _ => true
  | _ => false
/-- x in y -/
def inOp (h : Mem) (x y : Val) : Option Bool := match x, y with
  | .str i, .str j => some (!(Builtin.Str.occurrences j i 0 j.length 1).isEmpty)
  | x, .tup ts => if flat x && ts.all flat then some (ts.any fun y => eqF y x) else none
  | x, .ref n => match h[n]? with
    | some (.dic kvs) => (keyOf x).map fun k => (dGet kvs k).isSome
    | some (.frd kvs) => (keyOf x).map fun k => (dGet kvs k).isSome
    | _ => match rdS h x, rdS h (.ref n) with
      | some d, some (.list ds) => some (ds.any fun z => PyData.eqv z d)
      | _, _ => none
  | _, _ => none
def isNon : Val → Bool
  | .non => true
  | _ => false
def cmpop (op : CmpOp) (h : Mem) (x y : Val) : Option Bool := match op, x, y with
  | .Eq, x, y => match rdS h x, rdS h y with
    | some d, some e => some (PyData.eqv d e)
    | _, _ => none
  | .NotEq, x, y => match rdS h x, rdS h y with
    | some d, some e => some (!PyData.eqv d e)
    | _, _ => none
  | .Lt, .int i, .int j => some (decide (i < j))
  | .LtE, .int i, .int j => some (decide (i ≤ j))
  | .Gt, .int i, .int j => some (decide (j < i))
  | .GtE, .int i, .int j => some (decide (j ≤ i))
  | .Is, x, .non => some (isNon x)
  | .IsNot, x, .non => some (!isNon x)
  | .In, x, y => inOp h x y
  | .NotIn, x, y => (inOp h x y).map (!·)
  | _, _, _ => none
def cmpR (op : CmpOp) (x y : Val) (h : Mem) : Res Val := (Res.opt (cmpop op h x y) h).bind fun b h => .ok (.bl b) h
/-! ### expressions -/
def eC (v : Val) : ME := fun _ h => .ok v h
def eVar (i : Nat) : ME := fun ρ h => match ρ[i]? with
  | some (some v) => .ok v h
  | _ => .bad
def eBad : ME := fun _ _ => .bad
def e1 (f : Val → Mem → Res Val) (a : ME) : ME := fun ρ h => (a ρ h).bind f
def e2 (f : Val → Val → Mem → Res Val) (a b : ME) : ME := fun ρ h => (a ρ h).bind fun x h => (b ρ h).bind fun y h => f x y h
def eBin (op : Operator) (a b : ME) : ME := e2 (binop op) a b
def eCmp (op : CmpOp) (a b : ME) : ME := e2 (cmpR op) a b
/-- a op b op' c -/
def eChain (op op' : CmpOp) (a b c : ME) : ME := fun ρ h => (a ρ h).bind fun x h => (b ρ h).bind fun y h => (cmpR op x y h).bind fun z h => match z with
  | .bl true => (c ρ h).bind fun w h => cmpR op' y w h
  | .bl false => .ok (.bl false) h
  | _ => .bad
def negV (x : Val) (h : Mem) : Res Val := match x with
  | .int i => .ok (.int (-i)) h
  | _ => .bad
def eNeg (a : ME) : ME := e1 negV a
def eNot (a : ME) : ME := e1 (fun x h => (Res.opt (truthy h x) h).bind fun b h => .ok (.bl (!b)) h) a
def eAnd (a b : ME) : ME := fun ρ h => (a ρ h).bind fun x h => (Res.opt (truthy h x) h).bind fun k h => if k = true then b ρ h else .ok x h
def eOr (a b : ME) : ME := fun ρ h => (a ρ h).bind fun x h => (Res.opt (truthy h x) h).bind fun k h => if k = true then .ok x h else b ρ h
def eIf (c : MT) (a b : ME) : ME := fun ρ h => (c ρ h).bind fun k h => if k = true then a ρ h else b ρ h
def aNil : MA := fun _ h => .ok [] h
def aCons (a : ME) (r : MA) : MA := fun ρ h => (a ρ h).bind fun x h => (r ρ h).bind fun xs h => .ok (x :: xs) h
def eTup (as : MA) : ME := fun ρ h => (as ρ h).bind fun xs h => if xs.length ≤ sizeLine then .ok (.tup xs) h else .bad
def eLst (as : MA) : ME := fun ρ h => (as ρ h).bind newL
def idx (h : Mem) (x y : Val) : Option Val := match x, y with
  | .tup ts, .int i => atI ts i
  | .str z, .int i => if z.length ≤ sizeLine then (atI z.cps.toList i).map fun c => .str ⟨#[c]⟩ else none
  | .ref n, .int i => match h[n]? with
    | some (.lst xs) => atI xs i
    | some (.rol xs) => atI xs i
    | some (.dic kvs) => dGet kvs (.inl i)
    | some (.frd kvs) => dGet kvs (.inl i)
    | _ => none
  | .ref n, .str z => match h[n]? with
    | some (.dic kvs) => dGet kvs (.inr z)
    | some (.frd kvs) => dGet kvs (.inr z)
    | _ => none
  | _, _ => none
def eIdx (a b : ME) : ME := e2 (fun x y h => Res.opt (idx h x y) h) a b
/-- tests -/
def tE (a : ME) : MT := fun ρ h => (a ρ h).bind fun x h => Res.opt (truthy h x) h
def tNot (a : MT) : MT := fun ρ h => (a ρ h).bind fun k h => .ok (!k) h
def tAnd (a b : MT) : MT := fun ρ h => (a ρ h).bind fun k h => if k = true then b ρ h else .ok false h
def tOr (a b : MT) : MT := fun ρ h => (a ρ h).bind fun k h => if k = true then .ok true h else b ρ h
end Mp
set_option Elab.async false
set_option linter.all false
set_option maxRecDepth 100000
set_option maxHeartbeats 1000000
namespace Mp
open PySem PySem.Spec PyProof.Rows L2
abbrev Nm := Nat → Option Addr
/-- where classes and defs lie -/
structure Lk where
  C : Str → Addr
  F : Str → Addr
section
variable (L : Lk) (K : PySem.W.Frag)
mutual
def RV (f : Nm) (H : Hp) : Val → V → Prop
  | .non, v => v = .non
  | .bl b, v => v = .bl b
  | .int i, v => v = .int i
  | .str x, v => v = .str x
  | .ref n, v => ∃ a, f n = some a ∧ v = .ref a
  | .fn g, v => v = .ref (L.F g)
  | .tup ts, v => ∃ a vs, v = .ref a ∧ SqT K H a vs ∧ RVs f H ts vs
def RVs (f : Nm) (H : Hp) : List Val → List V → Prop
  | [], vs => vs = []
  | t :: ts, vs => ∃ v r, vs = v :: r ∧ RV f H t v ∧ RVs f H ts r
end
def RFs {κ : Type} (f : Nm) (H : Hp) (fs : List (κ × Val)) (gs : List (κ × V)) : Prop := fs.map (·.1) = gs.map (·.1) ∧ RVs L K f H (fs.map (·.2)) (gs.map (·.2))
def RO (f : Nm) (H : Hp) (a : Addr) : Ob → Prop
  | .lst xs => ∃ vs, H a = some (.lst vs) ∧ RVs L K f H xs vs
  | .ins c fs => ∃ dx gs, H a = some (.ins (L.C c) dx gs) ∧ RFs L K f H fs gs
  | .rol xs => ∃ o vs, H a = some (.frz o (.lst vs)) ∧ RVs L K f H xs vs
  | .dic kvs => ∃ gs, H a = some (.dK gs) ∧ RFs L K f H kvs gs
  | .frd kvs => ∃ o gs, H a = some (.frz o (.dK gs)) ∧ RFs L K f H kvs gs
structure Sim (f : Nm) (h : Mem) (H : Hp) : Prop where
  inj : ∀ n m a, f n = some a → f m = some a → n = m
  has : ∀ n, n < h.length → ∃ a, f n = some a
  at_ : ∀ n a, f n = some a → ∃ o, h[n]? = some o ∧ RO L K f H a o
/-- an exception: its class and attributes -/
def RX (f : Nm) (H : Hp) (c : Str) (fs : List (Str × Val)) (cls : Value) (d : Option Addr) : Prop :=
  cls = .ref (L.C c) ∧ ((fs = [] ∧ d = none) ∨ ∃ a gs, d = some a ∧ H a = some (.xd gs) ∧ RFs L K f H fs gs)
structure EnvR (f : Nm) (H : Hp) (ρ : Env) (σ : L2.St) : Prop where
  len : ρ.length = σ.length
  at_ : ∀ (i : Nat) v, ρ[i]? = some (some v) → ∃ v', σ[i]? = some (some v') ∧ RV L K f H v v'
end
structure Ext (f f' : Nm) (H H' : Hp) : Prop where
  le : ∀ n a, f n = some a → f' n = some a
  new : ∀ n a, f' n = some a → f n = some a ∨ H a = none
  keep : ∀ a o, H a = some o → (∀ n, f n ≠ some a) → H' a = some o
  trk : ∀ a o, H a = some o → ∃ o', H' a = some o'
  frz : ∀ a o u, H a = some (.frz o u) → H' a = some (.frz o u)
theorem Ext.refl (f : Nm) (H : Hp) : Ext f f H H := ⟨fun _ _ e => e, fun _ _ e => .inl e, fun _ _ e _ => e, fun _ o e => ⟨o, e⟩, fun _ _ _ e => e⟩
theorem Ext.trans {f f1 f2 : Nm} {H H1 H2 : Hp} (a : Ext f f1 H H1) (b : Ext f1 f2 H1 H2) : Ext f f2 H H2 where
  le := fun n x e => b.le n x (a.le n x e)
  new := fun n x e => by
    rcases b.new n x e with q | q
    · exact a.new n x q
    · cases z : H x with
      | none => exact .inr rfl
      | some o =>
        obtain ⟨o', z'⟩ := a.trk x o z
        rw [q] at z'; cases z'
  keep := fun x o e n => b.keep x o (a.keep x o e n) fun m z => by
    rcases a.new m x z with q | q
    · exact n m q
    · rw [e] at q; cases q
  trk := fun x o e => by
    obtain ⟨o', e'⟩ := a.trk x o e
    exact b.trk x o' e'
  frz := fun x o u e => b.frz x o u (a.frz x o u e)
section
variable {L : Lk} {K : PySem.W.Frag} {f f' : Nm} {h h' : Mem} {H H' : Hp} {W : WX} {σ : L2.St} {ρ : Env}
theorem Sim.lt (S : Sim L K f h H) {n : Nat} {a : Addr} (e : f n = some a) : n < h.length := by
  obtain ⟨o, q, _⟩ := S.at_ n a e
  exact (List.getElem?_eq_some_iff.mp q).1
theorem Sim.not_tup (S : Sim L K f h H) {a : Addr} {vs : List V} (e : Rd H a (.tup vs)) (n : Nat) : f n ≠ some a := fun z => by
  obtain ⟨o, _, r⟩ := S.at_ n a z
  cases o with
  | lst xs =>
    obtain ⟨ws, q, _⟩ := r
    rcases e with e | ⟨o, e⟩ <;> rw [q] at e <;> cases e
  | ins c fs =>
    obtain ⟨dx, gs, q, _⟩ := r
    rcases e with e | ⟨o, e⟩ <;> rw [q] at e <;> cases e
  | rol xs =>
    obtain ⟨o', ws, q, _⟩ := r
    rcases e with e | ⟨o, e⟩ <;> rw [q] at e <;> cases e
  | dic kvs =>
    obtain ⟨gs, q, _⟩ := r
    rcases e with e | ⟨o, e⟩ <;> rw [q] at e <;> cases e
  | frd kvs =>
    obtain ⟨o', gs, q, _⟩ := r
    rcases e with e | ⟨o, e⟩ <;> rw [q] at e <;> cases e
theorem Sim.tupK (S : Sim L K f h H) (x : Ext f f' H H') {a : Addr} {vs : List V} (e : SqT K H a vs) : SqT K H' a vs := by
  rcases e with e | e
  · refine .inl ?_
    rcases id e with q | ⟨o, q⟩
    · exact .inl (x.keep _ _ q (S.not_tup e))
    · exact .inr ⟨o, x.keep _ _ q (S.not_tup e)⟩
  · exact .inr e
mutual
theorem RV.mono2 (le : ∀ n a, f n = some a → f' n = some a) (tk : ∀ a vs, SqT K H a vs → SqT K H' a vs) : ∀ (t : Val) (v : V), RV L K f H t v → RV L K f' H' t v
  | .non, _, e => e
  | .bl _, _, e => e
  | .int _, _, e => e
  | .str _, _, e => e
  | .fn _, _, e => e
  | .ref n, v, e => by
    unfold RV at e ⊢
    obtain ⟨a, q, r⟩ := e
    exact ⟨a, le n a q, r⟩
  | .tup ts, v, e => by
    unfold RV at e ⊢
    obtain ⟨a, vs, q, r, z⟩ := e
    exact ⟨a, vs, q, tk a vs r, RVs.mono2 le tk ts vs z⟩
theorem RVs.mono2 (le : ∀ n a, f n = some a → f' n = some a) (tk : ∀ a vs, SqT K H a vs → SqT K H' a vs) : ∀ (ts : List Val) (vs : List V), RVs L K f H ts vs → RVs L K f' H' ts vs
  | [], _, e => e
  | t :: ts, vs, e => by
    unfold RVs at e ⊢
    obtain ⟨v, r, q, z1, z2⟩ := e
    exact ⟨v, r, q, RV.mono2 le tk t v z1, RVs.mono2 le tk ts r z2⟩
end
theorem RV.mono {t : Val} {v : V} (r : RV L K f H t v) (S : Sim L K f h H) (x : Ext f f' H H') : RV L K f' H' t v := RV.mono2 x.le (fun _ _ => S.tupK x) t v r
theorem RVs.mono {ts : List Val} {vs : List V} (r : RVs L K f H ts vs) (S : Sim L K f h H) (x : Ext f f' H H') : RVs L K f' H' ts vs := RVs.mono2 x.le (fun _ _ => S.tupK x) ts vs r
theorem EnvR.mono (E : EnvR L K f H ρ σ) (S : Sim L K f h H) (x : Ext f f' H H') : EnvR L K f' H' ρ σ :=
  ⟨E.len, fun i v e => by
    obtain ⟨v', q, r⟩ := E.at_ i v e
    exact ⟨v', q, r.mono S x⟩⟩
theorem EnvR.set (E : EnvR L K f H ρ σ) {v : Val} {v' : V} (r : RV L K f H v v') (i : Nat) : EnvR L K f H (ρ.set i (some v)) (σ.set i (some v')) := by
  refine ⟨by rw [List.length_set, List.length_set, E.len], fun j w e => ?_⟩
  by_cases hj : i = j
  · subst hj
    have hi : i < ρ.length := by
      have := (List.getElem?_eq_some_iff.mp e).1
      rwa [List.length_set] at this
    rw [List.getElem?_set_self hi] at e
    cases e
    exact ⟨v', by rw [List.getElem?_set_self (by rw [← E.len]; exact hi)], r⟩
  · rw [List.getElem?_set_ne hj] at e
    obtain ⟨w', q, z⟩ := E.at_ j w e
    exact ⟨w', by rw [List.getElem?_set_ne hj]; exact q, z⟩
/-! ### lists of values -/
theorem RVs.length : ∀ {ts : List Val} {vs : List V}, RVs L K f H ts vs → ts.length = vs.length
  | [], vs, e => by unfold RVs at e; rw [e]; rfl
  | t :: ts, vs, e => by
    unfold RVs at e
    obtain ⟨v, r, rfl, _, z⟩ := e
    rw [List.length_cons, List.length_cons, RVs.length z]
theorem RVs.get : ∀ {ts : List Val} {vs : List V}, RVs L K f H ts vs → ∀ {i : Nat} {t : Val}, ts[i]? = some t → ∃ v, vs[i]? = some v ∧ RV L K f H t v
  | [], _, _, i, t, q => by simp at q
  | t :: ts, vs, e, i, t', q => by
    unfold RVs at e
    obtain ⟨v, r, rfl, z1, z2⟩ := e
    cases i with
    | zero =>
      simp at q
      subst q
      exact ⟨v, by simp, z1⟩
    | succ i =>
      obtain ⟨w, q1, q2⟩ := RVs.get z2 (i := i) (t := t') (by simpa using q)
      exact ⟨w, by simpa using q1, q2⟩
theorem RVs.append : ∀ {ts us : List Val} {vs ws : List V}, RVs L K f H ts vs → RVs L K f H us ws → RVs L K f H (ts ++ us) (vs ++ ws)
  | [], us, vs, ws, e, e' => by unfold RVs at e; subst e; exact e'
  | t :: ts, us, vs, ws, e, e' => by
    unfold RVs at e
    obtain ⟨v, r, rfl, z1, z2⟩ := e
    show RVs L K f H (t :: (ts ++ us)) (v :: (r ++ ws))
    unfold RVs
    exact ⟨v, _, rfl, z1, RVs.append z2 e'⟩
theorem RVs.cons {t : Val} {ts : List Val} {v : V} {vs : List V} (a : RV L K f H t v) (b : RVs L K f H ts vs) : RVs L K f H (t :: ts) (v :: vs) := by
  unfold RVs
  exact ⟨v, vs, rfl, a, b⟩
theorem RVs.nil : RVs L K f H [] [] := by unfold RVs; rfl
theorem RVs.set : ∀ {ts : List Val} {vs : List V}, RVs L K f H ts vs → ∀ {t : Val} {v : V}, RV L K f H t v → ∀ i, RVs L K f H (ts.set i t) (vs.set i v)
  | [], vs, e, t, v, r, i => by unfold RVs at e; subst e; exact RVs.nil
  | a :: ts, vs, e, t, v, r, i => by
    unfold RVs at e
    obtain ⟨w, q, rfl, z1, z2⟩ := e
    cases i with
    | zero => exact RVs.cons r z2
    | succ i => exact RVs.cons z1 (RVs.set z2 r i)
theorem RVs.drop : ∀ {ts : List Val} {vs : List V} (n : Nat), RVs L K f H ts vs → RVs L K f H (ts.drop n) (vs.drop n)
  | ts, vs, 0, e => e
  | [], vs, n + 1, e => by unfold RVs at e; subst e; exact RVs.nil
  | t :: ts, vs, n + 1, e => by
    unfold RVs at e
    obtain ⟨v, r, rfl, z1, z2⟩ := e
    exact RVs.drop n z2
theorem RVs.take : ∀ {ts : List Val} {vs : List V} (n : Nat), RVs L K f H ts vs → RVs L K f H (ts.take n) (vs.take n)
  | ts, vs, 0, e => by simpa using RVs.nil
  | [], vs, n + 1, e => by unfold RVs at e; subst e; exact RVs.nil
  | t :: ts, vs, n + 1, e => by
    unfold RVs at e
    obtain ⟨v, r, rfl, z1, z2⟩ := e
    exact RVs.cons z1 (RVs.take n z2)
theorem RVs.eraseIdx : ∀ {ts : List Val} {vs : List V} (n : Nat), RVs L K f H ts vs → RVs L K f H (ts.eraseIdx n) (vs.eraseIdx n)
  | [], vs, n, e => by unfold RVs at e; subst e; exact RVs.nil
  | t :: ts, vs, n, e => by
    unfold RVs at e
    obtain ⟨v, r, rfl, z1, z2⟩ := e
    cases n with
    | zero => exact z2
    | succ n => exact RVs.cons z1 (RVs.eraseIdx n z2)
theorem RVs.rep {ts : List Val} {vs : List V} (e : RVs L K f H ts vs) : ∀ n, RVs L K f H (List.replicate n ts).flatten (List.replicate n vs).flatten
  | 0 => RVs.nil
  | n + 1 => by
    rw [List.replicate_succ, List.replicate_succ, List.flatten_cons, List.flatten_cons]
    exact RVs.append e (RVs.rep e n)
theorem RVs.reverse : ∀ {ts : List Val} {vs : List V}, RVs L K f H ts vs → RVs L K f H ts.reverse vs.reverse
  | [], vs, e => by unfold RVs at e; subst e; exact RVs.nil
  | t :: ts, vs, e => by
    unfold RVs at e
    obtain ⟨v, r, rfl, z1, z2⟩ := e
    rw [List.reverse_cons, List.reverse_cons]
    exact RVs.append (RVs.reverse z2) (RVs.cons z1 RVs.nil)
theorem RVs.dropLast {ts : List Val} {vs : List V} (e : RVs L K f H ts vs) : RVs L K f H ts.dropLast vs.dropLast := by
  rw [List.dropLast_eq_take, List.dropLast_eq_take, e.length]
  exact e.take _
/-! ### steps of the memory -/
theorem updNe {H : Hp} {a b : Addr} {o o' : HO} (hb : H b = none) (e : H a = some o) : upd H b o' a = some o := by
  rw [upd_ne (ne_of_none e hb)]; exact e
theorem ext_new {p : Addr} {o : HO} (hp : H p = none) : Ext f f H (upd H p o) :=
  ⟨fun _ _ e => e, fun _ _ e => .inl e, fun a o' e _ => updNe hp e, fun a o' e => ⟨o', updNe hp e⟩, fun a o' u e => updNe hp e⟩
theorem RO.mono (S : Sim L K f h H) (x : Ext f f' H H') {a : Addr} {o : Ob} (r : RO L K f H a o) (e : ∀ q, H a = some q → H' a = some q) : RO L K f' H' a o := by
  cases o with
  | lst xs =>
    obtain ⟨vs, q, z⟩ := r
    exact ⟨vs, e _ q, z.mono S x⟩
  | ins c fs =>
    obtain ⟨dx, gs, q, z1, z2⟩ := r
    exact ⟨dx, gs, e _ q, z1, z2.mono S x⟩
  | rol xs =>
    obtain ⟨o, vs, q, z⟩ := r
    exact ⟨o, vs, e _ q, z.mono S x⟩
  | dic kvs =>
    obtain ⟨gs, q, z1, z2⟩ := r
    exact ⟨gs, e _ q, z1, z2.mono S x⟩
  | frd kvs =>
    obtain ⟨o, gs, q, z1, z2⟩ := r
    exact ⟨o, gs, e _ q, z1, z2.mono S x⟩
theorem RO.some {a : Addr} {o : Ob} (r : RO L K f H a o) : ∃ q, H a = some q := by
  cases o with
  | lst xs => obtain ⟨vs, q, z⟩ := r; exact ⟨_, q⟩
  | ins c fs => obtain ⟨dx, gs, q, z⟩ := r; exact ⟨_, q⟩
  | rol xs => obtain ⟨o, vs, q, z⟩ := r; exact ⟨_, q⟩
  | dic kvs => obtain ⟨gs, q, z⟩ := r; exact ⟨_, q⟩
  | frd kvs => obtain ⟨o, gs, q, z⟩ := r; exact ⟨_, q⟩
/-- a new tracked thing outside of the memory -/
theorem Sim.out (S : Sim L K f h H) {p : Addr} {o : HO} (hp : H p = none) : Sim L K f h (upd H p o) :=
  ⟨S.inj, S.has, fun n a e => by
    obtain ⟨ob, q, r⟩ := S.at_ n a e
    exact ⟨ob, q, r.mono S (ext_new hp) fun z ez => updNe hp ez⟩⟩
/-- a new object -/
def put (f : Nm) (n : Nat) (p : Addr) : Nm := fun m => if m = n then some p else f m
theorem put_same {f : Nm} {n : Nat} {p : Addr} : put f n p n = some p := by unfold put; rw [if_pos rfl]
theorem Sim.fresh (S : Sim L K f h H) : f h.length = none := by
  cases e : f h.length with
  | none => rfl
  | some a => exact absurd (S.lt e) (Nat.lt_irrefl _)
theorem ext_put (S : Sim L K f h H) {p : Addr} {o : HO} (hp : H p = none) : Ext f (put f h.length p) H (upd H p o) where
  le := fun n a e => by
    unfold put
    rw [if_neg (fun z => by rw [z, S.fresh] at e; cases e)]
    exact e
  new := fun n a e => by
    unfold put at e
    split at e
    · cases e; exact .inr hp
    · exact .inl e
  keep := fun a o' e _ => updNe hp e
  trk := fun a o' e => ⟨o', updNe hp e⟩
  frz := fun a o' u e => updNe hp e
theorem Sim.alloc (S : Sim L K f h H) {p : Addr} {o : HO} {ob : Ob} (hp : H p = none) (r : RO L K (put f h.length p) (upd H p o) p ob) : Sim L K (put f h.length p) (h ++ [ob]) (upd H p o) where
  inj := fun n m a e1 e2 => by
    have tr : ∀ k, f k = some a → a ≠ p := fun k z w => by
      obtain ⟨_, _, r'⟩ := S.at_ k a z
      obtain ⟨q, e⟩ := r'.some
      rw [w, hp] at e; cases e
    unfold put at e1 e2
    split at e1 <;> split at e2
    · rename_i a1 a2; rw [a1, a2]
    · cases e1; exact absurd rfl (tr m e2)
    · cases e2; exact absurd rfl (tr n e1)
    · exact S.inj n m a e1 e2
  has := fun n hn => by
    unfold put
    by_cases z : n = h.length
    · exact ⟨p, by rw [if_pos z]⟩
    · rw [if_neg z]
      exact S.has n (by rw [List.length_append, List.length_singleton] at hn; omega)
  at_ := fun n a e => by
    by_cases z : n = h.length
    · subst z
      rw [put_same] at e
      cases e
      exact ⟨ob, by simp, r⟩
    · have e' : f n = some a := by unfold put at e; rwa [if_neg z] at e
      obtain ⟨o', q, r'⟩ := S.at_ n a e'
      exact ⟨o', by rw [List.getElem?_append_left (S.lt e')]; exact q, r'.mono S (ext_put S hp) fun q' ez => updNe hp ez⟩
/-- an object of the memory is changed in place -/
theorem ext_upd {a : Addr} {n : Nat} {q o : HO} (e : f n = some a) (hq : H a = some q) (nf : ∀ o u, q ≠ .frz o u := by intro _ _ z; cases z) : Ext f f H (upd H a o) where
  le := fun _ _ z => z
  new := fun _ _ z => .inl z
  keep := fun b o' z nz => by rw [upd_ne (fun w => nz n (by rw [w]; exact e))]; exact z
  trk := fun b o' z => by
    by_cases w : b = a
    · exact ⟨o, by rw [w, upd_same]⟩
    · exact ⟨o', by rw [upd_ne w]; exact z⟩
  frz := fun b o' u z => by
    rw [upd_ne (fun w => by rw [w, hq] at z; exact nf o' u (Option.some.inj z))]
    exact z
theorem Sim.wr (S : Sim L K f h H) {a : Addr} {n : Nat} {q o : HO} {ob : Ob} (e : f n = some a) (hq : H a = some q) (r : RO L K f (upd H a o) a ob) (nf : ∀ o u, q ≠ .frz o u := by intro _ _ z; cases z) : Sim L K f (h.set n ob) (upd H a o) where
  inj := S.inj
  has := fun m hm => S.has m (by rwa [List.length_set] at hm)
  at_ := fun m b z => by
    by_cases w : m = n
    · subst w
      rw [e] at z; cases z
      exact ⟨ob, by rw [List.getElem?_set_self (S.lt e)], r⟩
    · have nb : b ≠ a := fun y => w (S.inj m n a (y ▸ z) e)
      obtain ⟨o', q', r'⟩ := S.at_ m b z
      exact ⟨o', by rw [List.getElem?_set_ne (Ne.symm w)]; exact q', r'.mono S (ext_upd e hq nf) fun y ey => by rw [upd_ne nb]; exact ey⟩
/-- a tracked list outside of the memory is written -/
theorem tupOut {a : Addr} {xs : List V} {o : HO} (ha : H a = some (.lst xs)) : ∀ b vs, SqT K H b vs → SqT K (upd H a o) b vs := fun b vs e => by
  rcases e with e | e
  · have nb : b ≠ a := fun z => by
      rw [z] at e
      rcases e with e | ⟨q, e⟩ <;> rw [ha] at e <;> cases e
    refine .inl ?_
    rcases e with e | ⟨q, e⟩
    · exact .inl (by rw [upd_ne nb]; exact e)
    · exact .inr ⟨q, by rw [upd_ne nb]; exact e⟩
  · exact .inr e
theorem Sim.outUpd (S : Sim L K f h H) {a : Addr} {xs : List V} {o : HO} (ha : H a = some (.lst xs)) (no : ∀ n, f n ≠ some a) : Sim L K f h (upd H a o) :=
  ⟨S.inj, S.has, fun n b e => by
    have nb : b ≠ a := fun z => no n (z ▸ e)
    obtain ⟨ob, q, r⟩ := S.at_ n b e
    refine ⟨ob, q, ?_⟩
    cases ob with
    | lst xs =>
      obtain ⟨vs, q, z⟩ := r
      exact ⟨vs, by rw [upd_ne nb]; exact q, RVs.mono2 (fun _ _ e => e) (tupOut ha) _ _ z⟩
    | ins c fs =>
      obtain ⟨dx, gs, q, z1, z2⟩ := r
      exact ⟨dx, gs, by rw [upd_ne nb]; exact q, z1, RVs.mono2 (fun _ _ e => e) (tupOut ha) _ _ z2⟩
    | rol xs =>
      obtain ⟨o, vs, q, z⟩ := r
      exact ⟨o, vs, by rw [upd_ne nb]; exact q, RVs.mono2 (fun _ _ e => e) (tupOut ha) _ _ z⟩
    | dic kvs =>
      obtain ⟨gs, q, z1, z2⟩ := r
      exact ⟨gs, by rw [upd_ne nb]; exact q, z1, RVs.mono2 (fun _ _ e => e) (tupOut ha) _ _ z2⟩
    | frd kvs =>
      obtain ⟨o, gs, q, z1, z2⟩ := r
      exact ⟨o, gs, by rw [upd_ne nb]; exact q, z1, RVs.mono2 (fun _ _ e => e) (tupOut ha) _ _ z2⟩⟩
/-! ### dicts -/
theorem dGet_cons {α : Type} (q : Key) (v : α) (kvs : List (Key × α)) (k : Key) : dGet ((q, v) :: kvs) k = if q = k then some v else dGet kvs k := by
  unfold dGet
  rw [List.find?_cons]
  by_cases h : q = k
  · simp [h]
  · simp [h]
theorem df_inv {q : Key} {v : Val} {kvs : List (Key × Val)} {gs : List (Key × V)} (r : RFs L K f H ((q, v) :: kvs) gs) : ∃ w gs', gs = (q, w) :: gs' ∧ RV L K f H v w ∧ RFs L K f H kvs gs' := by
  obtain ⟨h1, h2⟩ := r
  cases gs with
  | nil => simp at h1
  | cons g gs =>
    obtain ⟨g1, g2⟩ := g
    simp only [List.map_cons, List.cons.injEq] at h1
    have h2' : RVs L K f H (v :: kvs.map (·.2)) (g2 :: gs.map (·.2)) := h2
    unfold RVs at h2'
    obtain ⟨w, r', e, z1, z2⟩ := h2'
    cases e
    exact ⟨g2, gs, by rw [h1.1], z1, h1.2, z2⟩
theorem df_nil {gs : List (Key × V)} (r : RFs L K f H ([] : List (Key × Val)) gs) : gs = [] := by
  have := r.1
  cases gs with
  | nil => rfl
  | cons _ _ => simp at this
theorem df_cons {q : Key} {v : Val} {w : V} {kvs : List (Key × Val)} {gs : List (Key × V)} (a : RV L K f H v w) (r : RFs L K f H kvs gs) : RFs L K f H ((q, v) :: kvs) ((q, w) :: gs) :=
  ⟨by simp [r.1], RVs.cons a r.2⟩
theorem df_get : ∀ {kvs : List (Key × Val)} {gs : List (Key × V)}, RFs L K f H kvs gs → ∀ k, (∀ v, dGet kvs k = some v → ∃ w, dGet gs k = some w ∧ RV L K f H v w) ∧ (dGet kvs k = none → dGet gs k = none)
  | [], gs, r, k => by
    rw [df_nil r]
    exact ⟨fun v e => by simp [dGet] at e, fun _ => rfl⟩
  | (q, v) :: kvs, gs, r, k => by
    obtain ⟨w, gs', rfl, z1, z2⟩ := df_inv r
    obtain ⟨i1, i2⟩ := df_get z2 k
    rw [dGet_cons, dGet_cons]
    by_cases h : q = k
    · simp only [h, if_true]
      exact ⟨fun v' e => by cases e; exact ⟨w, rfl, z1⟩, fun e => by cases e⟩
    · simp only [h, if_false]
      exact ⟨i1, i2⟩
theorem df_some {kvs : List (Key × Val)} {gs : List (Key × V)} (r : RFs L K f H kvs gs) (k : Key) : (dGet kvs k).isSome = (dGet gs k).isSome := by
  cases e : dGet kvs k with
  | none => rw [(df_get r k).2 e]; rfl
  | some v =>
    obtain ⟨w, e2, _⟩ := (df_get r k).1 v e
    rw [e2]; rfl
theorem df_any : ∀ {kvs : List (Key × Val)} {gs : List (Key × V)}, RFs L K f H kvs gs → ∀ k, (kvs.any fun kv => decide (kv.1 = k)) = gs.any fun kv => decide (kv.1 = k)
  | [], gs, r, k => by rw [df_nil r]; rfl
  | (q, v) :: kvs, gs, r, k => by
    obtain ⟨w, gs', rfl, z1, z2⟩ := df_inv r
    rw [List.any_cons, List.any_cons, df_any z2 k]
theorem df_map {v : Val} {w : V} (a : RV L K f H v w) (k : Key) : ∀ {kvs : List (Key × Val)} {gs : List (Key × V)}, RFs L K f H kvs gs → RFs L K f H (kvs.map fun kv => if kv.1 = k then (kv.1, v) else kv) (gs.map fun kv => if kv.1 = k then (kv.1, w) else kv)
  | [], gs, r => by rw [df_nil r]; exact ⟨rfl, RVs.nil⟩
  | (q, u) :: kvs, gs, r => by
    obtain ⟨x, gs', rfl, z1, z2⟩ := df_inv r
    rw [List.map_cons, List.map_cons]
    by_cases h : q = k
    · simp only [h, if_true]
      exact df_cons a (df_map a k z2)
    · simp only [h, if_false]
      exact df_cons z1 (df_map a k z2)
theorem df_app {v : Val} {w : V} (a : RV L K f H v w) (k : Key) : ∀ {kvs : List (Key × Val)} {gs : List (Key × V)}, RFs L K f H kvs gs → RFs L K f H (kvs ++ [(k, v)]) (gs ++ [(k, w)])
  | [], gs, r => by rw [df_nil r]; exact df_cons a ⟨rfl, RVs.nil⟩
  | (q, u) :: kvs, gs, r => by
    obtain ⟨x, gs', rfl, z1, z2⟩ := df_inv r
    exact df_cons z1 (df_app a k z2)
theorem df_put {v : Val} {w : V} (a : RV L K f H v w) (k : Key) {kvs : List (Key × Val)} {gs : List (Key × V)} (r : RFs L K f H kvs gs) : RFs L K f H (dPut kvs k v) (dPut gs k w) := by
  unfold dPut
  rw [df_any r k]
  split
  · exact df_map a k r
  · exact df_app a k r
theorem df_drop (k : Key) : ∀ {kvs : List (Key × Val)} {gs : List (Key × V)}, RFs L K f H kvs gs → RFs L K f H (dDrop kvs k) (dDrop gs k)
  | [], gs, r => by rw [df_nil r]; exact ⟨rfl, RVs.nil⟩
  | (q, u) :: kvs, gs, r => by
    obtain ⟨x, gs', rfl, z1, z2⟩ := df_inv r
    unfold dDrop
    rw [List.filter_cons, List.filter_cons]
    have ih := df_drop k z2
    unfold dDrop at ih
    by_cases h : q = k
    · simpa [h] using ih
    · simp only [h, ne_eq, not_false_eq_true, decide_true, if_true]
      exact df_cons z1 ih
theorem df_len {κ : Type} {kvs : List (κ × Val)} {gs : List (κ × V)} (r : RFs L K f H kvs gs) : kvs.length = gs.length := by
  have := congrArg List.length r.1
  simpa using this
theorem Sim.dic (S : Sim L K f h H) {n : Nat} {a : Addr} {kvs : List (Key × Val)} (e : f n = some a) (q : h[n]? = some (.dic kvs)) : ∃ gs, H a = some (.dK gs) ∧ RFs L K f H kvs gs := by
  obtain ⟨o, q', r⟩ := S.at_ n a e
  rw [q] at q'; cases q'
  exact r
theorem Sim.frd (S : Sim L K f h H) {n : Nat} {a : Addr} {kvs : List (Key × Val)} (e : f n = some a) (q : h[n]? = some (.frd kvs)) : ∃ o gs, H a = some (.frz o (.dK gs)) ∧ RFs L K f H kvs gs := by
  obtain ⟨o, q', r⟩ := S.at_ n a e
  rw [q] at q'; cases q'
  exact r
theorem key_rel {v : Val} {k : Key} {v' : V} (r : RV L K f H v v') (e : keyOf v = some k) : v' = kV k := by
  cases v with
  | int i => unfold RV at r; cases e; exact r
  | str x => unfold RV at r; cases e; exact r
  | _ => cases e
/-! ### what is wanted behind a run -/
def PostG {α β : Type} (L : Lk) (K : PySem.W.Frag) (R : Nm → Hp → α → β → Prop) (W : WX) (f : Nm) (σ : L2.St) (H : Hp) (Q : β → Hp → Prop) (r : Res α) : Prop := match r with
  | .ok v h' => ∀ f' H' v', Ext f f' H H' → Sim L K f' h' H' → R f' H' v v' → Q v' H'
  | .exc c fs h' => ∀ f' H' cls d, Ext f f' H H' → Sim L K f' h' H' → RX L K f' H' c fs cls d → W cls d σ H'
  | .bad => False
def RB : Nm → Hp → Bool → Bool → Prop := fun _ _ a b => a = b
section
variable {α β γ δ : Type} {R : Nm → Hp → α → β → Prop} {R2 : Nm → Hp → γ → δ → Prop}
theorem PostG.imp {Q Q' : β → Hp → Prop} {r : Res α} (p : PostG L K R W f σ H Q r) (i : ∀ v H', Q v H' → Q' v H') : PostG L K R W f σ H Q' r := by
  cases r with
  | ok v h' => exact fun f' H' v' x S rv => i _ _ (p f' H' v' x S rv)
  | exc c fs h' => exact p
  | bad => exact p
theorem PostG.ext {f1 : Nm} {H1 : Hp} {Q : β → Hp → Prop} {r : Res α} (p : PostG L K R W f σ H Q r) (x : Ext f f1 H H1) : PostG L K R W f1 σ H1 Q r := by
  cases r with
  | ok v h' => exact fun f' H' v' y S rv => p f' H' v' (x.trans y) S rv
  | exc c fs h' => exact fun f' H' cls d y S rx => p f' H' cls d (x.trans y) S rx
  | bad => exact p
theorem PostG.bind {Q : δ → Hp → Prop} {r : Res α} {k : α → Mem → Res γ} (p : PostG L K R2 W f σ H Q (r.bind k)) :
    PostG L K R W f σ H (fun b H1 => ∃ f1 a h1, r = .ok a h1 ∧ Ext f f1 H H1 ∧ Sim L K f1 h1 H1 ∧ R f1 H1 a b ∧ PostG L K R2 W f1 σ H1 Q (k a h1)) r := by
  cases r with
  | ok a h1 => exact fun f1 H1 b x S rb => ⟨f1, a, h1, rfl, x, S, rb, PostG.ext (r := k a h1) p x⟩
  | exc c fs h' => exact p
  | bad => exact p
end
def GoodE (L : Lk) (K : PySem.W.Frag) (W : WX) (m : ME) : TE := fun σ H Q => ∃ f ρ h, Sim L K f h H ∧ EnvR L K f H ρ σ ∧ PostG L K (RV L K) W f σ H Q (m ρ h)
def GoodT (L : Lk) (K : PySem.W.Frag) (W : WX) (m : MT) : TT := fun σ H Q => ∃ f ρ h, Sim L K f h H ∧ EnvR L K f H ρ σ ∧ PostG L K RB W f σ H Q (m ρ h)
def GoodA (L : Lk) (K : PySem.W.Frag) (W : WX) (m : MA) : TA := fun σ H Q => ∃ f ρ h, Sim L K f h H ∧ EnvR L K f H ρ σ ∧ PostG L K (RVs L K) W f σ H Q (m ρ h)
end
end Mp
set_option Elab.async false
set_option linter.all false
set_option maxRecDepth 100000
set_option maxHeartbeats 1000000
namespace Mp
open PySem PySem.Spec PyProof.Rows L2
theorem peImp {X : Cx} {e : Expr} {t t' : TE} (h : PE X e t) (i : ∀ σ H Q, t' σ H Q → t σ H Q) : PE X e t' := ⟨fun pins s σ H Q I q => h.run pins s σ H Q I (i σ H Q q)⟩
theorem ptImp {X : Cx} {e : Expr} {t t' : TT} (h : PT X e t) (i : ∀ σ H Q, t' σ H Q → t σ H Q) : PT X e t' := ⟨fun pins s σ H Q I q => h.run pins s σ H Q I (i σ H Q q)⟩
theorem pwImp {X : Cx} {e : Expr} {t t' : TT} (h : PW X e t) (i : ∀ σ H Q, t' σ H Q → t σ H Q) : PW X e t' := ⟨fun w pins s σ H Q I q => h.run w pins s σ H Q I (i σ H Q q)⟩
theorem paImp {X : Cx} {e : List Expr} {t t' : TA} (h : PA X e t) (i : ∀ σ H Q, t' σ H Q → t σ H Q) : PA X e t' := ⟨fun pos pins s σ H Q I q => h.run pos pins s σ H Q I (i σ H Q q)⟩
theorem psImp {X : Cx} {e : Stmt} {t t' : TS} (h : PS X e t) (i : ∀ D σ H, t' D σ H → t D σ H) : PS X e t' := ⟨fun pins s σ H D I q => h.run pins s σ H D I (i D σ H q)⟩
theorem pssImp {X : Cx} {e : List Stmt} {t t' : TS} (h : PSs X e t) (i : ∀ D σ H, t' D σ H → t D σ H) : PSs X e t' := ⟨fun pins s σ H D I q => h.run pins s σ H D I (i D σ H q)⟩
theorem peNo {X : Cx} {e : Expr} {t : TE} (h : ∀ σ H Q, ¬ t σ H Q) : PE X e t := ⟨fun pins s σ H Q I q => absurd q (h σ H Q)⟩
theorem ptNo {X : Cx} {e : Expr} {t : TT} (h : ∀ σ H Q, ¬ t σ H Q) : PT X e t := ⟨fun pins s σ H Q I q => absurd q (h σ H Q)⟩
theorem psNo {X : Cx} {e : Stmt} {t : TS} (h : ∀ D σ H, ¬ t D σ H) : PS X e t := ⟨fun pins s σ H D I q => absurd q (h D σ H)⟩
/-- no exception -/
def NoX {α : Type} (r : Res α) : Prop := match r with
  | .exc _ _ _ => False
  | _ => True
abbrev WF : WX := fun _ _ _ _ => False
section
variable {L : Lk} {K : PySem.W.Frag} {f f' : Nm} {h h' : Mem} {H H' : Hp} {W : WX} {σ : L2.St} {ρ : Env}
theorem PostG.nox {α β : Type} {R : Nm → Hp → α → β → Prop} {W' : WX} {σ' : L2.St} {Q : β → Hp → Prop} {r : Res α} (nx : NoX r) (p : PostG L K R W f σ H Q r) : PostG L K R W' f σ' H Q r := by
  cases r with
  | ok v h' => exact p
  | exc c fs h' => exact absurd nx id
  | bad => exact p
theorem good_no {m : ME} (e : ∀ ρ h, m ρ h = .bad) : ∀ σ H Q, ¬ GoodE L K W m σ H Q := fun σ H Q ⟨f, ρ, h, _, _, p⟩ => by rw [e] at p; exact p
theorem good_noT {m : MT} (e : ∀ ρ h, m ρ h = .bad) : ∀ σ H Q, ¬ GoodT L K W m σ H Q := fun σ H Q ⟨f, ρ, h, _, _, p⟩ => by rw [e] at p; exact p
/-! ### shapes -/
theorem rv_int {i : Int} {v : V} (r : RV L K f H (.int i) v) : v = .int i := by unfold RV at r; exact r
theorem rv_str {i : Str} {v : V} (r : RV L K f H (.str i) v) : v = .str i := by unfold RV at r; exact r
theorem rv_bl {i : Bool} {v : V} (r : RV L K f H (.bl i) v) : v = .bl i := by unfold RV at r; exact r
theorem rv_non {v : V} (r : RV L K f H .non v) : v = .non := by unfold RV at r; exact r
theorem rv_fn {g : Str} {v : V} (r : RV L K f H (.fn g) v) : v = .ref (L.F g) := by unfold RV at r; exact r
theorem rv_ref {n : Nat} {v : V} (r : RV L K f H (.ref n) v) : ∃ a, f n = some a ∧ v = .ref a := by unfold RV at r; exact r
theorem rv_tup {ts : List Val} {v : V} (r : RV L K f H (.tup ts) v) : ∃ a vs, v = .ref a ∧ SqT K H a vs ∧ RVs L K f H ts vs := by unfold RV at r; exact r
theorem mk_int (i : Int) : RV L K f H (.int i) (.int i) := by unfold RV; rfl
theorem mk_str (i : Str) : RV L K f H (.str i) (.str i) := by unfold RV; rfl
theorem mk_bl (i : Bool) : RV L K f H (.bl i) (.bl i) := by unfold RV; rfl
theorem mk_non : RV L K f H .non .non := by unfold RV; rfl
theorem mk_ref {n : Nat} {a : Addr} (e : f n = some a) : RV L K f H (.ref n) (.ref a) := by unfold RV; exact ⟨a, e, rfl⟩
theorem mk_tup {ts : List Val} {a : Addr} {vs : List V} (e : SqT K H a vs) (r : RVs L K f H ts vs) : RV L K f H (.tup ts) (.ref a) := by unfold RV; exact ⟨a, vs, rfl, e, r⟩
theorem Sim.lst (S : Sim L K f h H) {n : Nat} {a : Addr} {xs : List Val} (e : f n = some a) (q : h[n]? = some (.lst xs)) : ∃ vs, H a = some (.lst vs) ∧ RVs L K f H xs vs := by
  obtain ⟨o, q', r⟩ := S.at_ n a e
  rw [q] at q'; cases q'
  exact r
theorem Sim.seq (S : Sim L K f h H) {n : Nat} {a : Addr} {xs : List Val} (e : f n = some a) (q : h[n]? = some (.lst xs) ∨ h[n]? = some (.rol xs)) : ∃ vs, SqL K H a vs ∧ RVs L K f H xs vs := by
  obtain ⟨o, q', r⟩ := S.at_ n a e
  rcases q with q | q <;> rw [q] at q' <;> cases q'
  · obtain ⟨vs, z, y⟩ := r
    exact ⟨vs, SqL.of z, y⟩
  · obtain ⟨o, vs, z, y⟩ := r
    exact ⟨vs, .inl (.inr ⟨o, z⟩), y⟩
theorem Sim.tyL (S : Sim L K f h H) {n : Nat} {a : Addr} {xs : List Val} (e : f n = some a) (q : h[n]? = some (.lst xs) ∨ h[n]? = some (.rol xs)) : TyX K H (.ref a) (.type "list") := by
  obtain ⟨o, q', r⟩ := S.at_ n a e
  rcases q with q | q <;> rw [q] at q' <;> cases q'
  · obtain ⟨vs, z, y⟩ := r
    exact .base (.lst z)
  · obtain ⟨o, vs, z, y⟩ := r
    exact .base (.frz z)
/-! ### new lists, new tuples -/
theorem newL_nox (xs : List Val) (h : Mem) : NoX (newL xs h) := by unfold newL; split <;> exact True.intro
theorem newL_ok {xs : List Val} {vs : List V} {Q : VK} (S : Sim L K f h H) (r : RVs L K f H xs vs) (p : PostG L K (RV L K) W f σ H Q (newL xs h)) : vs.length ≤ sizeLine ∧ ∀ q, H q = none → Q (.ref q) (upd H q (.lst vs)) := by
  unfold newL at p
  split at p
  · rename_i hz
    refine ⟨by rw [← r.length]; exact hz, fun q hq => ?_⟩
    exact p (put f h.length q) _ _ (ext_put S hq) (S.alloc hq ⟨vs, upd_same, r.mono S (ext_put S hq)⟩) (mk_ref put_same)
  · exact absurd p id
theorem newT_ok {xs : List Val} {vs : List V} {Q : VK} (S : Sim L K f h H) (r : RVs L K f H xs vs) (p : PostG L K (RV L K) W f σ H Q (.ok (.tup xs) h)) : ∀ q, H q = none → Q (.ref q) (upd H q (.tup vs)) := fun q hq =>
  p f _ _ (ext_new hq) (S.out hq) (mk_tup (SqT.of upd_same) (r.mono S (ext_new hq)))
theorem now {v : Val} {v' : V} {Q : VK} (S : Sim L K f h H) (r : RV L K f H v v') (p : PostG L K (RV L K) W f σ H Q (.ok v h)) : Q v' H := p f H v' (Ext.refl f H) S r
/-! ### operators by values -/
def rOpV (L : Lk) (K : PySem.W.Frag) (g : Val → Val → Mem → Res Val) : R2 := fun x' y' H Q => ∃ f h x y, Sim L K f h H ∧ RV L K f H x x' ∧ RV L K f H y y' ∧ PostG L K (RV L K) WF f [] H Q (g x y h)
theorem good_e2 {g : Val → Val → Mem → Res Val} (nx : ∀ x y h, NoX (g x y h)) {da db : ME} {Q : VK} (G : GoodE L K W (e2 g da db) σ H Q) : tOp (rOpV L K g) (GoodE L K W da) (GoodE L K W db) σ H Q := by
  obtain ⟨f, ρ, h, S, E, p⟩ := G
  refine ⟨f, ρ, h, S, E, (PostG.bind (R := RV L K) p).imp fun x' H1 ⟨f1, x, h1, e1, X1, S1, R1, p1⟩ => ?_⟩
  refine ⟨f1, ρ, h1, S1, E.mono S X1, (PostG.bind (R := RV L K) p1).imp fun y' H2 ⟨f2, y, h2, e2, X2, S2, R2, p2⟩ => ?_⟩
  exact ⟨f2, h2, x, y, S2, R1.mono S1 X2, R2, p2.nox (nx x y h2)⟩
theorem mulOk_of {i j : Int} (h : mulOk i j = true) : CMul i j := by
  unfold mulOk at h
  rw [Bool.or_eq_true] at h
  rcases h with h | h
  · exact .inl (of_decide_eq_true h)
  · exact .inr (of_decide_eq_true h)
theorem binop_nox (op : Operator) (x y : Val) (h : Mem) : NoX (binop op x y h) := by
  unfold binop
  split <;> (try split) <;> (try split) <;> first | exact True.intro | exact newL_nox _ _
end
section
variable {L : Lk} {X : Cx}
theorem sbin (op : Operator) : OpR X (binaryOp op) (rOpV L X.K (binop op)) := by
  intro pins s σ H x' y' v u Q I rx ry ⟨f, h, x, y, S, Rx, Ry, p⟩
  unfold binop at p
  split at p
  · obtain rfl := rv_int Rx
    obtain rfl := rv_int Ry
    rename_i i j
    exact op_add pins s σ H _ _ v u Q I rx ry ⟨i, j, rfl, rfl, now S (mk_int _) p⟩
  · obtain rfl := rv_str Rx
    obtain rfl := rv_str Ry
    rename_i i j
    split at p
    · rename_i hz
      exact op_add_str pins s σ H _ _ v u Q I rx ry ⟨i, j, rfl, rfl, hz, now S (mk_str _) p⟩
    · exact absurd p id
  · split at p
    · rename_i xs ys hz
      obtain ⟨a, vs, rfl, sa, ra⟩ := rv_tup Rx
      obtain ⟨b, ws, rfl, sb, rb⟩ := rv_tup Ry
      refine op_catA pins s σ H _ _ v u Q I rx ry ⟨a, b, vs, ws, rfl, rfl, sa, sb, by rw [← ra.length, ← rb.length]; exact hz, fun e => ?_, fun ne e => ?_, fun ne ne' q hq => ?_⟩
      · subst e
        have ex : xs = [] := List.eq_nil_of_length_eq_zero (by rw [ra.length]; rfl)
        subst ex
        exact now S (mk_tup sb rb) p
      · subst e
        have ey : ys = [] := List.eq_nil_of_length_eq_zero (by rw [rb.length]; rfl)
        subst ey
        rw [List.append_nil] at p
        exact now S (mk_tup sa ra) p
      · exact newT_ok S (ra.append rb) p q hq
    · exact absurd p id
  · split at p
    · rename_i n m xs ys e1 e2
      obtain ⟨a, ea, rfl⟩ := rv_ref Rx
      obtain ⟨b, eb, rfl⟩ := rv_ref Ry
      obtain ⟨vs, ha, ra⟩ := S.lst ea e1
      obtain ⟨ws, hb, rb⟩ := S.lst eb e2
      obtain ⟨hz, k⟩ := newL_ok S (ra.append rb) p
      rw [List.length_append] at hz
      exact op_cat pins s σ H _ _ v u Q I rx ry ⟨a, b, vs, ws, rfl, rfl, ha, hb, hz, k⟩
    · exact absurd p id
  · obtain rfl := rv_int Rx
    obtain rfl := rv_int Ry
    rename_i i j
    exact op_sub pins s σ H _ _ v u Q I rx ry ⟨i, j, rfl, rfl, now S (mk_int _) p⟩
  · obtain rfl := rv_int Rx
    obtain rfl := rv_int Ry
    rename_i i j
    split at p
    · rename_i hz
      exact op_mul pins s σ H _ _ v u Q I rx ry ⟨i, j, rfl, rfl, mulOk_of hz, now S (mk_int _) p⟩
    · exact absurd p id
  · split at p
    · rename_i n k _ xs e1
      split at p
      · rename_i hz
        obtain ⟨a, ea, rfl⟩ := rv_ref Rx
        obtain rfl := rv_int Ry
        obtain ⟨vs, ha, ra⟩ := S.lst ea e1
        obtain ⟨_, kk⟩ := newL_ok S (ra.rep k.toNat) p
        exact op_rep pins s σ H _ _ v u Q I rx ry ⟨a, k, vs, rfl, rfl, ha, hz.1, hz.2.1, by rw [← ra.length]; exact hz.2.2, kk⟩
      · exact absurd p id
    · exact absurd p id
  · obtain rfl := rv_int Rx
    obtain rfl := rv_int Ry
    rename_i i j
    split at p
    · rename_i hz
      refine op_fdivW pins s σ H _ _ v u Q I rx ry ⟨i, j, rfl, rfl, wide_div (b := 64) hz.1 (by have := hz.2; omega) (by decide) (by decide), now S (mk_int _) p⟩
    · exact absurd p id
  · obtain rfl := rv_int Rx
    obtain rfl := rv_int Ry
    rename_i i j
    split at p
    · rename_i hz
      exact op_mod pins s σ H _ _ v u Q I rx ry ⟨i, j, rfl, rfl, hz, now S (mk_int _) p⟩
    · exact absurd p id
  · obtain rfl := rv_int Rx
    obtain rfl := rv_int Ry
    rename_i i j
    split at p
    · rename_i hz
      exact op_pow pins s σ H _ _ v u Q I rx ry ⟨i, j, rfl, rfl, hz, now S (mk_int _) p⟩
    · exact absurd p id
  · exact absurd p id
end
section
variable {L : Lk} {K : PySem.W.Frag} {f f' : Nm} {h h' : Mem} {H H' : Hp} {W : WX} {σ : L2.St} {ρ : Env}
/-! ### deep reading -/
mutual
theorem rd_dp (S : Sim L K f h H) : ∀ (n : Nat) (v : Val) (d : PyData) (v' : V), rd h n v = some d → RV L K f H v v' → Dp K H v' d
  | 0, _, _, _, e, _ => by simp [rd] at e
  | n + 1, v, d, v', e, r => by
    cases v with
    | non => rw [rv_non r]; simp [rd] at e; subst e; exact .non
    | bl b => rw [rv_bl r]; simp [rd] at e; subst e; exact .bl b
    | int i => rw [rv_int r]; simp [rd] at e; subst e; exact .int i
    | str x => rw [rv_str r]; simp [rd] at e; subst e; exact .str x
    | fn g => simp [rd] at e
    | tup ts =>
      obtain ⟨a, vs, rfl, sa, ra⟩ := rv_tup r
      simp only [rd] at e
      obtain ⟨ds, e1, rfl⟩ := Option.map_eq_some_iff.mp e
      exact .tup sa (rds_dp S n ts ds vs e1 ra)
    | ref m =>
      obtain ⟨a, ea, rfl⟩ := rv_ref r
      simp only [rd] at e
      split at e
      · rename_i xs q
        obtain ⟨ds, e1, rfl⟩ := Option.map_eq_some_iff.mp e
        obtain ⟨vs, sv, rv⟩ := S.seq ea (.inl q)
        exact .lst sv (rds_dp S n xs ds vs e1 rv)
      · rename_i xs q
        obtain ⟨ds, e1, rfl⟩ := Option.map_eq_some_iff.mp e
        obtain ⟨vs, sv, rv⟩ := S.seq ea (.inr q)
        exact .lst sv (rds_dp S n xs ds vs e1 rv)
      · cases e
theorem rds_dp (S : Sim L K f h H) : ∀ (n : Nat) (vs : List Val) (ds : List PyData) (vs' : List V), rds h n vs = some ds → RVs L K f H vs vs' → DpAll K H vs' ds
  | 0, _, _, _, e, _ => by simp [rds] at e
  | n + 1, [], ds, vs', e, r => by
    unfold RVs at r; subst r
    simp [rds] at e; subst e
    exact .nil
  | n + 1, v :: vs, ds, vs', e, r => by
    unfold RVs at r
    obtain ⟨w, ws, rfl, r1, r2⟩ := r
    simp only [rds] at e
    split at e
    · rename_i d ds' e1 e2
      cases e
      exact .cons (rd_dp S n v d w e1 r1) (rds_dp S n vs ds' ws e2 r2)
    · cases e
end
theorem rdS_dp (S : Sim L K f h H) {v : Val} {d : PyData} {v' : V} (e : rdS h v = some d) (r : RV L K f H v v') : Dp K H v' d ∧ SeqAt.shaped d = true := by
  unfold rdS at e
  split at e
  · rename_i d' q
    split at e
    · rename_i hz
      cases e
      exact ⟨rd_dp S _ _ _ _ q r, hz⟩
    · cases e
  · cases e
theorem flat_of {v : Val} {v' : V} (r : RV L K f H v v') (e : flat v = true) : flatV v' = true := by
  cases v <;> simp [flat] at e
  · rw [rv_non r]; rfl
  · rw [rv_bl r]; rfl
  · rw [rv_int r]; rfl
  · rw [rv_str r]; rfl
theorem eqF_of {v w : Val} {v' w' : V} (r : RV L K f H v v') (r' : RV L K f H w w') (e : flat v = true) (e' : flat w = true) : eqF v w = eqV v' w' := by
  cases v <;> simp [flat] at e <;> cases w <;> simp [flat] at e'
  all_goals
    first
    | rw [rv_non r] | rw [rv_bl r] | rw [rv_int r] | rw [rv_str r]
  all_goals
    first
    | rw [rv_non r'] | rw [rv_bl r'] | rw [rv_int r'] | rw [rv_str r']
  all_goals rfl
theorem any_of {w : Val} {w' : V} (r' : RV L K f H w w') (e' : flat w = true) : ∀ {ts : List Val} {vs : List V}, RVs L K f H ts vs → ts.all flat = true → vs.all flatV = true ∧ (ts.any fun y => eqF y w) = vs.any fun y => eqV y w'
  | [], vs, r, _ => by unfold RVs at r; subst r; exact ⟨rfl, rfl⟩
  | t :: ts, vs, r, a => by
    unfold RVs at r
    obtain ⟨v, q, rfl, r1, r2⟩ := r
    simp only [List.all_cons, Bool.and_eq_true] at a
    obtain ⟨i1, i2⟩ := any_of r' e' r2 a.2
    refine ⟨?_, ?_⟩
    · rw [List.all_cons, i1, flat_of r1 a.1]; rfl
    · rw [List.any_cons, List.any_cons, i2, eqF_of r1 r' a.1 e']
theorem isNon_of {v : Val} {v' : V} (r : RV L K f H v v') : isNon v = decide (v' = .non) := by
  cases v
  · rw [rv_non r]; rfl
  · rw [rv_bl r]; rfl
  · rw [rv_int r]; rfl
  · rw [rv_str r]; rfl
  · obtain ⟨a, vs, rfl, _⟩ := rv_tup r; rfl
  · obtain ⟨a, _, rfl⟩ := rv_ref r; rfl
  · rw [rv_fn r]; rfl
end
section
variable {L : Lk} {X : Cx}
theorem cmpR_nox (op : CmpOp) (x y : Val) (h : Mem) : NoX (cmpR op x y h) := by
  unfold cmpR
  cases cmpop op h x y <;> exact True.intro
theorem scmp (hu : X.A.units + 65 < cLine) (op : CmpOp) : OpR X (compareOp op) (rOpV L X.K (cmpR op)) := by
  intro pins s σ H x' y' v u Q I rx ry ⟨f, h, x, y, S, Rx, Ry, p⟩
  unfold cmpR at p
  cases ec : cmpop op h x y with
  | none => rw [ec] at p; exact absurd p id
  | some b =>
    rw [ec] at p
    have q : Q (.bl b) H := now S (mk_bl _) p
    unfold cmpop at ec
    split at ec
    · split at ec
      · rename_i d e e1 e2
        cases ec
        obtain ⟨d1, s1⟩ := rdS_dp S e1 Rx
        obtain ⟨d2, s2⟩ := rdS_dp S e2 Ry
        exact op_eqD (by omega) pins s σ H _ _ v u Q I rx ry ⟨d, e, d1, d2, s1, s2, q⟩
      · cases ec
    · split at ec
      · rename_i d e e1 e2
        cases ec
        obtain ⟨d1, s1⟩ := rdS_dp S e1 Rx
        obtain ⟨d2, s2⟩ := rdS_dp S e2 Ry
        exact op_neD (by omega) pins s σ H _ _ v u Q I rx ry ⟨d, e, d1, d2, s1, s2, q⟩
      · cases ec
    · obtain rfl := rv_int Rx
      obtain rfl := rv_int Ry
      rename_i i j
      cases ec
      exact op_lt pins s σ H _ _ v u Q I rx ry ⟨i, j, rfl, rfl, q⟩
    · obtain rfl := rv_int Rx
      obtain rfl := rv_int Ry
      rename_i i j
      cases ec
      exact op_le pins s σ H _ _ v u Q I rx ry ⟨i, j, rfl, rfl, q⟩
    · obtain rfl := rv_int Rx
      obtain rfl := rv_int Ry
      rename_i i j
      cases ec
      exact op_gt pins s σ H _ _ v u Q I rx ry ⟨i, j, rfl, rfl, q⟩
    · obtain rfl := rv_int Rx
      obtain rfl := rv_int Ry
      rename_i i j
      cases ec
      exact op_ge pins s σ H _ _ v u Q I rx ry ⟨i, j, rfl, rfl, q⟩
    · cases ec
      obtain rfl := rv_non Ry
      exact op_isN pins s σ H _ _ v u Q I rx ry ⟨rfl, by rw [← isNon_of Rx]; exact q⟩
    · cases ec
      obtain rfl := rv_non Ry
      exact op_notN pins s σ H _ _ v u Q I rx ry ⟨rfl, by rw [← isNon_of Rx]; exact q⟩
    · unfold inOp at ec
      split at ec
      · cases ec
        obtain rfl := rv_str Rx
        obtain rfl := rv_str Ry
        exact op_in_str pins s σ H _ _ v u Q I rx ry ⟨_, _, rfl, rfl, q⟩
      · split at ec
        · rename_i hz
          cases ec
          rw [Bool.and_eq_true] at hz
          obtain ⟨a, vs, rfl, sa, ra⟩ := rv_tup Ry
          obtain ⟨z1, z2⟩ := any_of Rx hz.1 ra hz.2
          rw [z2] at q
          exact op_in_seq pins s σ H _ _ v u Q I rx ry ⟨a, vs, rfl, .inr sa, flat_of Rx hz.1, z1, q⟩
        · cases ec
      · split at ec
        · rename_i n kvs en
          obtain ⟨k, ek, eb⟩ := Option.map_eq_some_iff.mp ec
          obtain ⟨a, ea, rfl⟩ := rv_ref Ry
          obtain ⟨gs, hg, rg⟩ := S.dic ea en
          obtain rfl := key_rel Rx ek
          obtain rfl : u = Value.ref a := ry
          have q' : Q (.bl (dGet gs k).isSome) H := by rw [← df_some rg k, eb]; exact q
          exact d_in (by omega) I (DGet.k hg) rx fun s3 I3 => ⟨.bl (dGet gs k).isSome, H, I3, rfl, q'⟩
        · rename_i n kvs en
          obtain ⟨k, ek, eb⟩ := Option.map_eq_some_iff.mp ec
          obtain ⟨a, ea, rfl⟩ := rv_ref Ry
          obtain ⟨o, gs, hg, rg⟩ := S.frd ea en
          obtain rfl := key_rel Rx ek
          obtain rfl : u = Value.ref a := ry
          have q' : Q (.bl (dGet gs k).isSome) H := by rw [← df_some rg k, eb]; exact q
          exact d_in (by omega) I (.inl ⟨gs, k, .inr ⟨o, hg⟩, rfl, rfl⟩) rx fun s3 I3 => ⟨.bl (dGet gs k).isSome, H, I3, rfl, q'⟩
        · split at ec
          · rename_i d ds e1 e2
            cases ec
            obtain ⟨d1, s1⟩ := rdS_dp S e1 Rx
            obtain ⟨d2, s2⟩ := rdS_dp S e2 Ry
            exact op_inD hu pins s σ H _ _ v u Q I rx ry ⟨d, ds, d1, d2, s1, s2, q⟩
          · cases ec
      · cases ec
    · obtain ⟨b', ec2, rfl⟩ := Option.map_eq_some_iff.mp ec
      clear ec
      unfold inOp at ec2
      split at ec2
      · obtain rfl := Option.some.inj ec2
        obtain rfl := rv_str Rx
        obtain rfl := rv_str Ry
        exact op_notin_str pins s σ H _ _ v u Q I rx ry ⟨_, _, rfl, rfl, q⟩
      · split at ec2
        · rename_i hz
          obtain rfl := Option.some.inj ec2
          rw [Bool.and_eq_true] at hz
          obtain ⟨a, vs, rfl, sa, ra⟩ := rv_tup Ry
          obtain ⟨z1, z2⟩ := any_of Rx hz.1 ra hz.2
          rw [z2] at q
          exact op_notIn_seq pins s σ H _ _ v u Q I rx ry ⟨a, vs, rfl, .inr sa, flat_of Rx hz.1, z1, q⟩
        · cases ec2
      · split at ec2
        · rename_i n kvs en
          obtain ⟨k, ek, eb⟩ := Option.map_eq_some_iff.mp ec2
          obtain ⟨a, ea, rfl⟩ := rv_ref Ry
          obtain ⟨gs, hg, rg⟩ := S.dic ea en
          obtain rfl := key_rel Rx ek
          obtain rfl : u = Value.ref a := ry
          have q' : Q (.bl (!(dGet gs k).isSome)) H := by rw [← df_some rg k, eb]; exact q
          exact d_notIn (by omega) I (DGet.k hg) rx fun s3 I3 => ⟨.bl (!(dGet gs k).isSome), H, I3, rfl, q'⟩
        · rename_i n kvs en
          obtain ⟨k, ek, eb⟩ := Option.map_eq_some_iff.mp ec2
          obtain ⟨a, ea, rfl⟩ := rv_ref Ry
          obtain ⟨o, gs, hg, rg⟩ := S.frd ea en
          obtain rfl := key_rel Rx ek
          obtain rfl : u = Value.ref a := ry
          have q' : Q (.bl (!(dGet gs k).isSome)) H := by rw [← df_some rg k, eb]; exact q
          exact d_notIn (by omega) I (.inl ⟨gs, k, .inr ⟨o, hg⟩, rfl, rfl⟩) rx fun s3 I3 => ⟨.bl (!(dGet gs k).isSome), H, I3, rfl, q'⟩
        · split at ec2
          · rename_i d ds e1 e2
            obtain rfl := Option.some.inj ec2
            obtain ⟨d1, s1⟩ := rdS_dp S e1 Rx
            obtain ⟨d2, s2⟩ := rdS_dp S e2 Ry
            exact op_notInD hu pins s σ H _ _ v u Q I rx ry ⟨d, ds, d1, d2, s1, s2, q⟩
          · cases ec2
      · cases ec2
    · cases ec
end
end Mp
set_option Elab.async false
set_option linter.all false
set_option maxRecDepth 100000
set_option maxHeartbeats 1000000
namespace Mp
open PySem PySem.Spec PyProof.Rows L2
section
variable {L : Lk} {X : Cx} {W : WX} {a b c : Expr} {da db dc : ME} {pos : Pos}
/-! ### names, constants -/
theorem s_var {i : Nat} {x : Str} (hN : X.N[i]? = some x) (hv : Vis X.env.scope x) (hd : (x == ("__debug__" : Str)) = false) (hcd : (x == ("__classdict__" : Str)) = false) : PE X (.Name x pos) (GoodE L X.K W (eVar i)) := by
  refine peImp (pe_var hN hv hd hcd) fun σ H Q ⟨f, ρ, h, S, E, p⟩ => ?_
  unfold eVar at p
  split at p
  · rename_i v e
    obtain ⟨v', q, r⟩ := E.at_ i v e
    exact ⟨v', q, now S r p⟩
  · exact absurd p id
theorem s_glob {x : Str} {v : Val} {v' : V} {u : Value} (hg : Gl X x) (hm : X.mg x = some u) (r : RelV v' u) (hv : ∀ f H, RV L X.K f H v v') (hd : (x == ("__debug__" : Str)) = false) : PE X (.Name x pos) (GoodE L X.K W (eC v)) :=
  peImp (pe_glob hg hm r hd) fun σ H Q ⟨f, ρ, h, S, E, p⟩ => now S (hv f H) p
theorem s_int {i : Int} {j : Nat} : PE X (.Constant (.int i) j pos) (GoodE L X.K W (eC (.int i))) := peImp pe_int fun σ H Q ⟨f, ρ, h, S, E, p⟩ => now S (mk_int i) p
theorem s_bl {i : Bool} {j : Nat} : PE X (.Constant (.bool i) j pos) (GoodE L X.K W (eC (.bl i))) := peImp pe_bl fun σ H Q ⟨f, ρ, h, S, E, p⟩ => now S (mk_bl i) p
theorem s_str {i : Str} {j : Nat} : PE X (.Constant (.str i) j pos) (GoodE L X.K W (eC (.str i))) := peImp pe_str fun σ H Q ⟨f, ρ, h, S, E, p⟩ => now S (mk_str i) p
theorem s_non {j : Nat} : PE X (.Constant .none j pos) (GoodE L X.K W (eC .non)) := peImp pe_non fun σ H Q ⟨f, ρ, h, S, E, p⟩ => now S mk_non p
/-! ### operators -/
theorem s_bin {op : Operator} (ha : PE X a (GoodE L X.K W da)) (hb : PE X b (GoodE L X.K W db)) : PE X (.BinOp a op b pos) (GoodE L X.K W (eBin op da db)) :=
  peImp (pe_op (sbin (L := L) op) ha hb) fun σ H Q G => good_e2 (binop_nox op) G
theorem s_cmp {op : CmpOp} (hu : X.A.units + 65 < cLine) (ha : PE X a (GoodE L X.K W da)) (hb : PE X b (GoodE L X.K W db)) (hm : behindInMarks op b = false) : PE X (.Compare a [op] [b] pos) (GoodE L X.K W (eCmp op da db)) :=
  peImp (pe_cmpR (scmp (L := L) hu op) ha hb hm) fun σ H Q G => good_e2 (cmpR_nox op) G
theorem cmpR_bl {op : CmpOp} {x y : Val} {h : Mem} {z : Val} {h' : Mem} (e : cmpR op x y h = .ok z h') : ∃ k, z = .bl k := by
  unfold cmpR at e
  cases q : cmpop op h x y with
  | none => rw [q] at e; cases e
  | some b => rw [q] at e; cases e; exact ⟨b, rfl⟩
theorem s_chain {op op' : CmpOp} (hu : X.A.units + 65 < cLine) (ha : PE X a (GoodE L X.K W da)) (hb : PE X b (GoodE L X.K W db)) (hc : PE X c (GoodE L X.K W dc)) (hm : lastMarks [op, op'] [b, c] = false) :
    PE X (.Compare a [op, op'] [b, c] pos) (GoodE L X.K W (eChain op op' da db dc)) := by
  refine peImp (pe_chain (scmp (L := L) hu op) (scmp (L := L) hu op') ha hb hc hm) fun σ H Q ⟨f, ρ, h, S, E, p⟩ => ?_
  refine ⟨f, ρ, h, S, E, (PostG.bind (R := RV L X.K) p).imp fun x' H1 ⟨f1, x, h1, e1, X1, S1, R1, p1⟩ => ?_⟩
  refine ⟨f1, ρ, h1, S1, E.mono S X1, (PostG.bind (R := RV L X.K) p1).imp fun y' H2 ⟨f2, y, h2, e2, X2, S2, R2, p2⟩ => ?_⟩
  refine ⟨f2, h2, x, y, S2, R1.mono S1 X2, R2, ((PostG.bind (R := RV L X.K) p2).nox (cmpR_nox _ _ _ _)).imp fun z' H3 ⟨f3, z, h3, e3, X3, S3, R3, p3⟩ => ?_⟩
  obtain ⟨k, rfl⟩ := cmpR_bl e3
  obtain rfl := rv_bl R3
  refine ⟨k, rfl, ?_⟩
  cases k with
  | true =>
    rw [if_pos rfl]
    refine ⟨f3, ρ, h3, S3, ((E.mono S X1).mono S1 X2).mono S2 X3, (PostG.bind (R := RV L X.K) p3).imp fun w' H4 ⟨f4, w, h4, e4, X4, S4, R4, p4⟩ => ?_⟩
    exact ⟨f4, h4, y, w, S4, (R2.mono S2 X3).mono S3 X4, R4, p4.nox (cmpR_nox _ _ _ _)⟩
  | false =>
    rw [if_neg Bool.false_ne_true]
    exact now S3 (mk_bl _) p3
theorem s_neg (ha : PE X a (GoodE L X.K W da)) : PE X (.UnaryOp .USub a pos) (GoodE L X.K W (eNeg da)) := by
  refine peImp (pe_un un_neg ha) fun σ H Q ⟨f, ρ, h, S, E, p⟩ => ?_
  refine ⟨f, ρ, h, S, E, (PostG.bind (R := RV L X.K) p).imp fun x' H1 ⟨f1, x, h1, e1, X1, S1, R1, p1⟩ => ?_⟩
  unfold negV at p1
  split at p1
  · rename_i i
    exact ⟨i, rv_int R1, now S1 (mk_int _) p1⟩
  · exact absurd p1 id
/-! ### truth -/
theorem truthy_ok {K : PySem.W.Frag} {f : Nm} {h : Mem} {H : Hp} (S : Sim L K f h H) {x : Val} {x' : V} {k : Bool} (r : RV L K f H x x') (e : truthy h x = some k) : TruV K x' H k := by
  cases x with
  | non => obtain rfl := rv_non r; unfold truthy at e; cases e; rfl
  | bl b => obtain rfl := rv_bl r; unfold truthy at e; cases e; rfl
  | int i => obtain rfl := rv_int r; unfold truthy at e; cases e; rfl
  | str y =>
    obtain rfl := rv_str r
    simp only [truthy] at e
    split at e
    · rename_i hz; cases e; exact ⟨hz, rfl⟩
    · cases e
  | tup ts =>
    obtain ⟨a, vs, rfl, sa, ra⟩ := rv_tup r
    unfold truthy at e
    cases e
    refine .inr (.inl ⟨vs, sa, ?_⟩)
    have := ra.length
    cases ts <;> cases vs <;> first | rfl | simp at this
  | ref n =>
    obtain ⟨a, ea, rfl⟩ := rv_ref r
    unfold truthy at e
    have fin : ∀ {xs : List Val}, (h[n]? = some (.lst xs) ∨ h[n]? = some (.rol xs)) → k = !xs.isEmpty → TruV K (.ref a) H k := fun {xs} q ek => by
      obtain ⟨vs, sv, rv⟩ := S.seq ea q
      refine .inl ⟨vs, sv, ?_⟩
      rw [ek]
      have := rv.length
      cases xs <;> cases vs <;> first | rfl | simp at this
    dsimp only at e
    split at e
    · rename_i xs q; cases e; exact fin (.inl q) rfl
    · rename_i xs q; cases e; exact fin (.inr q) rfl
    · cases e
  | fn g => unfold truthy at e; cases e
theorem tru_post {K : PySem.W.Frag} {f : Nm} {h : Mem} {H : Hp} {σ : L2.St} {x : Val} {x' : V} {β δ : Type} {R : Nm → Hp → β → δ → Prop} {Q : δ → Hp → Prop} {k : Bool → Mem → Res β} (S : Sim L K f h H) (r : RV L K f H x x')
    (p : PostG L K R W f σ H Q ((Res.opt (truthy h x) h).bind k)) : ∃ b, TruV K x' H b ∧ PostG L K R W f σ H Q (k b h) := by
  cases e : truthy h x with
  | none => rw [e] at p; exact absurd p id
  | some b => rw [e] at p; exact ⟨b, truthy_ok S r e, p⟩
theorem s_not (ha : PE X a (GoodE L X.K W da)) : PE X (.UnaryOp .Not a pos) (GoodE L X.K W (eNot da)) := by
  refine peImp (pe_notT ha) fun σ H Q ⟨f, ρ, h, S, E, p⟩ => ?_
  refine ⟨f, ρ, h, S, E, (PostG.bind (R := RV L X.K) p).imp fun x' H1 ⟨f1, x, h1, e1, X1, S1, R1, p1⟩ => ?_⟩
  obtain ⟨b, tb, p2⟩ := tru_post S1 R1 p1
  exact ⟨b, tb, now S1 (mk_bl _) p2⟩
theorem s_and {rest : List Expr} (ha : PE X a (GoodE L X.K W da)) (hb : PE X (.BoolOp .And (b :: rest) pos) (GoodE L X.K W db)) : PE X (.BoolOp .And (a :: b :: rest) pos) (GoodE L X.K W (eAnd da db)) := by
  refine peImp (pe_andT ha hb) fun σ H Q ⟨f, ρ, h, S, E, p⟩ => ?_
  refine ⟨f, ρ, h, S, E, (PostG.bind (R := RV L X.K) p).imp fun x' H1 ⟨f1, x, h1, e1, X1, S1, R1, p1⟩ => ?_⟩
  obtain ⟨k, tb, p2⟩ := tru_post S1 R1 p1
  refine ⟨k, tb, ?_⟩
  cases k with
  | true => rw [if_pos rfl]; rw [if_pos rfl] at p2; exact ⟨f1, ρ, h1, S1, E.mono S X1, p2⟩
  | false => rw [if_neg Bool.false_ne_true]; rw [if_neg Bool.false_ne_true] at p2; exact now S1 R1 p2
theorem s_or {rest : List Expr} (ha : PE X a (GoodE L X.K W da)) (hb : PE X (.BoolOp .Or (b :: rest) pos) (GoodE L X.K W db)) : PE X (.BoolOp .Or (a :: b :: rest) pos) (GoodE L X.K W (eOr da db)) := by
  refine peImp (pe_orT ha hb) fun σ H Q ⟨f, ρ, h, S, E, p⟩ => ?_
  refine ⟨f, ρ, h, S, E, (PostG.bind (R := RV L X.K) p).imp fun x' H1 ⟨f1, x, h1, e1, X1, S1, R1, p1⟩ => ?_⟩
  obtain ⟨k, tb, p2⟩ := tru_post S1 R1 p1
  refine ⟨k, tb, ?_⟩
  cases k with
  | true => rw [if_pos rfl]; rw [if_pos rfl] at p2; exact now S1 R1 p2
  | false => rw [if_neg Bool.false_ne_true]; rw [if_neg Bool.false_ne_true] at p2; exact ⟨f1, ρ, h1, S1, E.mono S X1, p2⟩
/-! ### tests -/
variable {ta tb : MT}
theorem t_val (ha : PE X a (GoodE L X.K W da)) (he : ∀ whole, isTrue a X.env whole = (do let v ← whole; standAt a.pos; holding [v] (PySem.truthy v))) : PT X a (GoodT L X.K W (tE da)) := by
  refine ptImp (pt_truth ha he) fun σ H Q ⟨f, ρ, h, S, E, p⟩ => ?_
  refine ⟨f, ρ, h, S, E, (PostG.bind (R := RV L X.K) p).imp fun x' H1 ⟨f1, x, h1, e1, X1, S1, R1, p1⟩ => ?_⟩
  cases e : truthy h1 x with
  | none => rw [e] at p1; exact absurd p1 id
  | some k =>
    rw [e] at p1
    exact ⟨k, truthy_ok S1 R1 e, p1 f1 H1 k (Ext.refl _ _) S1 rfl⟩
theorem t_cmp {op : CmpOp} (hu : X.A.units + 65 < cLine) (ha : PE X a (GoodE L X.K W da)) (hb : PE X b (GoodE L X.K W db)) (hm : behindInMarks op b = false) : PT X (.Compare a [op] [b] pos) (GoodT L X.K W (tE (eCmp op da db))) := by
  refine ptImp (pt_cmpR (scmp (L := L) hu op) ha hb hm) fun σ H Q ⟨f, ρ, h, S, E, p⟩ => ?_
  refine good_e2 (cmpR_nox op) ⟨f, ρ, h, S, E, (PostG.bind (R := RV L X.K) p).imp fun x' H1 ⟨f1, x, h1, e1, X1, S1, R1, p1⟩ => ?_⟩
  have ⟨k, ek⟩ : ∃ k, x = .bl k := by
    unfold eCmp e2 at e1
    cases q : da ρ h with
    | ok y h2 =>
      rw [q] at e1
      cases q2 : db ρ h2 with
      | ok z h3 => rw [Res.bind_ok, q2] at e1; exact cmpR_bl e1
      | exc _ _ _ => rw [Res.bind_ok, q2] at e1; cases e1
      | bad => rw [Res.bind_ok, q2] at e1; cases e1
    | exc _ _ _ => rw [q] at e1; cases e1
    | bad => rw [q] at e1; cases e1
  subst ek
  obtain rfl := rv_bl R1
  exact ⟨k, rfl, p1 f1 H1 k (Ext.refl _ _) S1 rfl⟩
theorem chain_bl {op op' : CmpOp} {ρ : Env} {h : Mem} {x : Val} {h1 : Mem} (e : eChain op op' da db dc ρ h = .ok x h1) : ∃ k, x = .bl k := by
  unfold eChain at e
  cases q : da ρ h with
  | ok y h2 =>
    rw [q, Res.bind_ok] at e
    cases q2 : db ρ h2 with
    | ok z h3 =>
      rw [q2, Res.bind_ok] at e
      cases q3 : cmpR op y z h3 with
      | ok w h4 =>
        rw [q3, Res.bind_ok] at e
        obtain ⟨k, rfl⟩ := cmpR_bl q3
        cases k with
        | true =>
          dsimp only at e
          cases q5 : dc ρ h4 with
          | ok u h5 => rw [q5, Res.bind_ok] at e; exact cmpR_bl e
          | exc _ _ _ => rw [q5] at e; cases e
          | bad => rw [q5] at e; cases e
        | false => cases e; exact ⟨false, rfl⟩
      | exc _ _ _ => rw [q3] at e; cases e
      | bad => rw [q3] at e; cases e
    | exc _ _ _ => rw [q2] at e; cases e
    | bad => rw [q2] at e; cases e
  | exc _ _ _ => rw [q] at e; cases e
  | bad => rw [q] at e; cases e
/-- a test by the value, where it is a truth value -/
theorem t_of_val {t : TE} (hp : PT X a (tTest t)) (hv : ∀ σ H Q, GoodE L X.K W da σ H Q → t σ H Q) (hb : ∀ ρ h x h1, da ρ h = .ok x h1 → ∃ k, x = .bl k) : PT X a (GoodT L X.K W (tE da)) := by
  refine ptImp hp fun σ H Q ⟨f, ρ, h, S, E, p⟩ => ?_
  refine hv σ H _ ⟨f, ρ, h, S, E, (PostG.bind (R := RV L X.K) p).imp fun x' H1 ⟨f1, x, h1, e1, X1, S1, R1, p1⟩ => ?_⟩
  obtain ⟨k, rfl⟩ := hb _ _ _ _ e1
  obtain rfl := rv_bl R1
  exact ⟨k, rfl, p1 f1 H1 k (Ext.refl _ _) S1 rfl⟩
theorem t_not (ha : PT X a (GoodT L X.K W ta)) : PT X (.UnaryOp .Not a pos) (GoodT L X.K W (tNot ta)) := by
  refine ptImp (pt_not ha) fun σ H Q ⟨f, ρ, h, S, E, p⟩ => ?_
  refine ⟨f, ρ, h, S, E, (PostG.bind (R := RB) p).imp fun x' H1 ⟨f1, x, h1, e1, X1, S1, R1, p1⟩ => ?_⟩
  obtain rfl : x = x' := R1
  exact p1 f1 H1 _ (Ext.refl _ _) S1 rfl
theorem t_and {rest : List Expr} (ha : PT X a (GoodT L X.K W ta)) (hb : PW X (.BoolOp .And (b :: rest) pos) (GoodT L X.K W tb)) : PW X (.BoolOp .And (a :: b :: rest) pos) (GoodT L X.K W (tAnd ta tb)) := by
  refine pwImp (pw_and ha hb) fun σ H Q ⟨f, ρ, h, S, E, p⟩ => ?_
  refine ⟨f, ρ, h, S, E, (PostG.bind (R := RB) p).imp fun x' H1 ⟨f1, x, h1, e1, X1, S1, R1, p1⟩ => ?_⟩
  obtain rfl : x = x' := R1
  cases x with
  | true => rw [if_pos rfl]; rw [if_pos rfl] at p1; exact ⟨f1, ρ, h1, S1, E.mono S X1, p1⟩
  | false => rw [if_neg Bool.false_ne_true]; rw [if_neg Bool.false_ne_true] at p1; exact p1 f1 H1 _ (Ext.refl _ _) S1 rfl
theorem t_or {rest : List Expr} (ha : PT X a (GoodT L X.K W ta)) (hb : PW X (.BoolOp .Or (b :: rest) pos) (GoodT L X.K W tb)) : PW X (.BoolOp .Or (a :: b :: rest) pos) (GoodT L X.K W (tOr ta tb)) := by
  refine pwImp (pw_or ha hb) fun σ H Q ⟨f, ρ, h, S, E, p⟩ => ?_
  refine ⟨f, ρ, h, S, E, (PostG.bind (R := RB) p).imp fun x' H1 ⟨f1, x, h1, e1, X1, S1, R1, p1⟩ => ?_⟩
  obtain rfl : x = x' := R1
  cases x with
  | true => rw [if_pos rfl]; rw [if_pos rfl] at p1; exact p1 f1 H1 _ (Ext.refl _ _) S1 rfl
  | false => rw [if_neg Bool.false_ne_true]; rw [if_neg Bool.false_ne_true] at p1; exact ⟨f1, ρ, h1, S1, E.mono S X1, p1⟩
theorem s_if (hc : PT X c (GoodT L X.K W ta)) (ha : PE X a (GoodE L X.K W da)) (hb : PE X b (GoodE L X.K W db)) : PE X (.IfExp c a b pos) (GoodE L X.K W (eIf ta da db)) := by
  refine peImp (pe_ifExp hc ha hb) fun σ H Q ⟨f, ρ, h, S, E, p⟩ => ?_
  refine ⟨f, ρ, h, S, E, (PostG.bind (R := RB) p).imp fun x' H1 ⟨f1, x, h1, e1, X1, S1, R1, p1⟩ => ?_⟩
  obtain rfl : x = x' := R1
  cases x with
  | true => rw [if_pos rfl]; rw [if_pos rfl] at p1; exact ⟨f1, ρ, h1, S1, E.mono S X1, p1⟩
  | false => rw [if_neg Bool.false_ne_true]; rw [if_neg Bool.false_ne_true] at p1; exact ⟨f1, ρ, h1, S1, E.mono S X1, p1⟩
/-! ### argument lists, displays, subscripts -/
variable {es : List Expr} {das : MA}
theorem a_nil : PA X [] (GoodA L X.K W aNil) := paImp pa_nil fun σ H Q ⟨f, ρ, h, S, E, p⟩ => p f H [] (Ext.refl _ _) S RVs.nil
theorem a_cons (ha : PE X a (GoodE L X.K W da)) (hr : PA X es (GoodA L X.K W das)) (hs : starEach (a :: es) X.env = (false, eval a X.env) :: starEach es X.env) : PA X (a :: es) (GoodA L X.K W (aCons da das)) := by
  refine paImp (pa_cons ha hr hs) fun σ H Q ⟨f, ρ, h, S, E, p⟩ => ?_
  refine ⟨f, ρ, h, S, E, (PostG.bind (R := RV L X.K) p).imp fun x' H1 ⟨f1, x, h1, e1, X1, S1, R1, p1⟩ => ?_⟩
  refine ⟨f1, ρ, h1, S1, E.mono S X1, (PostG.bind (R := RVs L X.K) p1).imp fun xs' H2 ⟨f2, xs, h2, e2, X2, S2, R2, p2⟩ => ?_⟩
  exact p2 f2 H2 _ (Ext.refl _ _) S2 (RVs.cons (R1.mono S1 X2) R2)
theorem s_tup {k : Nat} (ha : PA X es (GoodA L X.K W das)) : PE X (.Tuple es k pos) (GoodE L X.K W (eTup das)) := by
  refine peImp (pe_tup ha) fun σ H Q ⟨f, ρ, h, S, E, p⟩ => ?_
  refine ⟨f, ρ, h, S, E, (PostG.bind (R := RVs L X.K) p).imp fun xs' H1 ⟨f1, xs, h1, e1, X1, S1, R1, p1⟩ => ?_⟩
  split at p1
  · rename_i hz
    exact ⟨by rw [← R1.length]; exact hz, newT_ok S1 R1 p1⟩
  · exact absurd p1 id
theorem s_lst (ha : PA X es (GoodA L X.K W das)) : PE X (.List es pos) (GoodE L X.K W (eLst das)) := by
  refine peImp (pe_lst ha) fun σ H Q ⟨f, ρ, h, S, E, p⟩ => ?_
  refine ⟨f, ρ, h, S, E, (PostG.bind (R := RVs L X.K) p).imp fun xs' H1 ⟨f1, xs, h1, e1, X1, S1, R1, p1⟩ => ?_⟩
  exact newL_ok S1 R1 p1
theorem atI_rel {K : PySem.W.Frag} {f : Nm} {H : Hp} {ts : List Val} {vs : List V} (r : RVs L K f H ts vs) {i : Int} {t : Val} (e : atI ts i = some t) : ∃ v, atI vs i = some v ∧ RV L K f H t v := by
  unfold atI at e ⊢
  rw [← r.length]
  cases q : ixN ts.length i with
  | none => rw [q] at e; cases e
  | some j =>
    rw [q] at e
    exact r.get e
/-- an item of a sequence, of a dict -/
def rIxB (K : PySem.W.Frag) : V → V → Hp → VK → Prop := fun x y H Q => rIx K x y H Q ∨ ∃ a v, x = .ref a ∧ DGet H a y (some v) ∧ Q v H
theorem ix_any (hu : X.A.units + 65 < cLine) : IxR X (rIxB X.K) := by
  intro value slice pins s σ H x y v u Q I rx ry h hs
  rcases h with h | ⟨a, w, rfl, g, q⟩
  · exact ix_seq value slice pins s σ H x y v u Q I rx ry h hs
  · obtain rfl : v = Value.ref a := rx
    exact tail_any (dict_typeIs I g) PySem.F.slot_dict_getitem.lookup (d_getItem (by omega) I g ry fun w' s3 I3 rw' => ⟨w, H, I3, rw', q⟩) hs
theorem idx_ok {K : PySem.W.Frag} {f : Nm} {h : Mem} {H : Hp} {Q : VK} {σ : L2.St} (S : Sim L K f h H) {x y : Val} {x' y' : V} (rx : RV L K f H x x') (ry : RV L K f H y y') (p : PostG L K (RV L K) W f σ H Q (Res.opt (idx h x y) h)) : rIxB K x' y' H Q := by
  cases e : idx h x y with
  | none => rw [e] at p; exact absurd p id
  | some v =>
    rw [e] at p
    unfold idx at e
    split at e
    · rename_i ts i
      obtain ⟨a, vs, rfl, sa, ra⟩ := rv_tup rx
      obtain rfl := rv_int ry
      obtain ⟨w, q1, q2⟩ := atI_rel ra e
      exact .inl (.inr (.inl ⟨a, vs, i, w, rfl, rfl, sa, q1, now S q2 p⟩))
    · rename_i z i
      obtain rfl := rv_str rx
      obtain rfl := rv_int ry
      split at e
      · rename_i hz
        obtain ⟨c, q, rfl⟩ := Option.map_eq_some_iff.mp e
        exact .inl (.inr (.inr ⟨z, i, c, rfl, rfl, hz, q, now S (mk_str _) p⟩))
      · cases e
    · rename_i n i
      obtain ⟨a, ea, rfl⟩ := rv_ref rx
      obtain rfl := rv_int ry
      split at e
      · rename_i xs q
        obtain ⟨vs, sv, rv⟩ := S.seq ea (.inl q)
        obtain ⟨w, q1, q2⟩ := atI_rel rv e
        exact .inl (.inl ⟨a, vs, i, w, rfl, rfl, sv, q1, now S q2 p⟩)
      · rename_i xs q
        obtain ⟨vs, sv, rv⟩ := S.seq ea (.inr q)
        obtain ⟨w, q1, q2⟩ := atI_rel rv e
        exact .inl (.inl ⟨a, vs, i, w, rfl, rfl, sv, q1, now S q2 p⟩)
      · rename_i kvs q
        obtain ⟨gs, hg, rg⟩ := S.dic ea q
        obtain ⟨w, q1, q2⟩ := (df_get rg _).1 _ e
        exact .inr ⟨a, w, rfl, by rw [← show valV gs (.inl i) = some w from q1]; exact DGet.k (k := .inl i) hg, now S q2 p⟩
      · rename_i kvs q
        obtain ⟨o, gs, hg, rg⟩ := S.frd ea q
        obtain ⟨w, q1, q2⟩ := (df_get rg _).1 _ e
        exact .inr ⟨a, w, rfl, .inl ⟨gs, .inl i, .inr ⟨o, hg⟩, rfl, q1.symm⟩, now S q2 p⟩
      · cases e
    · rename_i n z
      obtain ⟨a, ea, rfl⟩ := rv_ref rx
      obtain rfl := rv_str ry
      split at e
      · rename_i kvs q
        obtain ⟨gs, hg, rg⟩ := S.dic ea q
        obtain ⟨w, q1, q2⟩ := (df_get rg _).1 _ e
        exact .inr ⟨a, w, rfl, by rw [← show valV gs (.inr z) = some w from q1]; exact DGet.k (k := .inr z) hg, now S q2 p⟩
      · rename_i kvs q
        obtain ⟨o, gs, hg, rg⟩ := S.frd ea q
        obtain ⟨w, q1, q2⟩ := (df_get rg _).1 _ e
        exact .inr ⟨a, w, rfl, .inl ⟨gs, .inr z, .inr ⟨o, hg⟩, rfl, q1.symm⟩, now S q2 p⟩
      · cases e
    · cases e
theorem s_idx (hu : X.A.units + 65 < cLine) (ha : PE X a (GoodE L X.K W da)) (hb : PE X b (GoodE L X.K W db)) (hs : PlainIx b) : PE X (.Subscript a b pos) (GoodE L X.K W (eIdx da db)) := by
  refine peImp (pe_ix (ix_any hu) ha hb hs) fun σ H Q ⟨f, ρ, h, S, E, p⟩ => ?_
  refine ⟨f, ρ, h, S, E, (PostG.bind (R := RV L X.K) p).imp fun x' H1 ⟨f1, x, h1, e1, X1, S1, R1, p1⟩ => ?_⟩
  refine ⟨f1, ρ, h1, S1, E.mono S X1, (PostG.bind (R := RV L X.K) p1).imp fun y' H2 ⟨f2, y, h2, e2, X2, S2, R2, p2⟩ => ?_⟩
  exact idx_ok S2 (R1.mono S1 X2) R2 p2
end
end Mp
set_option Elab.async false
set_option linter.all false
set_option maxRecDepth 100000
set_option maxHeartbeats 1000000
namespace Mp
open PySem PySem.Spec PyProof.Rows L2
/-! ### statements: the machine -/
inductive Fl where
  | nx (ρ : Env) | rt (v : Val) | bk (ρ : Env) | ct (ρ : Env) | xc (ρ : Env) (c : Str) (fs : List (Str × Val))
abbrev MS := Env → Mem → Res Fl
def onE {α : Type} (r : Res α) (ρ : Env) (k : α → Mem → Res Fl) : Res Fl := match r with
  | .ok v h => k v h
  | .exc c fs h => .ok (.xc ρ c fs) h
  | .bad => .bad
@[simp] theorem onE_ok {α : Type} (v : α) (h : Mem) (ρ : Env) (k : α → Mem → Res Fl) : onE (.ok v h) ρ k = k v h := rfl
def thenF (r : Res Fl) (k : Env → Mem → Res Fl) : Res Fl := match r with
  | .ok (.nx ρ) h => k ρ h
  | r => r
@[simp] theorem thenF_nx (ρ : Env) (h : Mem) (k : Env → Mem → Res Fl) : thenF (.ok (.nx ρ) h) k = k ρ h := rfl
@[simp] theorem thenF_rt (v : Val) (h : Mem) (k : Env → Mem → Res Fl) : thenF (.ok (.rt v) h) k = .ok (.rt v) h := rfl
@[simp] theorem thenF_bk (ρ : Env) (h : Mem) (k : Env → Mem → Res Fl) : thenF (.ok (.bk ρ) h) k = .ok (.bk ρ) h := rfl
@[simp] theorem thenF_ct (ρ : Env) (h : Mem) (k : Env → Mem → Res Fl) : thenF (.ok (.ct ρ) h) k = .ok (.ct ρ) h := rfl
@[simp] theorem thenF_xc (ρ : Env) (c : Str) (fs : List (Str × Val)) (h : Mem) (k : Env → Mem → Res Fl) : thenF (.ok (.xc ρ c fs) h) k = .ok (.xc ρ c fs) h := rfl
@[simp] theorem thenF_bad (k : Env → Mem → Res Fl) : thenF .bad k = .bad := rfl
def sSkip : MS := fun ρ h => .ok (.nx ρ) h
def sBad : MS := fun _ _ => .bad
def sSeq (a b : MS) : MS := fun ρ h => thenF (a ρ h) b
def sExpr (e : ME) : MS := fun ρ h => onE (e ρ h) ρ fun _ h => .ok (.nx ρ) h
def sRet (e : ME) : MS := fun ρ h => onE (e ρ h) ρ fun v h => .ok (.rt v) h
def sRetN : MS := fun _ h => .ok (.rt .non) h
def sBrk : MS := fun ρ h => .ok (.bk ρ) h
def sCnt : MS := fun ρ h => .ok (.ct ρ) h
def sIf (t : MT) (a b : MS) : MS := fun ρ h => onE (t ρ h) ρ fun k h => if k = true then a ρ h else b ρ h
/-- targets -/
inductive Tg where
  | nm (i : Nat)
  | tp (ts : List Tg)
mutual
def put1 : Tg → Val → Env → Option Env
  | .nm i, v, ρ => some (ρ.set i (some v))
  | .tp ts, .tup vs, ρ => puts ts vs ρ
  | .tp _, _, _ => none
def puts : List Tg → List Val → Env → Option Env
  | [], [], ρ => some ρ
  | t :: ts, v :: vs, ρ => match put1 t v ρ with
    | some ρ' => puts ts vs ρ'
    | none => none
  | _, _, _ => none
end
def sAsg (t : Tg) (e : ME) : MS := fun ρ h => onE (e ρ h) ρ fun v h => match put1 t v ρ with
  | some ρ' => .ok (.nx ρ') h
  | none => .bad
def sSet (i : Nat) (e : ME) : MS := fun ρ h => onE (e ρ h) ρ fun v h => .ok (.nx (ρ.set i (some v))) h
/-- o[i] = v -/
def setIdx (o i v : Val) (h : Mem) : Res Val := match o, i with
  | .ref n, .int k => match h[n]? with
    | some (.lst xs) => match ixN xs.length k with
      | some j => .ok .non (h.set n (.lst (xs.set j v)))
      | none => .bad
    | some (.dic kvs) => if kvs.length < sizeLine then .ok .non (h.set n (.dic (dPut kvs (.inl k) v))) else .bad
    | _ => .bad
  | .ref n, .str z => match h[n]? with
    | some (.dic kvs) => if kvs.length < sizeLine then .ok .non (h.set n (.dic (dPut kvs (.inr z) v))) else .bad
    | _ => .bad
  | _, _ => .bad
/-- del o[i] -/
def delIdx (o i : Val) (h : Mem) : Res Val := match o with
  | .ref n => match h[n]? with
    | some (.dic kvs) => match keyOf i with
      | some k => if (dGet kvs k).isSome then .ok .non (h.set n (.dic (dDrop kvs k))) else .bad
      | none => .bad
    | _ => .bad
  | _ => .bad
def sDelIdx (o i : ME) : MS := fun ρ h => onE (o ρ h) ρ fun ov h => onE (i ρ h) ρ fun iv h => onE (delIdx ov iv h) ρ fun _ h => .ok (.nx ρ) h
/-- {} -/
def eDic0 : ME := fun _ h => .ok (.ref h.length) (h ++ [.dic []])
def sSetIdx (o i e : ME) : MS := fun ρ h => onE (e ρ h) ρ fun v h => onE (o ρ h) ρ fun ov h => onE (i ρ h) ρ fun iv h => onE (setIdx ov iv v h) ρ fun _ h => .ok (.nx ρ) h
/-- the in-place operators: ints, texts; a list grows -/
def augop (op : Operator) (x y : Val) (h : Mem) : Res Val := match op, x, y with
  | .Add, .int i, .int j => .ok (.int (i + j)) h
  | .Add, .str i, .str j => if i.length + j.length ≤ sizeLine then .ok (.str (i ++ j)) h else .bad
  | .Add, .ref n, .ref m => match h[n]?, h[m]? with
    | some (.lst xs), some (.lst ys) => if xs.length + ys.length ≤ sizeLine then .ok (.ref n) (h.set n (.lst (xs ++ ys))) else .bad
    | _, _ => .bad
  | .Sub, .int i, .int j => .ok (.int (i - j)) h
  | _, _, _ => .bad
def sAug (i : Nat) (op : Operator) (e : ME) : MS := fun ρ h => match ρ[i]? with
  | some (some x) => onE (e ρ h) ρ fun y h => onE (augop op x y h) ρ fun z h => .ok (.nx (ρ.set i (some z))) h
  | _ => .bad
def idxL (h : Mem) (x y : Val) : Option Val := match x, y with
  | .ref n, .int i => match h[n]? with
    | some (.lst xs) => atI xs i
    | _ => none
  | _, _ => none
def sAugIdx (o i : ME) (op : Operator) (e : ME) : MS := fun ρ h => onE (o ρ h) ρ fun ov h => onE (i ρ h) ρ fun iv h => onE (Res.opt (idxL h ov iv) h) ρ fun x h =>
  onE (e ρ h) ρ fun y h => onE (augop op x y h) ρ fun z h => onE (setIdx ov iv z h) ρ fun _ h => .ok (.nx ρ) h
/-- what is walked: at a turn, in a memory: nothing known | the end | an item; how many turns at most -/
structure Wk where
  fuel : Nat
  at_ : Nat → Mem → Option (Option Val)
abbrev MI := Env → Mem → Res Wk
def wkT (ts : List Val) : Wk := ⟨ts.length, fun i _ => some ts[i]?⟩
def wkL (n : Nat) (k : Nat) : Wk := ⟨k, fun i h => match h[n]? with
  | some (.lst xs) => some xs[i]?
  | some (.rol xs) => some xs[i]?
  | _ => none⟩
def wkR (lo : Int) (n : Nat) : Wk := ⟨n, fun i _ => some (if i < n then some (.int (lo + i)) else none)⟩
def wkS (z : Str) : Wk := ⟨z.cps.size, fun i _ => some (z.cps[i]?.map fun c => .str ⟨#[c]⟩)⟩
def wkE (w : Wk) : Wk := ⟨w.fuel, fun i h => (w.at_ i h).map fun o => o.map fun v => .tup [.int i, v]⟩
def wkZ (v w : Wk) : Wk := ⟨min v.fuel w.fuel, fun i h => match v.at_ i h, w.at_ i h with
  | some (some x), some (some y) => some (some (.tup [x, y]))
  | some none, some _ => some none
  | some _, some none => some none
  | _, _ => none⟩
/-- a value as it is walked -/
def wkV (h : Mem) : Val → Option Wk
  | .tup ts => some (wkT ts)
  | .str z => some (wkS z)
  | .ref n => match h[n]? with
    | some (.lst xs) => some (wkL n xs.length)
    | some (.rol xs) => some (wkL n xs.length)
    | _ => none
  | _ => none
def iVal (e : ME) : MI := fun ρ h => (e ρ h).bind fun v h => Res.opt (wkV h v) h
def small62 (i : Int) : Bool := decide (-(2 ^ 62) ≤ i) && decide (i < 2 ^ 62)
def iRng1 (e : ME) : MI := fun ρ h => (e ρ h).bind fun v h => match v with
  | .int j => if small62 j = true then .ok (wkR 0 j.toNat) h else .bad
  | _ => .bad
def iRng2 (a b : ME) : MI := fun ρ h => (a ρ h).bind fun v h => (b ρ h).bind fun u h => match v, u with
  | .int i, .int j => if (small62 i && small62 j) = true then .ok (wkR i (j - i).toNat) h else .bad
  | _, _ => .bad
def lstB (h : Mem) : Val → Option Wk
  | .ref n => match h[n]? with
    | some (.lst xs) => some (wkL n xs.length)
    | some (.rol xs) => some (wkL n xs.length)
    | _ => none
  | _ => none
def iEnum (e : ME) : MI := fun ρ h => (e ρ h).bind fun v h => Res.opt ((lstB h v).map wkE) h
def iZip (a b : ME) : MI := fun ρ h => (a ρ h).bind fun v h => (b ρ h).bind fun u h => match lstB h v, lstB h u with
  | some w, some z => .ok (wkZ w z) h
  | _, _ => .bad
/-- the turns of a for; i: the turn; fuel: turns at most -/
def forF (w : Wk) (t : Tg) (body els : MS) : Nat → Nat → Env → Mem → Res Fl
  | fuel, i, ρ, h => match w.at_ i h with
    | none => .bad
    | some none => els ρ h
    | some (some v) => match fuel with
      | 0 => .bad
      | fuel + 1 => match put1 t v ρ with
        | none => .bad
        | some ρ1 => match body ρ1 h with
          | .ok (.nx ρ2) h2 => forF w t body els fuel (i + 1) ρ2 h2
          | .ok (.ct ρ2) h2 => forF w t body els fuel (i + 1) ρ2 h2
          | .ok (.bk ρ2) h2 => .ok (.nx ρ2) h2
          | r => r
def sFor (t : Tg) (it : MI) (body els : MS) : MS := fun ρ h => onE (it ρ h) ρ fun w h => forF w t body els w.fuel 0 ρ h
def whileF (t : MT) (body els : MS) : Nat → Env → Mem → Res Fl
  | fuel, ρ, h => onE (t ρ h) ρ fun k h => if k = true then (match fuel with
    | 0 => .bad
    | fuel + 1 => match body ρ h with
      | .ok (.nx ρ2) h2 => whileF t body els fuel ρ2 h2
      | .ok (.ct ρ2) h2 => whileF t body els fuel ρ2 h2
      | .ok (.bk ρ2) h2 => .ok (.nx ρ2) h2
      | r => r) else els ρ h
def sWhile (fuel : Nat) (t : MT) (body els : MS) : MS := whileF t body els fuel
/-- comprehensions: the places vs are the block's own -/
def wipeE (ρ : Env) : List Nat → Env
  | [] => ρ
  | v :: vs => (wipeE ρ vs).set v none
def lcF (w : Wk) (t : Tg) (c : MT) (elt : ME) (ρ : Env) : Nat → Nat → List Val → Mem → Res (List Val)
  | fuel, i, acc, h => match w.at_ i h with
    | none => .bad
    | some none => .ok acc h
    | some (some v) => match fuel with
      | 0 => .bad
      | fuel + 1 => match put1 t v ρ with
        | none => .bad
        | some ρ1 => match c ρ1 h with
          | .ok true h2 => (match elt ρ1 h2 with
            | .ok y h3 => if acc.length < sizeLine then lcF w t c elt ρ fuel (i + 1) (acc ++ [y]) h3 else .bad
            | _ => .bad)
          | .ok false h2 => lcF w t c elt ρ fuel (i + 1) acc h2
          | _ => .bad
def eLc (vs : List Nat) (t : Tg) (it : MI) (c : MT) (elt : ME) : ME := fun ρ h => (it ρ h).bind fun w h => (lcF w t c elt (wipeE ρ vs) w.fuel 0 [] h).bind newL
def tYesM : MT := fun _ h => .ok true h
/-- the keys of a locked dict -/
def wkK (n k : Nat) : Wk := ⟨k, fun i h => match h[n]? with
  | some (.frd kvs) => some (kvs[i]?.map fun kv => keyV kv.1)
  | _ => none⟩
def iKey (e : ME) : MI := fun ρ h => (e ρ h).bind fun v h => match v with
  | .ref n => match h[n]? with
    | some (.frd kvs) => .ok (wkK n kvs.length) h
    | _ => .bad
  | _ => .bad
/-- the dict at place i, if there is one -/
def dicAt (ρ : Env) (h : Mem) (i : Nat) : Option (Nat × List (Key × Val)) := match ρ[i]? with
  | some (some (.ref n)) => (match h[n]? with
    | some (.dic kvs) => some (n, kvs)
    | _ => none)
  | _ => none
def unlk (n : Nat) (r : Res Val) : Res Val := match r with
  | .ok v h => (match h[n]? with
    | some (.frd kvs) => .ok v (h.set n (.dic kvs))
    | _ => .bad)
  | _ => .bad
/-- m, while the dict at place i is locked -/
def eLk (i : Nat) (m : ME) : ME := fun ρ h => match dicAt ρ h i with
  | some (n, kvs) => unlk n (m ρ (h.set n (.frd kvs)))
  | none => .bad
/-- [elt for t in x if c], x the name at place i: of a list, of a dict -/
def eLcN (i : Nat) (vs : List Nat) (t : Tg) (c : MT) (elt : ME) : ME := fun ρ h => match dicAt ρ h i with
  | some _ => eLk i (eLc vs t (iKey (eVar i)) c elt) ρ h
  | none => eLc vs t (iVal (eVar i)) c elt ρ h
/-- {k: v for t in it if c} -/
def dcF (w : Wk) (t : Tg) (c : MT) (ek ev : ME) (ρ : Env) : Nat → Nat → List (Key × Val) → Mem → Res (List (Key × Val))
  | fuel, i, acc, h => match w.at_ i h with
    | none => .bad
    | some none => .ok acc h
    | some (some v) => match fuel with
      | 0 => .bad
      | fuel + 1 => match put1 t v ρ with
        | none => .bad
        | some ρ1 => match c ρ1 h with
          | .ok true h2 => (match ek ρ1 h2 with
            | .ok y h3 => (match ev ρ1 h3 with
              | .ok z h4 => (match keyOf y with
                | some k => if acc.length < sizeLine then dcF w t c ek ev ρ fuel (i + 1) (dPut acc k z) h4 else .bad
                | none => .bad)
              | _ => .bad)
            | _ => .bad)
          | .ok false h2 => dcF w t c ek ev ρ fuel (i + 1) acc h2
          | _ => .bad
def newD (kvs : List (Key × Val)) (h : Mem) : Res Val := .ok (.ref h.length) (h ++ [.dic kvs])
def eDc (vs : List Nat) (t : Tg) (it : MI) (c : MT) (ek ev : ME) : ME := fun ρ h => (it ρ h).bind fun w h => (dcF w t c ek ev (wipeE ρ vs) w.fuel 0 [] h).bind newD
end Mp
set_option Elab.async false
set_option linter.all false
set_option maxRecDepth 100000
set_option maxHeartbeats 1000000
namespace Mp
open PySem PySem.Spec PyProof.Rows L2
section
variable {L : Lk} {K : PySem.W.Frag} {f f' : Nm} {h h' : Mem} {H H' : Hp} {W : WX} {σ σ' : L2.St} {ρ : Env}
def PostS (L : Lk) (K : PySem.W.Frag) (W : WX) (D : Ends) (f : Nm) (H : Hp) (r : Res Fl) : Prop := match r with
  | .ok (.nx ρ') h' => ∀ f' H' σ', Ext f f' H H' → Sim L K f' h' H' → EnvR L K f' H' ρ' σ' → D.nx σ' H'
  | .ok (.rt v) h' => ∀ f' H' v', Ext f f' H H' → Sim L K f' h' H' → RV L K f' H' v v' → D.rt v' H'
  | .ok (.bk ρ') h' => ∀ f' H' σ', Ext f f' H H' → Sim L K f' h' H' → EnvR L K f' H' ρ' σ' → D.bk σ' H'
  | .ok (.ct ρ') h' => ∀ f' H' σ', Ext f f' H H' → Sim L K f' h' H' → EnvR L K f' H' ρ' σ' → D.ct σ' H'
  | .ok (.xc ρ' c fs) h' => ∀ f' H' σ' cls d, Ext f f' H H' → Sim L K f' h' H' → EnvR L K f' H' ρ' σ' → RX L K f' H' c fs cls d → W cls d σ' H'
  | .exc _ _ _ => False
  | .bad => False
def GoodS (L : Lk) (K : PySem.W.Frag) (W : WX) (m : MS) : TS := fun D σ H => ∃ f ρ h, Sim L K f h H ∧ EnvR L K f H ρ σ ∧ PostS L K W D f H (m ρ h)
theorem PostS.ext {f1 : Nm} {H1 : Hp} {D : Ends} {r : Res Fl} (p : PostS L K W D f H r) (x : Ext f f1 H H1) : PostS L K W D f1 H1 r := by
  cases r with
  | ok v h' =>
    cases v with
    | nx ρ => exact fun f' H' σ' y S E => p f' H' σ' (x.trans y) S E
    | rt v => exact fun f' H' v' y S E => p f' H' v' (x.trans y) S E
    | bk ρ => exact fun f' H' σ' y S E => p f' H' σ' (x.trans y) S E
    | ct ρ => exact fun f' H' σ' y S E => p f' H' σ' (x.trans y) S E
    | xc ρ c fs => exact fun f' H' σ' cls d y S E rx => p f' H' σ' cls d (x.trans y) S E rx
  | exc c fs h' => exact p
  | bad => exact p
theorem RX.mono {c : Str} {fs : List (Str × Val)} {cls : Value} {d : Option Addr} (r : RX L K f H c fs cls d) (S : Sim L K f h H) (x : Ext f f' H H') : RX L K f' H' c fs cls d := by
  obtain ⟨e, q⟩ := r
  refine ⟨e, ?_⟩
  rcases q with q | ⟨a, gs, ed, ea, r1, r2⟩
  · exact .inl q
  · refine .inr ⟨a, gs, ed, x.keep _ _ ea fun n z => ?_, r1, r2.mono S x⟩
    obtain ⟨o, _, ro⟩ := S.at_ n a z
    cases o with
    | lst xs => obtain ⟨ws, q, _⟩ := ro; rw [q] at ea; cases ea
    | ins c fs => obtain ⟨dx, gs, q, _⟩ := ro; rw [q] at ea; cases ea
    | rol xs => obtain ⟨o', ws, q, _⟩ := ro; rw [q] at ea; cases ea
    | dic kvs => obtain ⟨gs, q, _⟩ := ro; rw [q] at ea; cases ea
    | frd kvs => obtain ⟨o, gs, q, _⟩ := ro; rw [q] at ea; cases ea
/-- an expression, then a statement's rest -/
theorem PostS.onE {α β : Type} {R : Nm → Hp → α → β → Prop} {D : Ends} {r : Res α} {k : α → Mem → Res Fl} (E : EnvR L K f H ρ σ) (S : Sim L K f h H) (p : PostS L K W D f H (onE r ρ k)) :
    PostG L K R W f σ H (fun b H1 => ∃ f1 a h1, r = .ok a h1 ∧ Ext f f1 H H1 ∧ Sim L K f1 h1 H1 ∧ EnvR L K f1 H1 ρ σ ∧ R f1 H1 a b ∧ PostS L K W D f1 H1 (k a h1)) r := by
  cases r with
  | ok a h1 => exact fun f1 H1 b x S1 rb => ⟨f1, a, h1, rfl, x, S1, E.mono S x, rb, PostS.ext (r := k a h1) p x⟩
  | exc c fs h' => exact fun f' H' cls d x S' rx => p f' H' σ cls d x S' (E.mono S x) rx
  | bad => exact p
end
section
variable {L : Lk} {X : Cx} {W : WX} {a b c : Expr} {da db dc : ME} {pos : Pos} {st : Stmt} {sts : List Stmt} {ms ns : MS}
theorem ss_nil : PSs X [] (GoodS L X.K W sSkip) := pssImp pss_nil fun D σ H ⟨f, ρ, h, S, E, p⟩ => p f H σ (Ext.refl _ _) S E
theorem good_seq {D : Ends} {σ : L2.St} {H : Hp} (G : GoodS L X.K W (sSeq ms ns) D σ H) : tSeq (GoodS L X.K W ms) (GoodS L X.K W ns) D σ H := by
  obtain ⟨f, ρ, h, S, E, p⟩ := G
  refine ⟨f, ρ, h, S, E, ?_⟩
  unfold sSeq at p
  cases e : ms ρ h with
  | ok v h1 =>
    rw [e] at p
    cases v with
    | nx ρ1 => exact fun f1 H1 σ1 x S1 E1 => ⟨f1, ρ1, h1, S1, E1, PostS.ext (r := ns ρ1 h1) p x⟩
    | rt v => exact p
    | bk ρ1 => exact p
    | ct ρ1 => exact p
    | xc ρ1 c fs => exact p
  | exc c fs h1 => rw [e] at p; exact p
  | bad => rw [e] at p; exact p
theorem ss_cons (h1 : PS X st (GoodS L X.K W ms)) (h2 : PSs X sts (GoodS L X.K W ns)) : PSs X (st :: sts) (GoodS L X.K W (sSeq ms ns)) := pssImp (pss_cons h1 h2) fun D σ H G => good_seq G
theorem ss_one (h1 : PS X st (GoodS L X.K W ms)) : PSs X [st] (GoodS L X.K W ms) := pss_one h1
theorem st_pass : PS X (.Pass pos) (GoodS L X.K W sSkip) := psImp ps_pass fun D σ H ⟨f, ρ, h, S, E, p⟩ => p f H σ (Ext.refl _ _) S E
theorem st_brk : PS X (.Break pos) (GoodS L X.K W sBrk) := psImp ps_break fun D σ H ⟨f, ρ, h, S, E, p⟩ => p f H σ (Ext.refl _ _) S E
theorem st_cnt : PS X (.Continue pos) (GoodS L X.K W sCnt) := psImp ps_continue fun D σ H ⟨f, ρ, h, S, E, p⟩ => p f H σ (Ext.refl _ _) S E
theorem st_retN : PS X (.Return none pos) (GoodS L X.K W sRetN) := psImp ps_retN fun D σ H ⟨f, ρ, h, S, E, p⟩ => p f H .non (Ext.refl _ _) S mk_non
theorem st_ret (ha : PE X a (GoodE L X.K W da)) : PS X (.Return (some a) pos) (GoodS L X.K W (sRet da)) := by
  refine psImp (ps_ret ha) fun D σ H ⟨f, ρ, h, S, E, p⟩ => ?_
  exact ⟨f, ρ, h, S, E, (PostS.onE (R := RV L X.K) E S p).imp fun v' H1 ⟨f1, v, h1, e1, X1, S1, E1, R1, p1⟩ => p1 f1 H1 v' (Ext.refl _ _) S1 R1⟩
theorem st_expr (ha : PE X a (GoodE L X.K W da)) (hs : swapsWith a none pos.line X.env = pure false) : PS X (.Expr a pos) (GoodS L X.K W (sExpr da)) := by
  refine psImp (ps_expr ha hs) fun D σ H ⟨f, ρ, h, S, E, p⟩ => ?_
  exact ⟨f, ρ, h, S, E, (PostS.onE (R := RV L X.K) E S p).imp fun v' H1 ⟨f1, v, h1, e1, X1, S1, E1, R1, p1⟩ => p1 f1 H1 σ (Ext.refl _ _) S1 E1⟩
theorem st_if {t : MT} {xs ys : List Stmt} (hc : PT X c (GoodT L X.K W t)) (ha : PSs X xs (GoodS L X.K W ms)) (hb : PSs X ys (GoodS L X.K W ns)) : PS X (.If c xs ys pos) (GoodS L X.K W (sIf t ms ns)) := by
  refine psImp (ps_if hc ha hb) fun D σ H ⟨f, ρ, h, S, E, p⟩ => ?_
  refine ⟨f, ρ, h, S, E, (PostS.onE (R := RB) E S p).imp fun k' H1 ⟨f1, k, h1, e1, X1, S1, E1, R1, p1⟩ => ?_⟩
  obtain rfl : k = k' := R1
  cases k with
  | true => rw [if_pos rfl]; rw [if_pos rfl] at p1; exact ⟨f1, ρ, h1, S1, E1, p1⟩
  | false => rw [if_neg Bool.false_ne_true]; rw [if_neg Bool.false_ne_true] at p1; exact ⟨f1, ρ, h1, S1, E1, p1⟩
/-! ### stores -/
theorem good_asg {i : Nat} {D : Ends} {σ : L2.St} {H : Hp} (G : GoodS L X.K W (sSet i da) D σ H) : tAsg (GoodE L X.K W da) (gName i) D σ H := by
  obtain ⟨f, ρ, h, S, E, p⟩ := G
  exact ⟨f, ρ, h, S, E, (PostS.onE (R := RV L X.K) E S p).imp fun v' H1 ⟨f1, v, h1, e1, X1, S1, E1, R1, p1⟩ => p1 f1 H1 _ (Ext.refl _ _) S1 (E1.set R1 i)⟩
theorem st_set {i : Nat} {x : Str} {pos' : Pos} (hN : X.N.Nodup) (hi : X.N[i]? = some x) (hx : Loc X.env.scope x) (ha : PE X a (GoodE L X.K W da)) (hs : swapsWith a (some (.Name x pos')) pos.line X.env = pure false)
    (hf : X.fn x = true ∨ X.env.scope.names.lookup x = some .local) : PS X (.Assign [.Name x pos'] a pos) (GoodS L X.K W (sSet i da)) :=
  psImp (ps_set hN hi hx ha hs hf) fun D σ H G => good_asg G
/-- o[i] = v: a list, a dict -/
def rSetB : V → V → V → Hp → (Hp → Prop) → Prop := fun o i v H Q => rSetL o i v H Q ∨ ∃ a H', o = .ref a ∧ DPut H a i v H' ∧ Q H'
theorem set_any (hu : X.A.units + 65 < cLine) : PSet X rSetB := by
  intro pins s σ H o i v ov iv u Q I ro ri rv h
  rcases h with h | ⟨a, H', rfl, g, q⟩
  · exact set_list pins s σ H o i v ov iv u Q I ro ri rv h
  · obtain rfl : ov = Value.ref a := ro
    exact d_setItem (by omega) I g ri rv fun s4 I4 => ⟨H', I4, q⟩
theorem setIdx_ok {K : PySem.W.Frag} {f : Nm} {h : Mem} {H : Hp} {σ : L2.St} {o i v : Val} {o' i' v' : V} {Q : V → Hp → Prop} (S : Sim L K f h H) (ro : RV L K f H o o') (ri : RV L K f H i i') (rv : RV L K f H v v')
    (p : PostG L K (RV L K) W f σ H Q (setIdx o i v h)) : rSetB o' i' v' H (fun H2 => Q .non H2) := by
  unfold setIdx at p
  split at p
  · rename_i n k
    split at p
    · rename_i xs q
      split at p
      · rename_i j ej
        obtain ⟨a, ea, rfl⟩ := rv_ref ro
        obtain rfl := rv_int ri
        obtain ⟨vs, hv, rvs⟩ := S.lst ea q
        refine .inl ⟨a, vs, k, j, rfl, rfl, hv, by rw [← rvs.length]; exact ej, ?_⟩
        have x := ext_upd (o := .lst (vs.set j v')) ea hv
        refine p f _ .non x (S.wr ea hv ⟨_, upd_same, ?_⟩) mk_non
        exact (rvs.set rv j).mono S x
      · exact absurd p id
    · rename_i kvs q
      split at p
      · rename_i hz
        obtain ⟨a, ea, rfl⟩ := rv_ref ro
        obtain rfl := rv_int ri
        obtain ⟨gs, hg, rg⟩ := S.dic ea q
        have x := ext_upd (o := .dK (putK gs (.inl k) v')) ea hg
        refine .inr ⟨a, _, rfl, DPut.k (k := .inl k) hg (by rw [← df_len rg]; exact hz), p f _ .non x (S.wr ea hg ⟨_, upd_same, ?_⟩) mk_non⟩
        have z := df_put rv (.inl k) rg
        exact ⟨z.1, z.2.mono S x⟩
      · exact absurd p id
    · exact absurd p id
  · rename_i n z
    split at p
    · rename_i kvs q
      split at p
      · rename_i hz
        obtain ⟨a, ea, rfl⟩ := rv_ref ro
        obtain rfl := rv_str ri
        obtain ⟨gs, hg, rg⟩ := S.dic ea q
        have x := ext_upd (o := .dK (putK gs (.inr z) v')) ea hg
        refine .inr ⟨a, _, rfl, DPut.k (k := .inr z) hg (by rw [← df_len rg]; exact hz), p f _ .non x (S.wr ea hg ⟨_, upd_same, ?_⟩) mk_non⟩
        have z := df_put rv (.inr z) rg
        exact ⟨z.1, z.2.mono S x⟩
      · exact absurd p id
    · exact absurd p id
  · exact absurd p id
/-- del o[i] -/
theorem st_del {tpos : Pos} (ha : PE X a (GoodE L X.K W da)) (hb : PE X b (GoodE L X.K W db)) : PS X (.Delete [.Subscript a b tpos] pos) (GoodS L X.K W (sDelIdx da db)) := by
  refine psImp (ps_ddel ha hb) fun D σ H ⟨f, ρ, h, S, E, p⟩ => ?_
  refine ⟨f, ρ, h, S, E, (PostS.onE (R := RV L X.K) E S p).imp fun o' H1 ⟨f1, o, h1, e1, X1, S1, E1, R1, p1⟩ => ?_⟩
  refine ⟨f1, ρ, h1, S1, E1, (PostS.onE (R := RV L X.K) E1 S1 p1).imp fun i' H2 ⟨f2, i, h2, e2, X2, S2, E2, R2, p2⟩ => ?_⟩
  unfold delIdx at p2
  split at p2
  · rename_i n
    split at p2
    · rename_i kvs q
      split at p2
      · rename_i k ek
        split at p2
        · rename_i hs
          obtain ⟨ad, ea, rfl⟩ := rv_ref (R1.mono S1 X2)
          obtain ⟨gs, hg, rg⟩ := S2.dic ea q
          refine ⟨ad, gs, k, rfl, hg, key_rel R2 ek, by rw [show valV gs k = dGet gs k from rfl, ← df_some rg k]; exact hs, ?_⟩
          have x := ext_upd (o := .dK (dropK gs k)) ea hg
          have z := df_drop k rg
          exact p2 f2 _ σ x (S2.wr ea hg ⟨_, upd_same, z.1, z.2.mono S2 x⟩) (E2.mono S2 x)
        · exact absurd p2 id
      · exact absurd p2 id
    · exact absurd p2 id
  · exact absurd p2 id
/-- {} -/
theorem s_dic0 : PE X (.Dict [] [] pos) (GoodE L X.K W eDic0) := by
  refine peImp pe_dnewK fun σ H Q ⟨f, ρ, h, S, E, p⟩ => ?_
  intro q hq
  exact p (put f h.length q) _ _ (ext_put S hq) (S.alloc hq ⟨[], upd_same, rfl, RVs.nil⟩) (mk_ref put_same)
theorem g_idx {D : Ends} {σ : L2.St} {H : Hp} {oi ii ei : ME} (G : GoodS L X.K W (sSetIdx oi ii ei) D σ H) : tAsg (GoodE L X.K W ei) (gSub (GoodE L X.K W oi) (GoodE L X.K W ii) rSetB) D σ H := by
  obtain ⟨f, ρ, h, S, E, p⟩ := G
  refine ⟨f, ρ, h, S, E, (PostS.onE (R := RV L X.K) E S p).imp fun v' H1 ⟨f1, v, h1, e1, X1, S1, E1, R1, p1⟩ => ?_⟩
  refine ⟨f1, ρ, h1, S1, E1, (PostS.onE (R := RV L X.K) E1 S1 p1).imp fun o' H2 ⟨f2, o, h2, e2, X2, S2, E2, R2, p2⟩ => ?_⟩
  refine ⟨f2, ρ, h2, S2, E2, (PostS.onE (R := RV L X.K) E2 S2 p2).imp fun i' H3 ⟨f3, i, h3, e3, X3, S3, E3, R3, p3⟩ => ?_⟩
  refine setIdx_ok (W := W) (σ := σ) (Q := fun _ H4 => D.nx σ H4) S3 (R2.mono S2 X3) R3 ((R1.mono S1 X2).mono S2 X3) ?_
  exact (PostS.onE (R := RV L X.K) E3 S3 p3).imp fun v' H4 ⟨f4, v4, h4, e4, X4, S4, E4, R4, p4⟩ => p4 f4 H4 σ (Ext.refl _ _) S4 E4
/-! ### in-place operators -/
theorem augop_ok {f : Nm} {h : Mem} {H : Hp} {σ : L2.St} {op : Operator} {x y : Val} {x' y' : V} {Q : VK} (S : Sim L X.K f h H) (rx : RV L X.K f H x x') (ry : RV L X.K f H y y') (p : PostG L X.K (RV L X.K) W f σ H Q (augop op x y h)) :
    ∀ (pins : List (Addr × Obj)) (s : Shared) (σ1 : L2.St) (v u : Value), Inv X pins σ1 H s → RelV x' v → RelV y' u → wpAny (model X.prog X.w) X.A (inplaceOp op v u) (EP X pins σ1 Q) X.xe s := by
  intro pins s σ1 v u I r1 r2
  unfold augop at p
  split at p
  · rename_i i j
    obtain rfl := rv_int rx
    obtain rfl := rv_int ry
    exact iop_add pins s σ1 H _ _ v u Q I r1 r2 ⟨i, j, rfl, rfl, now S (mk_int _) p⟩
  · rename_i i j
    split at p
    · rename_i hz
      obtain rfl := rv_str rx
      obtain rfl := rv_str ry
      exact iop_add_str pins s σ1 H _ _ v u Q I r1 r2 ⟨i, j, rfl, rfl, hz, now S (mk_str _) p⟩
    · exact absurd p id
  · split at p
    · rename_i n m _ _ xs ys e1 e2
      split at p
      · rename_i hz
        obtain ⟨a, ea, rfl⟩ := rv_ref rx
        obtain ⟨b, eb, rfl⟩ := rv_ref ry
        obtain ⟨vs, hv, rvs⟩ := S.lst ea e1
        obtain ⟨ws, hw, rws⟩ := S.lst eb e2
        refine iop_ext pins s σ1 H _ _ v u Q I r1 r2 ⟨a, b, vs, ws, rfl, rfl, hv, hw, by rw [← rvs.length, ← rws.length]; exact hz, ?_⟩
        have x := ext_upd (o := .lst (vs ++ ws)) ea hv
        exact p f _ _ x (S.wr ea hv ⟨_, upd_same, (rvs.append rws).mono S x⟩) (mk_ref ea)
      · exact absurd p id
    · exact absurd p id
  · rename_i i j
    obtain rfl := rv_int rx
    obtain rfl := rv_int ry
    exact iop_sub pins s σ1 H _ _ v u Q I r1 r2 ⟨i, j, rfl, rfl, now S (mk_int _) p⟩
  · exact absurd p id
def ipV (L : Lk) (K : PySem.W.Frag) (op : Operator) : TIp := fun x' y' H Q => ∃ f h x y, Sim L K f h H ∧ RV L K f H x x' ∧ RV L K f H y y' ∧ PostG L K (RV L K) WF f [] H Q (augop op x y h)
theorem augop_nox (op : Operator) (x y : Val) (h : Mem) : NoX (augop op x y h) := by
  unfold augop
  split <;> (try split) <;> (try split) <;> exact True.intro
theorem ipV_ok (op : Operator) : PIp X op (ipV L X.K op) := fun pins s σ H x' y' v u Q I r1 r2 ⟨f, h, x, y, S, rx, ry, p⟩ => augop_ok S rx ry p pins s σ v u I r1 r2
theorem st_aug {i : Nat} {x : Str} {op : Operator} {pos' : Pos} (hN : X.N.Nodup) (hi : X.N[i]? = some x) (hx : Loc X.env.scope x) (ha : PE X a (GoodE L X.K W da)) (hf : X.fn x = true ∨ X.env.scope.names.lookup x = some .local) :
    PS X (.AugAssign (.Name x pos') op a pos) (GoodS L X.K W (sAug i op da)) := by
  refine psImp (ps_aug hN hi hx ha (ipV_ok (L := L) op) hf) fun D σ H ⟨f, ρ, h, S, E, p⟩ => ?_
  unfold sAug at p
  split at p
  · rename_i xv ex
    obtain ⟨x', q, rx⟩ := E.at_ i xv ex
    refine ⟨x', q, f, ρ, h, S, E, (PostS.onE (R := RV L X.K) E S p).imp fun y' H1 ⟨f1, y, h1, e1, X1, S1, E1, R1, p1⟩ => ?_⟩
    refine ⟨f1, h1, xv, y, S1, rx.mono S X1, R1, ((PostS.onE (R := RV L X.K) E1 S1 p1).nox (augop_nox _ _ _ _)).imp fun z' H2 ⟨f2, z, h2, e2, X2, S2, E2, R2, p2⟩ => ?_⟩
    exact p2 f2 H2 _ (Ext.refl _ _) S2 (E2.set R2 i)
  · exact absurd p id
end
end Mp
set_option Elab.async false
set_option linter.all false
set_option maxRecDepth 100000
set_option maxHeartbeats 1000000
namespace Mp
open PySem PySem.Spec PyProof.Rows L2
section
variable {L : Lk} {X : Cx} {W : WX} {a b c : Expr} {da db dc : ME} {pos : Pos} {st : Stmt} {sts : List Stmt} {ms ns : MS}
theorem get_list : PGet X (rIxL X.K) := by
  intro pins s σ H o i ov iv Q I ro ri h
  obtain ⟨p, xs, k, z, rfl, rfl, hq, he, q⟩ := h
  cases ro
  obtain ⟨t, rfl⟩ := ri
  obtain ⟨its, r, pl, hz⟩ := I.list hq
  obtain ⟨j, h1, h2, h3, h4, h5⟩ := atI_get he
  obtain ⟨w, ew, rw'⟩ := r.get h2
  have hl := r.length
  have hn := line63
  have fin : EP X pins σ Q w s := ⟨z, H, I, rw', q⟩
  by_cases h0 : 0 ≤ k
  · have hj : k.toNat = j := by
      rw [seqIndex_of h0 h5] at h1
      exact Option.some.inj h1
    exact wpAny_getItem_list pl.isList h0 (by omega) (by rw [hj]; simpa using ew) fin
  · have hj : (k + (its.toArray.size : Int)).toNat = j := by
      rw [seqIndex_neg (by omega) h4] at h1
      rw [List.size_toArray, ← hl]
      exact Option.some.inj h1
    exact wpAny_getItem_list_neg pl.isList (by omega) (by rw [List.size_toArray] <;> omega) (by omega) (by rw [hj]; simpa using ew) fin
theorem st_augIdx {op : Operator} {tpos : Pos} (hu : X.A.units + 65 < cLine) (ha : PE X a (GoodE L X.K W da)) (hb : PE X b (GoodE L X.K W db)) (hc : PE X c (GoodE L X.K W dc))
    (hs : ∀ ov iv new, augStore b ov iv new = (do holding [new, ov, iv] (setItem ov iv new); release [new, ov, iv] []; pure .next)) :
    PS X (.AugAssign (.Subscript a b tpos) op c pos) (GoodS L X.K W (sAugIdx da db op dc)) := by
  refine psImp (ps_augS ha hb get_list hc (ipV_ok (L := L) op) (set_any hu) hs) fun D σ H ⟨f, ρ, h, S, E, p⟩ => ?_
  refine ⟨f, ρ, h, S, E, (PostS.onE (R := RV L X.K) E S p).imp fun o' H1 ⟨f1, o, h1, e1, X1, S1, E1, R1, p1⟩ => ?_⟩
  refine ⟨f1, ρ, h1, S1, E1, (PostS.onE (R := RV L X.K) E1 S1 p1).imp fun i' H2 ⟨f2, i, h2, e2, X2, S2, E2, R2, p2⟩ => ?_⟩
  have R1' := R1.mono S1 X2
  cases ei : idxL h2 o i with
  | none => rw [ei] at p2; exact absurd p2 id
  | some v =>
    rw [ei, Res.opt_some, onE_ok] at p2
    cases o with
    | ref n =>
      cases i with
      | int k =>
        simp only [idxL] at ei
        split at ei
        · rename_i xs q
          obtain ⟨ad, ea, rfl⟩ := rv_ref R1'
          obtain rfl := rv_int R2
          obtain ⟨vs, hv, rvs⟩ := S2.lst ea q
          obtain ⟨v', q1, q2⟩ := atI_rel rvs ei
          refine ⟨ad, vs, k, v', rfl, rfl, SqL.of hv, q1, ?_⟩
          refine ⟨f2, ρ, h2, S2, E2, (PostS.onE (R := RV L X.K) E2 S2 p2).imp fun y' H3 ⟨f3, y, h3, e3, X3, S3, E3, R3, p3⟩ => ?_⟩
          refine ⟨f3, h3, v, y, S3, q2.mono S2 X3, R3, ((PostS.onE (R := RV L X.K) E3 S3 p3).nox (augop_nox _ _ _ _)).imp fun z' H4 ⟨f4, z, h4, e4, X4, S4, E4, R4, p4⟩ => ?_⟩
          refine setIdx_ok (W := W) (σ := σ) (Q := fun _ H5 => D.nx σ H5) S4 ((R1'.mono S2 X3).mono S3 X4) ((R2.mono S2 X3).mono S3 X4) R4 ?_
          exact (PostS.onE (R := RV L X.K) E4 S4 p4).imp fun v' H5 ⟨f5, v5, h5, e5, X5, S5, E5, R5, p5⟩ => p5 f5 H5 σ (Ext.refl _ _) S5 E5
        · cases ei
      | _ => simp [idxL] at ei
    | _ => simp [idxL] at ei
theorem st_setIdx {tpos : Pos} (hu : X.A.units + 65 < cLine) (ha : PE X a (GoodE L X.K W da)) (hb : PE X b (GoodE L X.K W db)) (hc : PE X c (GoodE L X.K W dc)) (hs : swapsWithSole [.Subscript a b tpos] c pos.line X.env = pure false) (hw : swappedStores [.Subscript a b tpos] c X.env = pure none)
    (hg : ∀ v, assign (.Subscript a b tpos) X.env v = (do
      let ov ← holding [v] (eval a X.env)
      let iv ← holding [v, ov] (eval b X.env)
      standAt tpos
      holding [v, ov, iv] (setItem ov iv v)
      release [v, ov, iv] [])) : PS X (.Assign [.Subscript a b tpos] c pos) (GoodS L X.K W (sSetIdx da db dc)) :=
  psImp (ps_asg hc (pg_sub ha hb (set_any hu) hg) hs hw rfl) fun D σ H G => g_idx G
/-! ### targets -/
mutual
def tgS : Tg → List Nat
  | .nm i => [i]
  | .tp ts => tgSs ts
def tgSs : List Tg → List Nat
  | [] => []
  | t :: ts => tgS t ++ tgSs ts
end
/-- the slots ss alone may have changed -/
def Outs (ss : List Nat) (σ σ' : L2.St) : Prop := σ'.length = σ.length ∧ ∀ j, j ∉ ss → σ'[j]? = σ[j]?
theorem Outs.refl (σ : L2.St) : Outs [] σ σ := ⟨rfl, fun _ _ => rfl⟩
theorem Outs.trans {ss ts : List Nat} {σ σ1 σ2 : L2.St} (a : Outs ss σ σ1) (b : Outs ts σ1 σ2) : Outs (ss ++ ts) σ σ2 :=
  ⟨b.1.trans a.1, fun j hj => by
    rw [List.mem_append] at hj
    exact (b.2 j fun z => hj (.inr z)).trans (a.2 j fun z => hj (.inl z))⟩
theorem Outs.set (σ : L2.St) (i : Nat) (v : Option V) : Outs [i] σ (σ.set i v) := ⟨by simp, fun j hj => by
  rw [List.getElem?_set_ne]
  intro z
  exact hj (by simp [z])⟩
/-- what a target asks: t is the target's form -/
def GoodG (L : Lk) (K : PySem.W.Frag) (t : Tg) : TG := fun v' σ H Q => ∃ f ρ h v ρ', Sim L K f h H ∧ EnvR L K f H ρ σ ∧ RV L K f H v v' ∧ put1 t v ρ = some ρ' ∧ ∀ σ', EnvR L K f H ρ' σ' → Outs (tgS t) σ σ' → Q σ' H
def GoodGs (L : Lk) (K : PySem.W.Frag) (ts : List Tg) : TGs := fun vs' σ H Q => ∃ f ρ h vs ρ', Sim L K f h H ∧ EnvR L K f H ρ σ ∧ RVs L K f H vs vs' ∧ puts ts vs ρ = some ρ' ∧ ∀ σ', EnvR L K f H ρ' σ' → Outs (tgSs ts) σ σ' → Q σ' H
theorem pgImp {X : Cx} {e : Expr} {t t' : TG} (h : PG X e t) (i : ∀ v σ H Q, t' v σ H Q → t v σ H Q) : PG X e t' := ⟨fun pins s σ H v u Q I r q => h.run pins s σ H v u Q I r (i v σ H Q q)⟩
theorem pgsImp {X : Cx} {e : List Expr} {t t' : TGs} (h : PGs X e t) (i : ∀ v σ H Q, t' v σ H Q → t v σ H Q) : PGs X e t' := ⟨fun pins s σ H v u Q I r q => h.run pins s σ H v u Q I r (i v σ H Q q)⟩
theorem tg_name {i : Nat} {x : Str} (hN : X.N.Nodup) (hi : X.N[i]? = some x) (hx : Loc X.env.scope x) (hf : X.fn x = true ∨ X.env.scope.names.lookup x = some .local) : PG X (.Name x pos) (GoodG L X.K (.nm i)) := by
  refine pgImp (pg_name hN hi hx hf) fun v' σ H Q ⟨f, ρ, h, v, ρ', S, E, r, e, k⟩ => ?_
  unfold put1 at e
  cases e
  exact k _ (E.set r i) (by unfold tgS; exact Outs.set _ _ _)
theorem tg_nil : PGs X [] (GoodGs L X.K []) := by
  refine pgsImp pgs_nil fun vs' σ H Q ⟨f, ρ, h, vs, ρ', S, E, r, e, k⟩ => ?_
  cases vs with
  | nil => unfold RVs at r; unfold puts at e; cases e; exact ⟨r, k _ E (by unfold tgSs; exact Outs.refl _)⟩
  | cons v vs => unfold puts at e; cases e
theorem tg_cons {e : Expr} {es : List Expr} {t : Tg} {ts : List Tg} (h1 : PG X e (GoodG L X.K t)) (h2 : PGs X es (GoodGs L X.K ts)) (hs : (assignEach (e :: es) X.env).map (·.2) = assign e X.env :: (assignEach es X.env).map (·.2)) :
    PGs X (e :: es) (GoodGs L X.K (t :: ts)) := by
  refine pgsImp (pgs_cons h1 h2 hs) fun vs' σ H Q ⟨f, ρ, h, vs, ρ', S, E, r, e, k⟩ => ?_
  cases vs with
  | nil => unfold puts at e; cases e
  | cons v vs =>
    unfold puts at e
    cases q : put1 t v ρ with
    | none => rw [q] at e; cases e
    | some ρ1 =>
      rw [q] at e
      unfold RVs at r
      obtain ⟨v', r', rfl, r1, r2⟩ := r
      exact ⟨v', r', rfl, f, ρ, h, v, ρ1, S, E, r1, q, fun σ1 E1 o1 => ⟨f, ρ1, h, vs, ρ', S, E1, r2, e, fun σ2 E2 o2 => k σ2 E2 (by unfold tgSs; exact o1.trans o2)⟩⟩
theorem puts_len : ∀ {ts : List Tg} {vs : List Val} {ρ ρ' : Env}, puts ts vs ρ = some ρ' → vs.length = ts.length
  | [], [], _, _, _ => rfl
  | [], _ :: _, _, _, e => by unfold puts at e; cases e
  | _ :: _, [], _, _, e => by unfold puts at e; cases e
  | t :: ts, v :: vs, ρ, ρ', e => by
    unfold puts at e
    cases q : put1 t v ρ with
    | none => rw [q] at e; cases e
    | some ρ1 => rw [q] at e; rw [List.length_cons, List.length_cons, puts_len e]
theorem tg_tup {es : List Expr} {k : Nat} {ts : List Tg} (hc : X.calm = true) (h : PGs X es (GoodGs L X.K ts)) (hn : (assignEach es X.env).length = ts.length) (hst : (assignEach es X.env).findIdx? (·.1) = none) :
    PG X (.Tuple es k pos) (GoodG L X.K (.tp ts)) := by
  refine pgImp (pg_tup hc h hn hst) fun v' σ H Q ⟨f, ρ, h, v, ρ', S, E, r, e, kk⟩ => ?_
  cases v with
  | tup vs =>
    unfold put1 at e
    obtain ⟨a, vs', rfl, sa, ra⟩ := rv_tup r
    exact ⟨a, vs', rfl, sa, by rw [← ra.length, puts_len e], f, ρ, h, vs, ρ', S, E, ra, e, fun σ' E' o' => kk σ' E' (by unfold tgS; exact o')⟩
  | _ => unfold put1 at e; cases e
theorem st_asg {tg : Expr} {t : Tg} (ha : PE X a (GoodE L X.K W da)) (hg : PG X tg (GoodG L X.K t)) (hs : swapsWithSole [tg] a pos.line X.env = pure false) (hw : swappedStores [tg] a X.env = pure none) (h1 : (assignEach [tg] X.env).map (·.2) = [assign tg X.env]) :
    PS X (.Assign [tg] a pos) (GoodS L X.K W (sAsg t da)) := by
  refine psImp (ps_asg ha hg hs hw h1) fun D σ H ⟨f, ρ, h, S, E, p⟩ => ?_
  refine ⟨f, ρ, h, S, E, (PostS.onE (R := RV L X.K) E S p).imp fun v' H1 ⟨f1, v, h1, e1, X1, S1, E1, R1, p1⟩ => ?_⟩
  cases q : put1 t v ρ with
  | none => rw [q] at p1; exact absurd p1 id
  | some ρ1 =>
    rw [q] at p1
    exact ⟨f1, ρ, h1, v, ρ1, S1, E1, R1, q, fun σ1 E2 _ => p1 f1 H1 σ1 (Ext.refl _ _) S1 E2⟩
/-! ### what is walked -/
/-- J is walked as w tells, from (f, H) on -/
def WkR (L : Lk) (K : PySem.W.Frag) (f : Nm) (H : Hp) (w : Wk) (J : It) : Prop := ∀ f' h' H' i, Ext f f' H H' → Sim L K f' h' H' → match w.at_ i h' with
  | none => True
  | some none => J.stop i H'
  | some (some v) => J.go i H' ∧ ∀ x H'', J.yld i H' x H'' → Ext f' f' H' H'' ∧ Sim L K f' h' H'' ∧ RV L K f' H'' v x
def GoodI (L : Lk) (K : PySem.W.Frag) (W : WX) (m : MI) : TI := fun σ H R => ∃ f ρ h, Sim L K f h H ∧ EnvR L K f H ρ σ ∧ PostG L K (WkR L K) W f σ H R (m ρ h)
theorem piImp {X : Cx} {tg e : Expr} {t t' : TI} (h : PI X tg e t) (i : ∀ σ H R, t' σ H R → t σ H R) : PI X tg e t' := ⟨fun pins s σ H R I q => h.run pins s σ H R I (i σ H R q)⟩
theorem wkR_tup {K : PySem.W.Frag} {f : Nm} {h : Mem} {H : Hp} (S : Sim L K f h H) {a : Addr} {ts : List Val} {vs : List V} (sa : SqT K H a vs) (ra : RVs L K f H ts vs) : WkR L K f H (wkT ts) (Itt K a) := by
  intro f' h' H' i x S'
  have sa' := S.tupK x sa
  have ra' := ra.mono S x
  show match some ts[i]? with | none => True | some none => (Itt K a).stop i H' | some (some v) => _
  cases e : ts[i]? with
  | none => exact ⟨vs, sa', by rw [← ra'.length]; exact List.getElem?_eq_none_iff.mp e⟩
  | some v =>
    obtain ⟨v', q1, q2⟩ := ra'.get e
    refine ⟨⟨vs, v', sa', q1⟩, fun y H'' ⟨eH, ey⟩ => ?_⟩
    subst eH
    have := ey vs sa'
    rw [q1] at this
    cases this
    exact ⟨Ext.refl _ _, S', q2⟩
/-- what the list at n gives at a turn -/
theorem lst_at {K : PySem.W.Frag} {f' : Nm} {h' : Mem} {H' : Hp} (S' : Sim L K f' h' H') {n : Nat} {a : Addr} (ea : f' n = some a) {i k : Nat} : match (wkL n k).at_ i h' with
    | none => True
    | some none => ∃ vs, SqL K H' a vs ∧ vs.length ≤ i
    | some (some v) => ∃ vs v', SqL K H' a vs ∧ vs[i]? = some v' ∧ RV L K f' H' v v' := by
  unfold wkL
  dsimp only
  have fin : ∀ {xs : List Val}, (h'[n]? = some (.lst xs) ∨ h'[n]? = some (.rol xs)) → match some xs[i]? with
    | none => True
    | some none => ∃ vs, SqL K H' a vs ∧ vs.length ≤ i
    | some (some v) => ∃ vs v', SqL K H' a vs ∧ vs[i]? = some v' ∧ RV L K f' H' v v' := fun {xs} q => by
    obtain ⟨vs, sv, rv⟩ := S'.seq ea q
    cases e : xs[i]? with
    | none => exact ⟨vs, sv, by rw [← rv.length]; exact List.getElem?_eq_none_iff.mp e⟩
    | some v =>
      obtain ⟨v', q1, q2⟩ := rv.get e
      exact ⟨vs, v', sv, q1, q2⟩
  cases e : h'[n]? with
  | none => trivial
  | some o =>
    cases o with
    | lst xs => exact fin (.inl e)
    | ins c fs => trivial
    | rol xs => exact fin (.inr e)
    | dic kvs => trivial
    | frd kvs => trivial
theorem wkR_lst {K : PySem.W.Frag} {f : Nm} {H : Hp} {n k : Nat} {a : Addr} (ea : f n = some a) : WkR L K f H (wkL n k) (Itl K a) := by
  intro f' h' H' i x S'
  have z := lst_at S' (x.le n a ea) (i := i) (k := k)
  cases e : (wkL n k).at_ i h' with
  | none => trivial
  | some o =>
    rw [e] at z
    cases o with
    | none => exact z
    | some v =>
      obtain ⟨vs, v', sv, q1, q2⟩ := z
      refine ⟨⟨vs, v', sv, q1⟩, fun y H'' ⟨eH, ey⟩ => ?_⟩
      subst eH
      have := ey vs sv
      rw [q1] at this
      cases this
      exact ⟨Ext.refl _ _, S', q2⟩
theorem wkR_enum {K : PySem.W.Frag} {f : Nm} {H : Hp} {n k : Nat} {a : Addr} (ea : f n = some a) : WkR L K f H (wkE (wkL n k)) (Ite K a) := by
  intro f' h' H' i x S'
  have z := lst_at S' (x.le n a ea) (i := i) (k := k)
  unfold wkE
  dsimp only
  cases e : (wkL n k).at_ i h' with
  | none => trivial
  | some o =>
    rw [e] at z
    cases o with
    | none => exact z
    | some v =>
      obtain ⟨vs, v', sv, q1, q2⟩ := z
      refine ⟨⟨vs, v', sv, q1⟩, fun y H'' ⟨T, w, ey, hT, eH, ev⟩ => ?_⟩
      subst ey
      subst eH
      have := ev vs sv
      rw [q1] at this
      cases this
      exact ⟨ext_new hT, S'.out hT, mk_tup (SqT.of upd_same) ((RVs.cons (mk_int _) (RVs.cons q2 RVs.nil)).mono S' (ext_new hT))⟩
theorem wkR_zip {K : PySem.W.Frag} {f : Nm} {H : Hp} {n m k l : Nat} {a b : Addr} (ea : f n = some a) (eb : f m = some b) : WkR L K f H (wkZ (wkL n k) (wkL m l)) (Itz K a b) := by
  intro f' h' H' i x S'
  have z := lst_at S' (x.le n a ea) (i := i) (k := k)
  have y := lst_at S' (x.le m b eb) (i := i) (k := l)
  unfold wkZ
  dsimp only
  cases e : (wkL n k).at_ i h' with
  | none => trivial
  | some o =>
    rw [e] at z
    cases e2 : (wkL m l).at_ i h' with
    | none => cases o <;> trivial
    | some o2 =>
      rw [e2] at y
      cases o with
      | none =>
        obtain ⟨vs, sv, lv⟩ := z
        cases o2 with
        | none =>
          obtain ⟨ws, sw, lw⟩ := y
          exact ⟨vs, ws, sv, sw, .inl lv⟩
        | some w =>
          obtain ⟨ws, w', sw, _⟩ := y
          exact ⟨vs, ws, sv, sw, .inl lv⟩
      | some v =>
        obtain ⟨vs, v', sv, q1, q2⟩ := z
        cases o2 with
        | none =>
          obtain ⟨ws, sw, lw⟩ := y
          exact ⟨vs, ws, sv, sw, .inr lw⟩
        | some w =>
          obtain ⟨ws, w', sw, q3, q4⟩ := y
          refine ⟨⟨vs, ws, v', w', sv, sw, q1, q3⟩, fun u H'' ⟨T, p1, p2, eu, hT, eH, ev1, ev2⟩ => ?_⟩
          subst eu
          subst eH
          have t1 := ev1 vs sv
          have t2 := ev2 ws sw
          rw [q1] at t1
          rw [q3] at t2
          cases t1
          cases t2
          exact ⟨ext_new hT, S'.out hT, mk_tup (SqT.of upd_same) ((RVs.cons q2 (RVs.cons q4 RVs.nil)).mono S' (ext_new hT))⟩
theorem wkR_rng {K : PySem.W.Frag} {f : Nm} {H : Hp} {lo : Int} {n : Nat} : WkR L K f H (wkR lo n) (Itr lo n) := by
  intro f' h' H' i x S'
  unfold wkR
  dsimp only
  by_cases hi : i < n
  · rw [if_pos hi]
    refine ⟨hi, fun y H'' ⟨eH, ey⟩ => ?_⟩
    subst eH
    subst ey
    exact ⟨Ext.refl _ _, S', mk_int _⟩
  · rw [if_neg hi]
    exact Nat.le_of_not_lt hi
theorem wkR_str {K : PySem.W.Frag} {f : Nm} {H : Hp} {z : Str} : WkR L K f H (wkS z) (Its z) := by
  intro f' h' H' i x S'
  unfold wkS
  dsimp only
  cases e : z.cps[i]? with
  | none => exact Array.getElem?_eq_none_iff.mp e
  | some c =>
    refine ⟨(Array.getElem?_eq_some_iff.mp e).1, fun y H'' ⟨eH, c', ec, ey⟩ => ?_⟩
    subst eH
    subst ey
    rw [e] at ec
    cases ec
    exact ⟨Ext.refl _ _, S', mk_str _⟩
theorem i_val {tg : Expr} (ha : PE X a (GoodE L X.K W da)) : PI X tg a (GoodI L X.K W (iVal da)) := by
  refine ⟨fun pins s σ H R I ⟨f, ρ, h, S, E, p⟩ => ?_⟩
  unfold iVal at p
  have q := PostG.bind (R := RV L X.K) p
  cases e : da ρ h with
  | bad => rw [e] at q; exact absurd q id
  | exc c fs h1 =>
    refine (pi_list ha).run pins s σ H R I ⟨f, ρ, h, S, E, ?_⟩
    rw [e] at q ⊢
    exact q
  | ok v h1 =>
    rw [e] at q
    have bad : wkV h1 v = none → False := fun z => by
      rw [e, Res.bind_ok, z] at p
      exact p
    cases v with
    | tup ts =>
      refine (pi_tup ha).run pins s σ H R I ⟨f, ρ, h, S, E, ?_⟩
      rw [e]
      intro f1 H1 v' X1 S1 R1
      rw [e] at p
      obtain ⟨b, vs, rfl, sb, rb⟩ := rv_tup R1
      exact ⟨b, rfl, ⟨vs, sb⟩, p f1 H1 _ X1 S1 (wkR_tup S1 sb rb)⟩
    | str z =>
      refine (pi_str ha).run pins s σ H R I ⟨f, ρ, h, S, E, ?_⟩
      rw [e]
      intro f1 H1 v' X1 S1 R1
      rw [e] at p
      exact ⟨z, rv_str R1, p f1 H1 _ X1 S1 wkR_str⟩
    | ref n =>
      refine (pi_list ha).run pins s σ H R I ⟨f, ρ, h, S, E, ?_⟩
      rw [e]
      intro f1 H1 v' X1 S1 R1
      rw [e, Res.bind_ok] at p
      obtain ⟨b, eb, rfl⟩ := rv_ref R1
      simp only [wkV] at p
      cases eo : h1[n]? with
      | none => rw [eo] at p; exact absurd p id
      | some o =>
        rw [eo] at p
        cases o with
        | lst xs =>
          obtain ⟨vs, sv, rv⟩ := S1.seq eb (.inl eo)
          exact ⟨b, rfl, ⟨vs, sv⟩, p f1 H1 _ X1 S1 (wkR_lst eb)⟩
        | rol xs =>
          obtain ⟨vs, sv, rv⟩ := S1.seq eb (.inr eo)
          exact ⟨b, rfl, ⟨vs, sv⟩, p f1 H1 _ X1 S1 (wkR_lst eb)⟩
        | ins c fs => exact absurd p id
        | dic kvs => exact absurd p id
        | frd kvs => exact absurd p id
    | non => exact absurd (bad rfl) id
    | bl _ => exact absurd (bad rfl) id
    | int _ => exact absurd (bad rfl) id
    | fn _ => exact absurd (bad rfl) id
end
end Mp
set_option Elab.async false
set_option linter.all false
set_option maxRecDepth 100000
set_option maxHeartbeats 1000000
namespace Mp
open PySem PySem.Spec PyProof.Rows L2
section
variable {L : Lk} {X : Cx} {W : WX} {a b c : Expr} {da db dc : ME} {pos : Pos} {st : Stmt} {sts : List Stmt} {ms ns : MS}
theorem i_rng1 {tg : Expr} {p pos : Pos} (hg : Gl X "range") (hm : X.mg "range" = none) (ha : PE X a (GoodE L X.K W da)) (hs : starEach [a] X.env = [(false, eval a X.env)]) : PI X tg (.Call (.Name "range" p) [a] [] pos) (GoodI L X.K W (Mp.iRng1 da)) := by
  refine piImp (pi_range1 hg hm (pa_cons ha pa_nil hs) hs) fun σ H R ⟨f, ρ, h, S, E, p⟩ => ?_
  refine ⟨f, ρ, h, S, E, (PostG.bind (R := RV L X.K) p).imp fun x' H1 ⟨f1, x, h1, e1, X1, S1, R1, p1⟩ => ?_⟩
  cases x with
  | int j =>
    obtain rfl := rv_int R1
    dsimp only at p1
    split at p1
    · rename_i hz
      unfold small62 at hz
      rw [Bool.and_eq_true] at hz
      exact ⟨j, rfl, of_decide_eq_true hz.1, of_decide_eq_true hz.2, p1 f1 H1 _ (Ext.refl _ _) S1 wkR_rng⟩
    · exact absurd p1 id
  | _ => exact absurd p1 id
theorem i_rng2 {tg : Expr} {p pos : Pos} (hg : Gl X "range") (hm : X.mg "range" = none) (ha : PE X a (GoodE L X.K W da)) (hb : PE X b (GoodE L X.K W db)) (hs : starEach [a, b] X.env = [(false, eval a X.env), (false, eval b X.env)]) (hs2 : starEach [b] X.env = [(false, eval b X.env)]) :
    PI X tg (.Call (.Name "range" p) [a, b] [] pos) (GoodI L X.K W (Mp.iRng2 da db)) := by
  refine piImp (pi_range2 hg hm (pa_cons ha (pa_cons hb pa_nil hs2) (by rw [hs, hs2])) hs hs2) fun σ H R ⟨f, ρ, h, S, E, p⟩ => ?_
  refine ⟨f, ρ, h, S, E, (PostG.bind (R := RV L X.K) p).imp fun x' H1 ⟨f1, x, h1, e1, X1, S1, R1, p1⟩ => ?_⟩
  refine ⟨f1, ρ, h1, S1, E.mono S X1, (PostG.bind (R := RV L X.K) p1).imp fun y' H2 ⟨f2, y, h2, e2, X2, S2, R2, p2⟩ => ?_⟩
  have R1' := R1.mono S1 X2
  cases x with
  | int i =>
    cases y with
    | int j =>
      obtain rfl := rv_int R1'
      obtain rfl := rv_int R2
      dsimp only at p2
      split at p2
      · rename_i hz
        unfold small62 at hz
        simp only [Bool.and_eq_true, decide_eq_true_eq] at hz
        exact ⟨i, j, rfl, ⟨hz.1.1, hz.1.2, hz.2.1, hz.2.2⟩, p2 f2 H2 _ (Ext.refl _ _) S2 wkR_rng⟩
      · exact absurd p2 id
    | _ => exact absurd p2 id
  | _ => exact absurd p2 id
theorem lstB_ref {h : Mem} {v : Val} {w : Wk} (e : lstB h v = some w) : ∃ n xs, v = .ref n ∧ (h[n]? = some (.lst xs) ∨ h[n]? = some (.rol xs)) ∧ w = wkL n xs.length := by
  cases v with
  | ref n =>
    simp only [lstB] at e
    cases q : h[n]? with
    | none => rw [q] at e; cases e
    | some o =>
      rw [q] at e
      cases o with
      | lst xs => cases e; exact ⟨n, xs, rfl, .inl q, rfl⟩
      | rol xs => cases e; exact ⟨n, xs, rfl, .inr q, rfl⟩
      | ins c fs => cases e
      | dic kvs => cases e
      | frd kvs => cases e
  | _ => simp [lstB] at e
theorem i_enum {elts : List Expr} {kk : Nat} {tpos p pos : Pos} (hg : Gl X "enumerate") (hm : X.mg "enumerate" = none) (ha : PE X a (GoodE L X.K W da)) (hs : starEach [a] X.env = [(false, eval a X.env)]) :
    PI X (.Tuple elts kk tpos) (.Call (.Name "enumerate" p) [a] [] pos) (GoodI L X.K W (Mp.iEnum da)) := by
  refine piImp (pi_enum hg hm (pa_cons ha pa_nil hs) hs) fun σ H R ⟨f, ρ, h, S, E, p⟩ => ?_
  refine ⟨f, ρ, h, S, E, (PostG.bind (R := RV L X.K) p).imp fun x' H1 ⟨f1, x, h1, e1, X1, S1, R1, p1⟩ => ?_⟩
  cases ew : lstB h1 x with
  | none => rw [ew] at p1; exact absurd p1 id
  | some w =>
    rw [ew] at p1
    obtain ⟨n, xs, rfl, q, rfl⟩ := lstB_ref ew
    obtain ⟨b, eb, rfl⟩ := rv_ref R1
    obtain ⟨vs, sv, rv⟩ := S1.seq eb q
    exact ⟨b, vs, rfl, sv, p1 f1 H1 _ (Ext.refl _ _) S1 (wkR_enum eb)⟩
theorem i_zip {elts : List Expr} {kk : Nat} {tpos p pos : Pos} (hg : Gl X "zip") (hm : X.mg "zip" = none) (ha : PE X a (GoodE L X.K W da)) (hb : PE X b (GoodE L X.K W db)) (hs : starEach [a, b] X.env = (false, eval a X.env) :: starEach [b] X.env) (hs2 : starEach [b] X.env = [(false, eval b X.env)])
    (hpl : (backTo pos (starEach [b] X.env)).any (·.1) = false) : PI X (.Tuple elts kk tpos) (.Call (.Name "zip" p) [a, b] [] pos) (GoodI L X.K W (Mp.iZip da db)) := by
  refine piImp (pi_zip hg hm (pa_cons ha (pa_cons hb pa_nil hs2) hs) hs hpl) fun σ H R ⟨f, ρ, h, S, E, p⟩ => ?_
  refine ⟨f, ρ, h, S, E, (PostG.bind (R := RV L X.K) p).imp fun x' H1 ⟨f1, x, h1, e1, X1, S1, R1, p1⟩ => ?_⟩
  refine ⟨f1, ρ, h1, S1, E.mono S X1, (PostG.bind (R := RV L X.K) p1).imp fun y' H2 ⟨f2, y, h2, e2, X2, S2, R2, p2⟩ => ?_⟩
  have R1' := R1.mono S1 X2
  cases ew : lstB h2 x with
  | none => rw [ew] at p2; exact absurd p2 id
  | some w =>
    cases ez : lstB h2 y with
    | none => rw [ew, ez] at p2; exact absurd p2 id
    | some z =>
      rw [ew, ez] at p2
      obtain ⟨n, xs, rfl, q, rfl⟩ := lstB_ref ew
      obtain ⟨m, ys, rfl, q', rfl⟩ := lstB_ref ez
      obtain ⟨u, eu, rfl⟩ := rv_ref R1'
      obtain ⟨t, et, rfl⟩ := rv_ref R2
      obtain ⟨vs, sv, rv⟩ := S2.seq eu q
      obtain ⟨ws, sw, rw'⟩ := S2.seq et q'
      exact ⟨u, t, vs, ws, rfl, sv, sw, p2 f2 H2 _ (Ext.refl _ _) S2 (wkR_zip eu et)⟩
/-! ### for -/
theorem forF_eq (w : Wk) (t : Tg) (body els : MS) (fuel i : Nat) (ρ : Env) (h : Mem) : forF w t body els fuel i ρ h = (match w.at_ i h with
    | none => .bad
    | some none => els ρ h
    | some (some v) => match fuel with
      | 0 => .bad
      | fuel + 1 => match put1 t v ρ with
        | none => .bad
        | some ρ1 => match body ρ1 h with
          | .ok (.nx ρ2) h2 => forF w t body els fuel (i + 1) ρ2 h2
          | .ok (.ct ρ2) h2 => forF w t body els fuel (i + 1) ρ2 h2
          | .ok (.bk ρ2) h2 => .ok (.nx ρ2) h2
          | r => r) := by
  rw [forF.eq_def]
  all_goals rfl
theorem st_for {tg iter : Expr} {t : Tg} {mi : MI} {mb me : MS} {body els : List Stmt} (hp : PassesOwn (model X.prog X.w) X.A X.env X.xe) (hc : X.calm = true) (hi : PI X tg iter (GoodI L X.K W mi)) (hg : PG X tg (GoodG L X.K t)) (hb : PSs X body (GoodS L X.K W mb))
    (ho : PSs X els (GoodS L X.K W me)) (hs : ∀ x, foldedSetIterable iter X.env x = pure x) : PS X (.For tg iter body els pos) (GoodS L X.K W (sFor t mi mb me)) := by
  refine psImp (ps_forE hp hc hi hg hb ho hs) fun D σ H ⟨f, ρ, h, S, E, p⟩ => ?_
  refine ⟨f, ρ, h, S, E, (PostS.onE (R := WkR L X.K) E S p).imp fun J H1 ⟨f1, w, h1, e1, X1, S1, E1, R1, p1⟩ => ?_⟩
  refine ⟨fun i m σ' H' => ∃ f' ρ' h', Ext f1 f' H1 H' ∧ Sim L X.K f' h' H' ∧ EnvR L X.K f' H' ρ' σ' ∧ PostS L X.K W D f' H' (forF w t mb me m i ρ' h'), ⟨w.fuel, f1, ρ, h1, Ext.refl _ _, S1, E1, p1⟩, ?_⟩
  rintro i m σ' H' ⟨f', ρ', h', X', S', E', p'⟩
  have z := R1 f' h' H' i X' S'
  rw [forF_eq] at p'
  cases ea : w.at_ i h' with
  | none => rw [ea] at p'; exact absurd p' id
  | some o =>
    rw [ea] at p' z
    cases o with
    | none => exact .inl ⟨z, f', ρ', h', S', E', p'⟩
    | some v =>
      obtain ⟨zg, zy⟩ := z
      cases m with
      | zero => exact absurd p' id
      | succ m =>
        dsimp only at p'
        cases eρ : put1 t v ρ' with
        | none => rw [eρ] at p'; exact absurd p' id
        | some ρ1 =>
          rw [eρ] at p'
          dsimp only at p'
          refine .inr ⟨zg, fun σ2 H2 => ∃ f2 ρ2 h2, Ext f1 f2 H1 H2 ∧ Sim L X.K f2 h2 H2 ∧ EnvR L X.K f2 H2 ρ2 σ2 ∧ PostS L X.K W D f2 H2 (forF w t mb me m (i + 1) ρ2 h2), fun σ2 H2 q => ⟨m, Nat.lt_succ_self _, q⟩, fun x H'' y => ?_⟩
          obtain ⟨X2, S2, R2⟩ := zy x H'' y
          refine ⟨f', ρ', h', v, ρ1, S2, E'.mono S' X2, R2, eρ, fun σ1 E1' _ => ⟨f', ρ1, h', S2, E1', ?_⟩⟩
          have p2 := PostS.ext p' X2
          cases eb : mb ρ1 h' with
          | ok v h2 =>
            rw [eb] at p2
            cases v with
            | nx ρ2 => exact fun f3 H3 σ3 X3 S3 E3 => ⟨f3, ρ2, h2, X'.trans (X2.trans X3), S3, E3, PostS.ext p2 X3⟩
            | ct ρ2 => exact fun f3 H3 σ3 X3 S3 E3 => ⟨f3, ρ2, h2, X'.trans (X2.trans X3), S3, E3, PostS.ext p2 X3⟩
            | bk ρ2 => exact p2
            | rt v => exact p2
            | xc ρ2 c fs => exact p2
          | exc c fs h2 => rw [eb] at p2; exact p2
          | bad => rw [eb] at p2; exact p2
theorem whileF_eq (t : MT) (body els : MS) (fuel : Nat) (ρ : Env) (h : Mem) : whileF t body els fuel ρ h = onE (t ρ h) ρ fun k h => if k = true then (match fuel with
    | 0 => .bad
    | fuel + 1 => match body ρ h with
      | .ok (.nx ρ2) h2 => whileF t body els fuel ρ2 h2
      | .ok (.ct ρ2) h2 => whileF t body els fuel ρ2 h2
      | .ok (.bk ρ2) h2 => .ok (.nx ρ2) h2
      | r => r) else els ρ h := by
  rw [whileF.eq_def]
  all_goals rfl
theorem st_while {t : Expr} {mt : MT} {mb me : MS} {body els : List Stmt} {fuel : Nat} (hp : PassesOwn (model X.prog X.w) X.A X.env X.xe) (hc : PT X t (GoodT L X.K W mt)) (hb : PSs X body (GoodS L X.K W mb)) (ho : PSs X els (GoodS L X.K W me)) :
    PS X (.While t body els pos) (GoodS L X.K W (sWhile fuel mt mb me)) := by
  refine psImp (ps_whileE hp hc hb ho) fun D σ H ⟨f, ρ, h, S, E, p⟩ => ?_
  refine ⟨fun m σ' H' => ∃ f' ρ' h', Ext f f' H H' ∧ Sim L X.K f' h' H' ∧ EnvR L X.K f' H' ρ' σ' ∧ PostS L X.K W D f' H' (whileF mt mb me m ρ' h'), ⟨fuel, f, ρ, h, Ext.refl _ _, S, E, p⟩, ?_⟩
  rintro m σ' H' ⟨f', ρ', h', X', S', E', p'⟩
  rw [whileF_eq] at p'
  refine ⟨f', ρ', h', S', E', (PostS.onE (R := RB) E' S' p').imp fun k' H1 ⟨f1, k, h1, e1, X1, S1, E1, R1, p1⟩ => ?_⟩
  obtain rfl : k = k' := R1
  cases k with
  | false => rw [if_neg Bool.false_ne_true]; rw [if_neg Bool.false_ne_true] at p1; exact ⟨f1, ρ', h1, S1, E1, p1⟩
  | true =>
    rw [if_pos rfl]; rw [if_pos rfl] at p1
    cases m with
    | zero => exact absurd p1 id
    | succ m =>
      dsimp only at p1
      refine ⟨fun σ2 H2 => ∃ f2 ρ2 h2, Ext f f2 H H2 ∧ Sim L X.K f2 h2 H2 ∧ EnvR L X.K f2 H2 ρ2 σ2 ∧ PostS L X.K W D f2 H2 (whileF mt mb me m ρ2 h2), fun σ2 H2 q => ⟨m, Nat.lt_succ_self _, q⟩, f1, ρ', h1, S1, E1, ?_⟩
      cases eb : mb ρ' h1 with
      | ok v h2 =>
        rw [eb] at p1
        cases v with
        | nx ρ2 => exact fun f3 H3 σ3 X3 S3 E3 => ⟨f3, ρ2, h2, X'.trans (X1.trans X3), S3, E3, PostS.ext p1 X3⟩
        | ct ρ2 => exact fun f3 H3 σ3 X3 S3 E3 => ⟨f3, ρ2, h2, X'.trans (X1.trans X3), S3, E3, PostS.ext p1 X3⟩
        | bk ρ2 => exact p1
        | rt v => exact p1
        | xc ρ2 c fs => exact p1
      | exc c fs h2 => rw [eb] at p1; exact p1
      | bad => rw [eb] at p1; exact p1
/-! ### comprehensions -/
theorem wipe_get : ∀ (vs : List Nat) (σ : L2.St) (j : Nat), (wipe σ vs)[j]? = if j ∈ vs then (if j < σ.length then some none else none) else σ[j]?
  | [], σ, j => by simp [wipe]
  | v :: vs, σ, j => by
    unfold wipe
    by_cases hv : v = j
    · subst hv
      rw [List.getElem?_set_self', wipe_get vs σ v]
      by_cases hl : v < σ.length
      · simp [hl]
        by_cases hm : v ∈ vs
        · simp [hm, hl]
        · simp [hm, hl]
      · simp [hl]
    · rw [List.getElem?_set_ne hv, wipe_get vs σ j]
      have : (j ∈ v :: vs) ↔ j ∈ vs := by
        constructor
        · intro z
          rcases List.mem_cons.mp z with z | z
          · exact absurd z.symm hv
          · exact z
        · exact List.mem_cons_of_mem _
      simp only [this]
theorem wipe_outs {vs ss : List Nat} {σ σ2 : L2.St} (hs : ∀ j ∈ ss, j ∈ vs) (o : Outs ss (wipe σ vs) σ2) : wipe σ2 vs = wipe σ vs := by
  refine List.ext_getElem? fun j => ?_
  rw [wipe_get, wipe_get]
  have hl : σ2.length = σ.length := o.1.trans (wipe_length σ vs)
  by_cases hj : j ∈ vs
  · rw [if_pos hj, if_pos hj, hl]
  · rw [if_neg hj, if_neg hj, o.2 j fun z => hj (hs j z), wipe_get, if_neg hj]
theorem EnvR.wipe {K : PySem.W.Frag} {f : Nm} {H : Hp} {ρ : Env} {σ : L2.St} (E : EnvR L K f H ρ σ) : ∀ vs : List Nat, EnvR L K f H (wipeE ρ vs) (L2.wipe σ vs)
  | [] => E
  | v :: vs => by
    have I := EnvR.wipe E vs
    unfold wipeE L2.wipe
    refine ⟨by rw [List.length_set, List.length_set, I.len], fun i w e => ?_⟩
    by_cases hi : v = i
    · subst hi
      rw [List.getElem?_set_self'] at e
      cases q : (wipeE ρ vs)[v]? with
      | none => rw [q] at e; simp at e
      | some _ => rw [q] at e; simp at e
    · rw [List.getElem?_set_ne hi] at e
      obtain ⟨w', q, r⟩ := I.at_ i w e
      exact ⟨w', by rw [List.getElem?_set_ne hi]; exact q, r⟩
theorem lcF_eq (w : Wk) (t : Tg) (c : MT) (elt : ME) (ρ : Env) (fuel i : Nat) (acc : List Val) (h : Mem) : lcF w t c elt ρ fuel i acc h = (match w.at_ i h with
    | none => .bad
    | some none => .ok acc h
    | some (some v) => match fuel with
      | 0 => .bad
      | fuel + 1 => match put1 t v ρ with
        | none => .bad
        | some ρ1 => match c ρ1 h with
          | .ok true h2 => (match elt ρ1 h2 with
            | .ok y h3 => if acc.length < sizeLine then lcF w t c elt ρ fuel (i + 1) (acc ++ [y]) h3 else .bad
            | _ => .bad)
          | .ok false h2 => lcF w t c elt ρ fuel (i + 1) acc h2
          | _ => .bad) := by
  rw [lcF.eq_def]
  all_goals rfl
theorem good_lc {t : Tg} {mi : MI} {mc : MT} {me : ME} {vs : List Nat} (hvs : ∀ j ∈ tgS t, j ∈ vs) {σ : L2.St} {H : Hp} {Q : VK} (G : GoodE L X.K W (eLc vs t mi mc me) σ H Q) :
    tLc (GoodI L X.K W mi) (GoodG L X.K t) (GoodT L X.K WF mc) (GoodE L X.K WF me) vs σ H Q := by
  obtain ⟨f, ρ, h, S, E, p⟩ := G
  refine ⟨f, ρ, h, S, E, (PostG.bind (R := WkR L X.K) p).imp fun J H1 ⟨f1, w, h1, e1, X1, S1, R1, p1⟩ => ?_⟩
  intro D hD
  have E1 := E.mono S X1
  refine ⟨fun i m H' => ∃ f' h' acc ys, Ext f1 f' H1 H' ∧ Sim L X.K f' h' H' ∧ H' D = some (.lst ys) ∧ (∀ n, f' n ≠ some D) ∧ RVs L X.K f' H' acc ys ∧ PostG L X.K (RV L X.K) W f1 σ H1 Q ((lcF w t mc me (wipeE ρ vs) m i acc h').bind newL),
    ⟨w.fuel, f1, h1, [], [], ext_new hD, S1.out hD, upd_same, fun n z => ?_, RVs.nil, p1⟩, ?_⟩
  · obtain ⟨o, _, r⟩ := S1.at_ n D z
    obtain ⟨q, e⟩ := r.some
    rw [hD] at e; cases e
  rintro i m H' ⟨f', h', acc, ys, X', S', hD', nD, ra, p'⟩
  have z := R1 f' h' H' i X' S'
  rw [lcF_eq] at p'
  cases ea : w.at_ i h' with
  | none => rw [ea] at p'; exact absurd p' id
  | some o =>
    rw [ea] at p' z
    cases o with
    | none =>
      refine .inl ⟨z, ?_⟩
      dsimp only at p'
      rw [Res.bind_ok] at p'
      unfold newL at p'
      split at p'
      · -- the new list enters the memory
        have le : ∀ n a, f' n = some a → put f' h'.length D n = some a := fun n a e => by
          unfold put
          rw [if_neg (fun y => by rw [y, S'.fresh] at e; cases e)]
          exact e
        have Sn : Sim L X.K (put f' h'.length D) (h' ++ [.lst acc]) H' := by
          refine ⟨fun n m a q1 q2 => ?_, fun n hn => ?_, fun n a q => ?_⟩
          · unfold put at q1 q2
            split at q1 <;> split at q2
            · rename_i u1 u2; rw [u1, u2]
            · cases q1; exact absurd q2 (nD m)
            · cases q2; exact absurd q1 (nD n)
            · exact S'.inj n m a q1 q2
          · unfold put
            by_cases y : n = h'.length
            · exact ⟨D, by rw [if_pos y]⟩
            · rw [if_neg y]
              exact S'.has n (by rw [List.length_append, List.length_singleton] at hn; omega)
          · by_cases y : n = h'.length
            · subst y
              rw [put_same] at q
              cases q
              exact ⟨.lst acc, by simp, ys, hD', RVs.mono2 le (fun _ _ e => e) _ _ ra⟩
            · have q' : f' n = some a := by unfold put at q; rwa [if_neg y] at q
              obtain ⟨o', e', r'⟩ := S'.at_ n a q'
              refine ⟨o', by rw [List.getElem?_append_left (S'.lt q')]; exact e', ?_⟩
              cases o' with
              | lst xs =>
                obtain ⟨us, q, z⟩ := r'
                exact ⟨us, q, RVs.mono2 le (fun _ _ e => e) _ _ z⟩
              | ins c fs =>
                obtain ⟨dx, gs, q, z1, z2⟩ := r'
                exact ⟨dx, gs, q, z1, RVs.mono2 le (fun _ _ e => e) _ _ z2⟩
              | rol xs =>
                obtain ⟨o, us, q, z⟩ := r'
                exact ⟨o, us, q, RVs.mono2 le (fun _ _ e => e) _ _ z⟩
              | dic kvs =>
                obtain ⟨gs, q, z1, z2⟩ := r'
                exact ⟨gs, q, z1, RVs.mono2 le (fun _ _ e => e) _ _ z2⟩
              | frd kvs =>
                obtain ⟨o, gs, q, z1, z2⟩ := r'
                exact ⟨o, gs, q, z1, RVs.mono2 le (fun _ _ e => e) _ _ z2⟩
        refine p' (put f' h'.length D) H' (.ref D) ⟨fun n a e => le n a (X'.le n a e), fun n a e => ?_, X'.keep, X'.trk, X'.frz⟩ Sn (mk_ref put_same)
        unfold put at e
        split at e
        · cases e; exact .inr hD
        · exact X'.new n a e
      · exact absurd p' id
    | some v =>
      obtain ⟨zg, zy⟩ := z
      cases m with
      | zero => exact absurd p' id
      | succ m =>
        dsimp only at p'
        cases eρ : put1 t v (wipeE ρ vs) with
        | none => rw [eρ] at p'; exact absurd p' id
        | some ρ1 =>
          rw [eρ] at p'
          dsimp only at p'
          refine .inr ⟨zg, fun H2 => ∃ f' h' acc ys, Ext f1 f' H1 H2 ∧ Sim L X.K f' h' H2 ∧ H2 D = some (.lst ys) ∧ (∀ n, f' n ≠ some D) ∧ RVs L X.K f' H2 acc ys ∧ PostG L X.K (RV L X.K) W f1 σ H1 Q ((lcF w t mc me (wipeE ρ vs) m (i + 1) acc h').bind newL),
            fun H2 q => ⟨m, Nat.lt_succ_self _, q⟩, fun x H'' y => ?_⟩
          obtain ⟨X2, S2, R2⟩ := zy x H'' y
          have E2 : EnvR L X.K f' H'' (wipeE ρ vs) (wipe σ vs) := ((E1.mono S1 X').mono S' X2).wipe vs
          refine ⟨f', wipeE ρ vs, h', v, ρ1, S2, E2, R2, eρ, fun σ2 E3 o2 => ⟨wipe_outs hvs o2, ?_⟩⟩
          have keepD : ∀ {fa fb : Nm} {Ha Hb : Hp} {zs : List V}, Ext fa fb Ha Hb → Ha D = some (.lst zs) → (∀ n, fa n ≠ some D) → Hb D = some (.lst zs) ∧ ∀ n, fb n ≠ some D := fun {fa fb Ha Hb zs} x q nq =>
            ⟨x.keep _ _ q nq, fun n e => by
              rcases x.new n D e with u | u
              · exact nq n u
              · rw [q] at u; cases u⟩
          obtain ⟨hD2, nD2⟩ := keepD X2 hD' nD
          have ra2 := ra.mono S' X2
          cases ec : mc ρ1 h' with
          | bad => rw [ec] at p'; exact absurd p' id
          | exc c fs h2 => rw [ec] at p'; exact absurd p' id
          | ok k h2 =>
            refine ⟨f', ρ1, h', S2, E3, ?_⟩
            rw [ec] at p' ⊢
            intro f3 H3 k' X3 S3 rk
            obtain rfl : k = k' := rk
            obtain ⟨hD3, nD3⟩ := keepD X3 hD2 nD2
            have ra3 := ra2.mono S2 X3
            cases k with
            | false =>
              rw [if_neg Bool.false_ne_true]
              exact ⟨f3, h2, acc, ys, X'.trans (X2.trans X3), S3, hD3, nD3, ra3, p'⟩
            | true =>
              rw [if_pos rfl]
              dsimp only at p'
              refine ⟨f3, ρ1, h2, S3, E3.mono S2 X3, ?_⟩
              cases ee : me ρ1 h2 with
              | bad => rw [ee] at p'; exact absurd p' id
              | exc c fs h4 => rw [ee] at p'; exact absurd p' id
              | ok y h4 =>
                rw [ee] at p'
                dsimp only at p'
                intro f4 H4 y' X4 S4 ry
                obtain ⟨hD4, nD4⟩ := keepD X4 hD3 nD3
                have ra4 := ra3.mono S3 X4
                split at p'
                · rename_i hz
                  refine ⟨ys, hD4, by rw [← ra4.length]; exact hz, f4, h4, acc ++ [y], ys ++ [y'], ?_, S4.outUpd hD4 nD4, upd_same, nD4, ?_, p'⟩
                  · have X5 := X'.trans (X2.trans (X3.trans X4))
                    refine ⟨X5.le, X5.new, fun a o q nq => ?_, fun a o q => ?_, fun a o u q => ?_⟩
                    · have na : a ≠ D := fun e => by rw [e, hD] at q; cases q
                      rw [upd_ne na]
                      exact X5.keep a o q nq
                    · by_cases na : a = D
                      · exact ⟨_, by rw [na, upd_same]⟩
                      · rw [upd_ne na]
                        exact X5.trk a o q
                    · have na : a ≠ D := fun e => by rw [e, hD] at q; cases q
                      rw [upd_ne na]
                      exact X5.frz a o u q
                  · exact RVs.mono2 (fun _ _ e => e) (tupOut hD4) _ _ (ra4.append (RVs.cons ry RVs.nil))
                · exact absurd p' id
/-! ### the keys of a locked dict -/
theorem wkR_key {K : PySem.W.Frag} {f : Nm} {H : Hp} {n k : Nat} {a : Addr} {o : Obj} {gs : List (Key × V)} (ea : f n = some a) (hg : H a = some (.frz o (.dK gs))) : WkR L K f H (wkK n k) (Itk a o gs) := by
  intro f' h' H' i x S'
  have hg' := x.frz a o _ hg
  have ea' := x.le n a ea
  unfold wkK
  dsimp only
  cases e : h'[n]? with
  | none => trivial
  | some ob =>
    cases ob with
    | frd kvs =>
      obtain ⟨o2, gs2, hg2, rg⟩ := S'.frd ea' e
      rw [hg'] at hg2
      cases hg2
      have ln := df_len rg
      cases ek : kvs[i]? with
      | none =>
        simp only [ek, Option.map_none]
        exact ⟨hg', by rw [← ln]; exact List.getElem?_eq_none_iff.mp ek⟩
      | some kv =>
        simp only [ek, Option.map_some]
        have hi : i < kvs.length := (List.getElem?_eq_some_iff.mp ek).1
        refine ⟨⟨hg', by rw [← ln]; exact hi⟩, fun y H'' ⟨eH, kk, vv, eg, ey⟩ => ?_⟩
        subst eH
        subst ey
        refine ⟨Ext.refl _ _, S', ?_⟩
        have e1 : (kvs.map (·.1))[i]? = some kv.1 := by rw [List.getElem?_map, ek]; rfl
        rw [rg.1, List.getElem?_map, eg] at e1
        have : kk = kv.1 := by simpa using e1
        rw [this]
        show RV L K f' H'' (keyV kv.1) (kV kv.1)
        cases kv.1 with
        | inl i => exact mk_int i
        | inr z => exact mk_str z
    | _ => trivial
theorem i_key {tg : Expr} (ha : PE X a (GoodE L X.K W da)) : PI X tg a (GoodI L X.K W (iKey da)) := by
  refine piImp (pi_keys ha) fun σ H R ⟨f, ρ, h, S, E, p⟩ => ?_
  refine ⟨f, ρ, h, S, E, (PostG.bind (R := RV L X.K) p).imp fun x' H1 ⟨f1, x, h1, e1, X1, S1, R1, p1⟩ => ?_⟩
  cases x with
  | ref n =>
    obtain ⟨b, eb, rfl⟩ := rv_ref R1
    dsimp only at p1
    split at p1
    · rename_i kvs eo
      obtain ⟨o, gs, hg, rg⟩ := S1.frd eb eo
      exact ⟨b, o, rfl, .inl ⟨gs, hg, p1 f1 H1 _ (Ext.refl _ _) S1 (wkR_key eb hg)⟩⟩
    · exact absurd p1 id
  | _ => exact absurd p1 id
/-! ### locks -/
theorem dicAt_some {ρ : Env} {h : Mem} {i n : Nat} {kvs : List (Key × Val)} (e : dicAt ρ h i = some (n, kvs)) : ρ[i]? = some (some (.ref n)) ∧ h[n]? = some (.dic kvs) := by
  unfold dicAt at e
  split at e
  · rename_i m em
    split at e
    · rename_i ks ek
      cases e
      exact ⟨em, ek⟩
    · cases e
  · cases e
/-- the locked memory, and back -/
theorem lock_sim {K : PySem.W.Frag} {f : Nm} {h : Mem} {H : Hp} {n : Nat} {a : Addr} {kvs : List (Key × Val)} {gs : List (Key × V)} {od : Obj} (S : Sim L K f h H) (ea : f n = some a) (hg : H a = some (.dK gs)) (rg : RFs L K f H kvs gs) :
    Ext f f H (upd H a (.frz od (.dK gs))) ∧ Sim L K f (h.set n (.frd kvs)) (upd H a (.frz od (.dK gs))) := by
  have x : Ext f f H (upd H a (.frz od (.dK gs))) := ext_upd ea hg
  exact ⟨x, S.wr ea hg ⟨od, gs, upd_same, rg.1, rg.2.mono S x⟩⟩
theorem unlock_sim {K : PySem.W.Frag} {f f' : Nm} {h' : Mem} {H H' : Hp} {n : Nat} {a : Addr} {kvs : List (Key × Val)} {gs : List (Key × V)} {od : Obj} (ea : f n = some a) (hg : H a = some (.dK gs)) (X1 : Ext f f' (upd H a (.frz od (.dK gs))) H') (S : Sim L K f' h' H') (eo : h'[n]? = some (.frd kvs)) :
    H' a = some (.frz od (.dK gs)) ∧ Ext f f' H (upd H' a (.dK gs)) ∧ Sim L K f' (h'.set n (.dic kvs)) (upd H' a (.dK gs)) ∧ ∀ t v, RV L K f' H' t v → RV L K f' (upd H' a (.dK gs)) t v := by
  have hl : H' a = some (.frz od (.dK gs)) := X1.frz a od _ upd_same
  have ea' := X1.le n a ea
  have tp : ∀ b vs, SqT K H' b vs → SqT K (upd H' a (.dK gs)) b vs := fun b vs e => by
    rcases e with e | e
    · have nb : b ≠ a := fun z => by
        rw [z] at e
        rcases e with e | ⟨q, e⟩ <;> rw [hl] at e <;> cases e
      refine .inl ?_
      rcases e with e | ⟨q, e⟩
      · exact .inl (by rw [upd_ne nb]; exact e)
      · exact .inr ⟨q, by rw [upd_ne nb]; exact e⟩
    · exact .inr e
  have mono : ∀ t v, RV L K f' H' t v → RV L K f' (upd H' a (.dK gs)) t v := fun t v r => RV.mono2 (fun _ _ e => e) tp t v r
  have monos : ∀ t v, RVs L K f' H' t v → RVs L K f' (upd H' a (.dK gs)) t v := fun t v r => RVs.mono2 (fun _ _ e => e) tp t v r
  refine ⟨hl, ⟨X1.le, fun m b e => ?_, fun b o e nb => ?_, fun b o e => ?_, fun b o u e => ?_⟩, ⟨S.inj, fun m hm => S.has m (by rwa [List.length_set] at hm), fun m b z => ?_⟩, mono⟩
  · rcases X1.new m b e with q | q
    · exact .inl q
    · by_cases w : b = a
      · rw [w, upd_same] at q; cases q
      · rw [upd_ne w] at q; exact .inr q
  · have w : b ≠ a := fun w => nb n (by rw [w]; exact ea)
    rw [upd_ne w]
    exact X1.keep b o (by rw [upd_ne w]; exact e) nb
  · by_cases w : b = a
    · exact ⟨_, by rw [w, upd_same]⟩
    · rw [upd_ne w]
      exact X1.trk b o (by rw [upd_ne w]; exact e)
  · have w : b ≠ a := fun w => by rw [w, hg] at e; cases e
    rw [upd_ne w]
    exact X1.frz b o u (by rw [upd_ne w]; exact e)
  · by_cases w : m = n
    · subst w
      rw [ea'] at z; cases z
      obtain ⟨o2, gs2, hg2, r1, r2⟩ := S.frd ea' eo
      rw [hl] at hg2
      cases hg2
      exact ⟨.dic kvs, by rw [List.getElem?_set_self (S.lt ea')], gs, upd_same, r1, monos _ _ r2⟩
    · have nb : b ≠ a := fun y => w (S.inj m n a (y ▸ z) ea')
      obtain ⟨o', q', r'⟩ := S.at_ m b z
      refine ⟨o', by rw [List.getElem?_set_ne (Ne.symm w)]; exact q', ?_⟩
      cases o' with
      | lst xs =>
        obtain ⟨vs, q, z⟩ := r'
        exact ⟨vs, by rw [upd_ne nb]; exact q, monos _ _ z⟩
      | ins c fs =>
        obtain ⟨dx, gs, q, z1, z2⟩ := r'
        exact ⟨dx, gs, by rw [upd_ne nb]; exact q, z1, monos _ _ z2⟩
      | rol xs =>
        obtain ⟨o, vs, q, z⟩ := r'
        exact ⟨o, vs, by rw [upd_ne nb]; exact q, monos _ _ z⟩
      | dic kvs =>
        obtain ⟨gs, q, z1, z2⟩ := r'
        exact ⟨gs, by rw [upd_ne nb]; exact q, z1, monos _ _ z2⟩
      | frd kvs =>
        obtain ⟨o, gs, q, z1, z2⟩ := r'
        exact ⟨o, gs, by rw [upd_ne nb]; exact q, z1, monos _ _ z2⟩
theorem s_lk {e : Expr} {i : Nat} {m : ME} (h : PE X e (GoodE L X.K W m)) : PE X e (GoodE L X.K W (eLk i m)) := by
  refine peImp (pe_lock h) fun σ H Q ⟨f, ρ, h, S, E, p⟩ => ?_
  unfold eLk at p
  cases ed : dicAt ρ h i with
  | none => rw [ed] at p; exact absurd p id
  | some nk =>
    obtain ⟨n, kvs⟩ := nk
    rw [ed] at p
    dsimp only at p
    obtain ⟨ei, eh⟩ := dicAt_some ed
    obtain ⟨v', _, rv'⟩ := E.at_ i _ ei
    obtain ⟨a, ea, rfl⟩ := rv_ref rv'
    obtain ⟨gs, hg, rg⟩ := S.dic ea eh
    refine ⟨a, .dK gs, hg, True.intro, fun od => ?_⟩
    obtain ⟨X0, S0⟩ := lock_sim (od := od) S ea hg rg
    refine ⟨f, ρ, h.set n (.frd kvs), S0, E.mono S X0, ?_⟩
    unfold unlk at p
    cases em : m ρ (h.set n (.frd kvs)) with
    | bad => rw [em] at p; exact absurd p id
    | exc c fs h1 => rw [em] at p; exact absurd p id
    | ok v h1 =>
      rw [em] at p
      dsimp only at p
      split at p
      · rename_i kvs' eo
        intro f1 H1 v1 X1 S1 R1
        obtain ⟨hl, X2, S2, mono⟩ := unlock_sim ea hg X1 S1 eo
        exact ⟨hl, p f1 _ v1 X2 S2 (mono _ _ R1)⟩
      · exact absurd p id
theorem st_lk {st : Stmt} {i j : Nat} {m : ME} (h : PS X st (GoodS L X.K W (sSet j m))) : PS X st (GoodS L X.K W (sSet j (eLk i m))) := by
  refine psImp (ps_lock h) fun D σ H ⟨f, ρ, h, S, E, p⟩ => ?_
  unfold sSet eLk at p
  cases ed : dicAt ρ h i with
  | none => rw [ed] at p; exact absurd p id
  | some nk =>
    obtain ⟨n, kvs⟩ := nk
    rw [ed] at p
    dsimp only at p
    obtain ⟨ei, eh⟩ := dicAt_some ed
    obtain ⟨v', _, rv'⟩ := E.at_ i _ ei
    obtain ⟨a, ea, rfl⟩ := rv_ref rv'
    obtain ⟨gs, hg, rg⟩ := S.dic ea eh
    refine ⟨a, .dK gs, hg, True.intro, fun od => ?_⟩
    obtain ⟨X0, S0⟩ := lock_sim (od := od) S ea hg rg
    refine ⟨f, ρ, h.set n (.frd kvs), S0, E.mono S X0, ?_⟩
    unfold unlk at p
    unfold sSet
    cases em : m ρ (h.set n (.frd kvs)) with
    | bad => rw [em] at p; exact absurd p id
    | exc c fs h1 => rw [em] at p; exact absurd p id
    | ok v h1 =>
      rw [em] at p
      dsimp only at p
      split at p
      · rename_i kvs' eo
        intro f1 H1 σ1 X1 S1 E1
        obtain ⟨hl, X2, S2, mono⟩ := unlock_sim ea hg X1 S1 eo
        refine ⟨hl, p f1 _ σ1 X2 S2 ⟨E1.len, fun k u eu => ?_⟩⟩
        obtain ⟨u', q1, q2⟩ := E1.at_ k u eu
        exact ⟨u', q1, mono _ _ q2⟩
      · exact absurd p id
theorem s_lcN {e : Expr} {i : Nat} {vs : List Nat} {t : Tg} {c : MT} {elt : ME} (h1 : PE X e (GoodE L X.K W (eLc vs t (iKey (eVar i)) c elt))) (h2 : PE X e (GoodE L X.K W (eLc vs t (iVal (eVar i)) c elt))) : PE X e (GoodE L X.K W (eLcN i vs t c elt)) := by
  refine ⟨fun pins s σ H Q I ⟨f, ρ, h, S, E, p⟩ => ?_⟩
  unfold eLcN at p
  cases ed : dicAt ρ h i with
  | some nk => rw [ed] at p; exact (s_lk h1).run pins s σ H Q I ⟨f, ρ, h, S, E, p⟩
  | none => rw [ed] at p; exact h2.run pins s σ H Q I ⟨f, ρ, h, S, E, p⟩
theorem st_lcN {st : Stmt} {i j : Nat} {vs : List Nat} {t : Tg} {c : MT} {elt : ME} (h1 : PS X st (GoodS L X.K W (sSet j (eLc vs t (iKey (eVar i)) c elt)))) (h2 : PS X st (GoodS L X.K W (sSet j (eLc vs t (iVal (eVar i)) c elt)))) : PS X st (GoodS L X.K W (sSet j (eLcN i vs t c elt))) := by
  refine ⟨fun pins s σ H D I ⟨f, ρ, h, S, E, p⟩ => ?_⟩
  unfold sSet eLcN at p
  cases ed : dicAt ρ h i with
  | some nk => rw [ed] at p; exact (st_lk h1).run pins s σ H D I ⟨f, ρ, h, S, E, p⟩
  | none => rw [ed] at p; exact h2.run pins s σ H D I ⟨f, ρ, h, S, E, p⟩
/-! ### dict comprehensions -/
theorem dcF_eq (w : Wk) (t : Tg) (c : MT) (ek ev : ME) (ρ : Env) (fuel i : Nat) (acc : List (Key × Val)) (h : Mem) : dcF w t c ek ev ρ fuel i acc h = (match w.at_ i h with
    | none => .bad
    | some none => .ok acc h
    | some (some v) => match fuel with
      | 0 => .bad
      | fuel + 1 => match put1 t v ρ with
        | none => .bad
        | some ρ1 => match c ρ1 h with
          | .ok true h2 => (match ek ρ1 h2 with
            | .ok y h3 => (match ev ρ1 h3 with
              | .ok z h4 => (match keyOf y with
                | some k => if acc.length < sizeLine then dcF w t c ek ev ρ fuel (i + 1) (dPut acc k z) h4 else .bad
                | none => .bad)
              | _ => .bad)
            | _ => .bad)
          | .ok false h2 => dcF w t c ek ev ρ fuel (i + 1) acc h2
          | _ => .bad) := by
  rw [dcF.eq_def]
  all_goals rfl
theorem RFs.mono2 {κ : Type} {K : PySem.W.Frag} {f f' : Nm} {H H' : Hp} (le : ∀ n a, f n = some a → f' n = some a) (tp : ∀ a vs, SqT K H a vs → SqT K H' a vs) {kvs : List (κ × Val)} {gs : List (κ × V)} (r : RFs L K f H kvs gs) : RFs L K f' H' kvs gs := ⟨r.1, RVs.mono2 le tp _ _ r.2⟩
theorem tupOutD {K : PySem.W.Frag} {H : Hp} {a : Addr} {xs : List (Key × V)} {o : HO} (ha : H a = some (.dK xs)) : ∀ b vs, SqT K H b vs → SqT K (upd H a o) b vs := fun b vs e => by
  rcases e with e | e
  · have nb : b ≠ a := fun z => by
      rw [z] at e
      rcases e with e | ⟨q, e⟩ <;> rw [ha] at e <;> cases e
    refine .inl ?_
    rcases e with e | ⟨q, e⟩
    · exact .inl (by rw [upd_ne nb]; exact e)
    · exact .inr ⟨q, by rw [upd_ne nb]; exact e⟩
  · exact .inr e
theorem Sim.outUpdD {K : PySem.W.Frag} {f : Nm} {h : Mem} {H : Hp} (S : Sim L K f h H) {a : Addr} {xs : List (Key × V)} {o : HO} (ha : H a = some (.dK xs)) (no : ∀ n, f n ≠ some a) : Sim L K f h (upd H a o) :=
  ⟨S.inj, S.has, fun n b e => by
    have nb : b ≠ a := fun z => no n (z ▸ e)
    obtain ⟨ob, q, r⟩ := S.at_ n b e
    refine ⟨ob, q, ?_⟩
    cases ob with
    | lst xs =>
      obtain ⟨vs, q, z⟩ := r
      exact ⟨vs, by rw [upd_ne nb]; exact q, RVs.mono2 (fun _ _ e => e) (tupOutD ha) _ _ z⟩
    | ins c fs =>
      obtain ⟨dx, gs, q, z1, z2⟩ := r
      exact ⟨dx, gs, by rw [upd_ne nb]; exact q, z1, RVs.mono2 (fun _ _ e => e) (tupOutD ha) _ _ z2⟩
    | rol xs =>
      obtain ⟨o, vs, q, z⟩ := r
      exact ⟨o, vs, by rw [upd_ne nb]; exact q, RVs.mono2 (fun _ _ e => e) (tupOutD ha) _ _ z⟩
    | dic kvs =>
      obtain ⟨gs, q, z1, z2⟩ := r
      exact ⟨gs, by rw [upd_ne nb]; exact q, z1, RVs.mono2 (fun _ _ e => e) (tupOutD ha) _ _ z2⟩
    | frd kvs =>
      obtain ⟨o, gs, q, z1, z2⟩ := r
      exact ⟨o, gs, by rw [upd_ne nb]; exact q, z1, RVs.mono2 (fun _ _ e => e) (tupOutD ha) _ _ z2⟩⟩
theorem good_dc {t : Tg} {mi : MI} {mc : MT} {mk mv : ME} {vs : List Nat} (hvs : ∀ j ∈ tgS t, j ∈ vs) {σ : L2.St} {H : Hp} {Q : VK} (G : GoodE L X.K W (eDc vs t mi mc mk mv) σ H Q) :
    tDc (GoodI L X.K W mi) (GoodG L X.K t) (GoodT L X.K WF mc) (GoodE L X.K WF mk) (GoodE L X.K WF mv) vs σ H Q := by
  obtain ⟨f, ρ, h, S, E, p⟩ := G
  refine ⟨f, ρ, h, S, E, (PostG.bind (R := WkR L X.K) p).imp fun J H1 ⟨f1, w, h1, e1, X1, S1, R1, p1⟩ => ?_⟩
  intro D hD
  have E1 := E.mono S X1
  refine ⟨fun i m H' => ∃ f' h' acc ys, Ext f1 f' H1 H' ∧ Sim L X.K f' h' H' ∧ H' D = some (.dK ys) ∧ (∀ n, f' n ≠ some D) ∧ RFs L X.K f' H' acc ys ∧ PostG L X.K (RV L X.K) W f1 σ H1 Q ((dcF w t mc mk mv (wipeE ρ vs) m i acc h').bind newD),
    ⟨w.fuel, f1, h1, [], [], ext_new hD, S1.out hD, upd_same, fun n z => ?_, ⟨rfl, RVs.nil⟩, p1⟩, ?_⟩
  · obtain ⟨o, _, r⟩ := S1.at_ n D z
    obtain ⟨q, e⟩ := r.some
    rw [hD] at e; cases e
  rintro i m H' ⟨f', h', acc, ys, X', S', hD', nD, ra, p'⟩
  have z := R1 f' h' H' i X' S'
  rw [dcF_eq] at p'
  cases ea : w.at_ i h' with
  | none => rw [ea] at p'; exact absurd p' id
  | some o =>
    rw [ea] at p' z
    cases o with
    | none =>
      refine .inl ⟨z, ?_⟩
      dsimp only at p'
      rw [Res.bind_ok] at p'
      unfold newD at p'
      have le : ∀ n a, f' n = some a → put f' h'.length D n = some a := fun n a e => by
        unfold put
        rw [if_neg (fun y => by rw [y, S'.fresh] at e; cases e)]
        exact e
      have Sn : Sim L X.K (put f' h'.length D) (h' ++ [.dic acc]) H' := by
        refine ⟨fun n m a q1 q2 => ?_, fun n hn => ?_, fun n a q => ?_⟩
        · unfold put at q1 q2
          split at q1 <;> split at q2
          · rename_i u1 u2; rw [u1, u2]
          · cases q1; exact absurd q2 (nD m)
          · cases q2; exact absurd q1 (nD n)
          · exact S'.inj n m a q1 q2
        · unfold put
          by_cases y : n = h'.length
          · exact ⟨D, by rw [if_pos y]⟩
          · rw [if_neg y]
            exact S'.has n (by rw [List.length_append, List.length_singleton] at hn; omega)
        · by_cases y : n = h'.length
          · subst y
            rw [put_same] at q
            cases q
            exact ⟨.dic acc, by simp, ys, hD', RFs.mono2 le (fun _ _ e => e) ra⟩
          · have q' : f' n = some a := by unfold put at q; rwa [if_neg y] at q
            obtain ⟨o', e', r'⟩ := S'.at_ n a q'
            refine ⟨o', by rw [List.getElem?_append_left (S'.lt q')]; exact e', ?_⟩
            cases o' with
            | lst xs =>
              obtain ⟨us, q, z⟩ := r'
              exact ⟨us, q, RVs.mono2 le (fun _ _ e => e) _ _ z⟩
            | ins c fs =>
              obtain ⟨dx, gs, q, z1, z2⟩ := r'
              exact ⟨dx, gs, q, z1, RVs.mono2 le (fun _ _ e => e) _ _ z2⟩
            | rol xs =>
              obtain ⟨o, us, q, z⟩ := r'
              exact ⟨o, us, q, RVs.mono2 le (fun _ _ e => e) _ _ z⟩
            | dic kvs =>
              obtain ⟨gs, q, z1, z2⟩ := r'
              exact ⟨gs, q, z1, RVs.mono2 le (fun _ _ e => e) _ _ z2⟩
            | frd kvs =>
              obtain ⟨o, gs, q, z1, z2⟩ := r'
              exact ⟨o, gs, q, z1, RVs.mono2 le (fun _ _ e => e) _ _ z2⟩
      refine p' (put f' h'.length D) H' (.ref D) ⟨fun n a e => le n a (X'.le n a e), fun n a e => ?_, X'.keep, X'.trk, X'.frz⟩ Sn (mk_ref put_same)
      unfold put at e
      split at e
      · cases e; exact .inr hD
      · exact X'.new n a e
    | some v =>
      obtain ⟨zg, zy⟩ := z
      cases m with
      | zero => exact absurd p' id
      | succ m =>
        dsimp only at p'
        cases eρ : put1 t v (wipeE ρ vs) with
        | none => rw [eρ] at p'; exact absurd p' id
        | some ρ1 =>
          rw [eρ] at p'
          dsimp only at p'
          refine .inr ⟨zg, fun H2 => ∃ f' h' acc ys, Ext f1 f' H1 H2 ∧ Sim L X.K f' h' H2 ∧ H2 D = some (.dK ys) ∧ (∀ n, f' n ≠ some D) ∧ RFs L X.K f' H2 acc ys ∧ PostG L X.K (RV L X.K) W f1 σ H1 Q ((dcF w t mc mk mv (wipeE ρ vs) m (i + 1) acc h').bind newD),
            fun H2 q => ⟨m, Nat.lt_succ_self _, q⟩, fun x H'' y => ?_⟩
          obtain ⟨X2, S2, R2⟩ := zy x H'' y
          have E2 : EnvR L X.K f' H'' (wipeE ρ vs) (wipe σ vs) := ((E1.mono S1 X').mono S' X2).wipe vs
          refine ⟨f', wipeE ρ vs, h', v, ρ1, S2, E2, R2, eρ, fun σ2 E3 o2 => ⟨wipe_outs hvs o2, ?_⟩⟩
          have keepD : ∀ {fa fb : Nm} {Ha Hb : Hp} {zs : List (Key × V)}, Ext fa fb Ha Hb → Ha D = some (.dK zs) → (∀ n, fa n ≠ some D) → Hb D = some (.dK zs) ∧ ∀ n, fb n ≠ some D := fun {fa fb Ha Hb zs} x q nq =>
            ⟨x.keep _ _ q nq, fun n e => by
              rcases x.new n D e with u | u
              · exact nq n u
              · rw [q] at u; cases u⟩
          have mono : ∀ {fa fb : Nm} {Ha Hb : Hp} {ha : Mem} {kvs : List (Key × Val)} {gs : List (Key × V)}, Sim L X.K fa ha Ha → Ext fa fb Ha Hb → RFs L X.K fa Ha kvs gs → RFs L X.K fb Hb kvs gs := fun S x r => ⟨r.1, r.2.mono S x⟩
          obtain ⟨hD2, nD2⟩ := keepD X2 hD' nD
          have ra2 := mono S' X2 ra
          cases ec : mc ρ1 h' with
          | bad => rw [ec] at p'; exact absurd p' id
          | exc c fs h2 => rw [ec] at p'; exact absurd p' id
          | ok k h2 =>
            refine ⟨f', ρ1, h', S2, E3, ?_⟩
            rw [ec] at p' ⊢
            intro f3 H3 k' X3 S3 rk
            obtain rfl : k = k' := rk
            obtain ⟨hD3, nD3⟩ := keepD X3 hD2 nD2
            have ra3 := mono S2 X3 ra2
            cases k with
            | false =>
              rw [if_neg Bool.false_ne_true]
              exact ⟨f3, h2, acc, ys, X'.trans (X2.trans X3), S3, hD3, nD3, ra3, p'⟩
            | true =>
              rw [if_pos rfl]
              dsimp only at p'
              refine ⟨f3, ρ1, h2, S3, E3.mono S2 X3, ?_⟩
              cases ee : mk ρ1 h2 with
              | bad => rw [ee] at p'; exact absurd p' id
              | exc c fs h4 => rw [ee] at p'; exact absurd p' id
              | ok y h4 =>
                rw [ee] at p'
                dsimp only at p'
                intro f4 H4 y' X4 S4 ry
                obtain ⟨hD4, nD4⟩ := keepD X4 hD3 nD3
                have ra4 := mono S3 X4 ra3
                refine ⟨f4, ρ1, h4, S4, (E3.mono S2 X3).mono S3 X4, ?_⟩
                cases ev : mv ρ1 h4 with
                | bad => rw [ev] at p'; exact absurd p' id
                | exc c fs h5 => rw [ev] at p'; exact absurd p' id
                | ok z h5 =>
                  rw [ev] at p'
                  dsimp only at p'
                  intro f5 H5 z' X5 S5 rz
                  obtain ⟨hD5, nD5⟩ := keepD X5 hD4 nD4
                  have ra5 := mono S4 X5 ra4
                  have ry5 := ry.mono S4 X5
                  cases ek : keyOf y with
                  | none => rw [ek] at p'; exact absurd p' id
                  | some kk =>
                    rw [ek] at p'
                    dsimp only at p'
                    split at p'
                    · rename_i hz
                      refine ⟨ys, kk, key_rel ry5 ek, hD5, by rw [← df_len ra5]; exact hz, f5, h5, dPut acc kk z, putK ys kk z', ?_, S5.outUpdD hD5 nD5, upd_same, nD5, ?_, p'⟩
                      · have X6 := X'.trans (X2.trans (X3.trans (X4.trans X5)))
                        refine ⟨X6.le, X6.new, fun a o q nq => ?_, fun a o q => ?_, fun a o u q => ?_⟩
                        · have na : a ≠ D := fun e => by rw [e, hD] at q; cases q
                          rw [upd_ne na]
                          exact X6.keep a o q nq
                        · by_cases na : a = D
                          · exact ⟨_, by rw [na, upd_same]⟩
                          · rw [upd_ne na]
                            exact X6.trk a o q
                        · have na : a ≠ D := fun e => by rw [e, hD] at q; cases q
                          rw [upd_ne na]
                          exact X6.frz a o u q
                      · exact RFs.mono2 (fun _ _ e => e) (tupOutD hD5) (df_put rz kk ra5)
                    · exact absurd p' id
end
end Mp
set_option Elab.async false
set_option linter.all false
set_option maxRecDepth 100000
set_option maxHeartbeats 1000000
namespace Mp
open PySem PySem.Spec PyProof.Rows L2
/-! ### built-in functions -/
inductive Bi where
  | len | int | abs | min | max | list | tuple | all | any | sum | divmod | str | sorted
def Bi.val : Bi → Value
  | .len => .builtin "len"
  | .int => .type "int"
  | .abs => .builtin "abs"
  | .min => .builtin "min"
  | .max => .builtin "max"
  | .list => .type "list"
  | .tuple => .type "tuple"
  | .all => .builtin "all"
  | .any => .builtin "any"
  | .sum => .builtin "sum"
  | .divmod => .builtin "divmod"
  | .str => .type "str"
  | .sorted => .builtin "sorted"
def biTab : List (Str × Bi) := [("len", .len), ("int", .int), ("abs", .abs), ("min", .min), ("max", .max), ("list", .list), ("tuple", .tuple), ("all", .all), ("any", .any), ("sum", .sum), ("divmod", .divmod), ("str", .str), ("sorted", .sorted)]
def biOf (x : Str) : Option Bi := biTab.lookup x
theorem biTab_ok : (biTab.all fun p => decide (bootBuiltins p.1 = some p.2.val) && decide (p.1 ≠ "__name__") && decide ((p.1 == ("__debug__" : Str)) = false)) = true := by decide +kernel
theorem biOf_boot {x : Str} {b : Bi} (e : biOf x = some b) : bootBuiltins x = some b.val ∧ x ≠ "__name__" ∧ (x == ("__debug__" : Str)) = false := by
  have h := List.all_eq_true.mp biTab_ok _ (PySem.mem_of_lookup e)
  simp only [Bool.and_eq_true, decide_eq_true_eq] at h
  exact ⟨h.1.1, h.1.2, h.2⟩
def intsOf : List Val → Option (List Int)
  | [] => some []
  | .int i :: r => (intsOf r).map (i :: ·)
  | _ :: _ => none
def blsOf : List Val → Option (List Bool)
  | [] => some []
  | .bl i :: r => (blsOf r).map (i :: ·)
  | _ :: _ => none
def maxI : List Int → Int
  | [] => 0
  | [i] => i
  | i :: r => let m := maxI r; if m ≤ i then i else m
def minI : List Int → Int
  | [] => 0
  | [i] => i
  | i :: r => let m := minI r; if i ≤ m then i else m
/-- the items of a sequence, the keys of a dict -/
def seqK (h : Mem) : Val → Option (List Val)
  | .tup ts => some ts
  | .ref n => match h[n]? with
    | some (.lst xs) => some xs
    | some (.rol xs) => some xs
    | some (.dic kvs) => some (kvs.map fun kv => keyV kv.1)
    | _ => none
  | _ => none
def sortK (h : Mem) : Val → Option (List Int)
  | .ref n => match h[n]? with
    | some (.lst xs) => intsOf xs
    | some (.rol xs) => intsOf xs
    | some (.dic kvs) => if kvs.length < 64 then intsOf (kvs.map fun kv => keyV kv.1) else none
    | _ => none
  | _ => none
def lenK (h : Mem) : Val → Option Nat
  | .tup ts => some ts.length
  | .ref n => match h[n]? with
    | some (.lst xs) => some xs.length
    | some (.rol xs) => some xs.length
    | some (.dic kvs) => some kvs.length
    | _ => none
  | _ => none
/-- sorted of a list of tuples -/
def isTupD : PyData → Bool
  | .tuple (_ :: _) => true
  | _ => false
def sortB (xs : List Val) (ds : List PyData) : List Val := ((xs.zip ds).mergeSort (PySem.W.dataLe false (·.2))).map (·.1)
def sortT (h : Mem) (v : Val) : Option (List Val) := match lstOf h v with
  | some xs => (match rds h 20000 xs with
    | some ds => if (ds.all (fun d => isTupD d && decide (d.depth ≤ 60)) && ds.all fun d => ds.all (PySem.W.alike d)) = true then some (sortB xs ds) else none
    | none => none)
  | none => none
def biRun (b : Bi) (args : List Val) (h : Mem) : Res Val := match b, args with
  | .len, [v] => match v with
    | .str z => if z.length ≤ sizeLine then .ok (.int z.length) h else .bad
    | v => (Res.opt (lenK h v) h).bind fun n h => .ok (.int n) h
  | .int, [.int i] => .ok (.int i) h
  | .int, [.bl k] => .ok (.int (if k then 1 else 0)) h
  | .abs, [.int i] => .ok (.int (if i < 0 then -i else i)) h
  | .max, [.int i, .int j] => .ok (.int (if j > i then j else i)) h
  | .min, [.int i, .int j] => .ok (.int (if j < i then j else i)) h
  | .max, [v] => match (lstOf h v).bind intsOf with
    | some (i :: ns) => .ok (.int (maxI (i :: ns))) h
    | _ => .bad
  | .min, [v] => match (lstOf h v).bind intsOf with
    | some (i :: ns) => .ok (.int (minI (i :: ns))) h
    | _ => .bad
  | .list, [v] => (Res.opt (seqK h v) h).bind newL
  | .tuple, [v] => (Res.opt (seqOf h v) h).bind fun xs h => .ok (.tup xs) h
  | .all, [v] => (Res.opt ((lstOf h v).bind blsOf) h).bind fun bs h => .ok (.bl (bs.all id)) h
  | .any, [v] => (Res.opt ((lstOf h v).bind blsOf) h).bind fun bs h => .ok (.bl (bs.any id)) h
  | .sum, [v] => (Res.opt ((lstOf h v).bind intsOf) h).bind fun ns h => .ok (.int ns.sum) h
  | .divmod, [.int i, .int j] => if 0 < j ∧ j < 1073741824 then .ok (.tup [.int (i / j), .int (i % j)]) h else .bad
  | .str, [.int i] => if i.natAbs.log2 < 1920 then .ok (.str (toString i : String)) h else .bad
  | .sorted, [v] => match sortK h v with
    | some ns => newL ((ns.mergeSort (· ≤ ·)).map .int) h
    | none => (Res.opt (sortT h v) h).bind newL
  | _, _ => .bad
def eBi (b : Bi) (as : MA) : ME := fun ρ h => (as ρ h).bind (biRun b)
section
variable {L : Lk} {K : PySem.W.Frag} {f f' : Nm} {h h' : Mem} {H H' : Hp} {W : WX} {σ : L2.St} {ρ : Env}
theorem Sim.lstOf (S : Sim L K f h H) {v : Val} {v' : V} {xs : List Val} (r : RV L K f H v v') (e : Mp.lstOf h v = some xs) : ∃ a vs, v' = .ref a ∧ SqL K H a vs ∧ RVs L K f H xs vs := by
  cases v with
  | ref n =>
    obtain ⟨a, ea, rfl⟩ := rv_ref r
    simp only [Mp.lstOf] at e
    cases q : h[n]? with
    | none => rw [q] at e; cases e
    | some o =>
      rw [q] at e
      cases o with
      | lst ys =>
        cases e
        obtain ⟨vs, sv, rv⟩ := S.seq ea (.inl q)
        exact ⟨a, vs, rfl, sv, rv⟩
      | rol ys =>
        cases e
        obtain ⟨vs, sv, rv⟩ := S.seq ea (.inr q)
        exact ⟨a, vs, rfl, sv, rv⟩
      | ins c fs => cases e
      | dic kvs => cases e
      | frd kvs => cases e
  | _ => simp [Mp.lstOf] at e
theorem Sim.seqOf (S : Sim L K f h H) {v : Val} {v' : V} {xs : List Val} (r : RV L K f H v v') (e : Mp.seqOf h v = some xs) : ∃ a vs, v' = .ref a ∧ (SqL K H a vs ∨ SqT K H a vs ∧ v = .tup xs) ∧ RVs L K f H xs vs := by
  cases v with
  | tup ts =>
    simp only [Mp.seqOf] at e
    cases e
    obtain ⟨a, vs, rfl, sa, ra⟩ := rv_tup r
    exact ⟨a, vs, rfl, .inr ⟨sa, rfl⟩, ra⟩
  | ref n =>
    obtain ⟨a, vs, e1, e2, e3⟩ := S.lstOf (v := .ref n) r (xs := xs) (by simpa only [Mp.seqOf, Mp.lstOf] using e)
    exact ⟨a, vs, e1, .inl e2, e3⟩
  | _ => simp [Mp.seqOf] at e
theorem seqK_cases {v : Val} {ys : List Val} (e : seqK h v = some ys) : Mp.seqOf h v = some ys ∨ ∃ n kvs, v = .ref n ∧ h[n]? = some (.dic kvs) ∧ ys = kvs.map fun kv => keyV kv.1 := by
  cases v with
  | tup ts => exact .inl e
  | ref n =>
    simp only [seqK] at e
    cases q : h[n]? with
    | none => rw [q] at e; cases e
    | some o =>
      rw [q] at e
      cases o with
      | lst xs => left; simp only [Mp.seqOf, q]; exact e
      | rol xs => left; simp only [Mp.seqOf, q]; exact e
      | ins c fs => cases e
      | dic kvs => cases e; exact .inr ⟨n, kvs, rfl, q, rfl⟩
      | frd kvs => cases e
  | _ => simp [seqK] at e
theorem sortK_cases {v : Val} {ns : List Int} (e : sortK h v = some ns) : (Mp.lstOf h v).bind intsOf = some ns ∨ ∃ n kvs, v = .ref n ∧ h[n]? = some (.dic kvs) ∧ kvs.length < 64 ∧ intsOf (kvs.map fun kv => keyV kv.1) = some ns := by
  cases v with
  | ref n =>
    simp only [sortK] at e
    cases q : h[n]? with
    | none => rw [q] at e; cases e
    | some o =>
      rw [q] at e
      cases o with
      | lst xs => left; simp only [Mp.lstOf, q]; exact e
      | rol xs => left; simp only [Mp.lstOf, q]; exact e
      | ins c fs => cases e
      | dic kvs =>
        dsimp only at e
        split at e
        · rename_i hz; exact .inr ⟨n, kvs, rfl, q, hz, e⟩
        · cases e
      | frd kvs => cases e
  | _ => simp [sortK] at e
theorem lenK_cases {v : Val} {m : Nat} (e : lenK h v = some m) : (∃ ys, Mp.seqOf h v = some ys ∧ m = ys.length) ∨ ∃ n kvs, v = .ref n ∧ h[n]? = some (.dic kvs) ∧ m = kvs.length := by
  cases v with
  | tup ts => cases e; exact .inl ⟨ts, rfl, rfl⟩
  | ref n =>
    simp only [lenK] at e
    cases q : h[n]? with
    | none => rw [q] at e; cases e
    | some o =>
      rw [q] at e
      cases o with
      | lst xs => cases e; left; exact ⟨xs, by simp only [Mp.seqOf, q], rfl⟩
      | rol xs => cases e; left; exact ⟨xs, by simp only [Mp.seqOf, q], rfl⟩
      | ins c fs => cases e
      | dic kvs => cases e; exact .inr ⟨n, kvs, rfl, q, rfl⟩
      | frd kvs => cases e
  | _ => simp [lenK] at e
theorem keys_rel : ∀ ks : List Key, RVs L K f H (ks.map keyV) (ks.map kV)
  | [] => RVs.nil
  | .inl i :: ks => RVs.cons (mk_int i) (keys_rel ks)
  | .inr x :: ks => RVs.cons (mk_str x) (keys_rel ks)
theorem keys_of {kvs : List (Key × Val)} {gs : List (Key × V)} (r : RFs L K f H kvs gs) : RVs L K f H (kvs.map fun kv => keyV kv.1) (gs.map fun kv => kV kv.1) := by
  have e1 : (kvs.map fun kv => keyV kv.1) = (kvs.map (·.1)).map keyV := by rw [List.map_map]; rfl
  have e2 : (gs.map fun kv => kV kv.1) = (gs.map (·.1)).map kV := by rw [List.map_map]; rfl
  rw [e1, e2, ← r.1]
  exact keys_rel _
theorem ints_keys : ∀ {ks : List Key} {ns : List Int}, intsOf (ks.map keyV) = some ns → ks = ns.map Sum.inl
  | [], ns, e => by simp [intsOf] at e; subst e; rfl
  | .inl i :: ks, ns, e => by
    simp only [List.map_cons, keyV, intsOf] at e
    obtain ⟨ms, e1, rfl⟩ := Option.map_eq_some_iff.mp e
    rw [ints_keys e1]
    rfl
  | .inr x :: ks, ns, e => by simp [keyV, intsOf] at e
theorem ints_ok : ∀ {xs : List Val} {ns : List Int} {vs : List V}, intsOf xs = some ns → RVs L K f H xs vs → vs = ns.map V.int
  | [], ns, vs, e, r => by unfold RVs at r; simp [intsOf] at e; subst e; exact r
  | x :: xs, ns, vs, e, r => by
    unfold RVs at r
    obtain ⟨v, q, rfl, r1, r2⟩ := r
    cases x with
    | int i =>
      simp only [intsOf] at e
      obtain ⟨ms, e1, rfl⟩ := Option.map_eq_some_iff.mp e
      rw [rv_int r1, ints_ok e1 r2]
      rfl
    | _ => simp [intsOf] at e
theorem bls_ok : ∀ {xs : List Val} {ns : List Bool} {vs : List V}, blsOf xs = some ns → RVs L K f H xs vs → vs = ns.map V.bl
  | [], ns, vs, e, r => by unfold RVs at r; simp [blsOf] at e; subst e; exact r
  | x :: xs, ns, vs, e, r => by
    unfold RVs at r
    obtain ⟨v, q, rfl, r1, r2⟩ := r
    cases x with
    | bl i =>
      simp only [blsOf] at e
      obtain ⟨ms, e1, rfl⟩ := Option.map_eq_some_iff.mp e
      rw [rv_bl r1, bls_ok e1 r2]
      rfl
    | _ => simp [blsOf] at e
theorem RVs.one {x : Val} {vs : List V} (r : RVs L K f H [x] vs) : ∃ v, vs = [v] ∧ RV L K f H x v := by
  unfold RVs at r
  obtain ⟨v, q, rfl, r1, r2⟩ := r
  unfold RVs at r2
  exact ⟨v, by rw [r2], r1⟩
theorem RVs.two {x y : Val} {vs : List V} (r : RVs L K f H [x, y] vs) : ∃ v w, vs = [v, w] ∧ RV L K f H x v ∧ RV L K f H y w := by
  unfold RVs at r
  obtain ⟨v, q, rfl, r1, r2⟩ := r
  obtain ⟨w, rfl, r3⟩ := r2.one
  exact ⟨v, w, rfl, r1, r3⟩
theorem RVs.ints (ns : List Int) : RVs L K f H (ns.map Val.int) (ns.map V.int) := by
  induction ns with
  | nil => exact RVs.nil
  | cons n ns ih => exact RVs.cons (mk_int n) ih
theorem maxI_mem : ∀ (i : Int) (ns : List Int), maxI (i :: ns) ∈ i :: ns ∧ ∀ y ∈ i :: ns, y ≤ maxI (i :: ns)
  | i, [] => by simp [maxI]
  | i, j :: ns => by
    obtain ⟨h1, h2⟩ := maxI_mem j ns
    simp only [maxI]
    split
    · rename_i hz
      refine ⟨List.mem_cons_self, fun y hy => ?_⟩
      rcases List.mem_cons.mp hy with e | e
      · rw [e]; exact Int.le_refl _
      · exact Int.le_trans (h2 y e) hz
    · rename_i hz
      refine ⟨List.mem_cons_of_mem _ h1, fun y hy => ?_⟩
      rcases List.mem_cons.mp hy with e | e
      · rw [e]; omega
      · exact h2 y e
theorem minI_mem : ∀ (i : Int) (ns : List Int), minI (i :: ns) ∈ i :: ns ∧ ∀ y ∈ i :: ns, minI (i :: ns) ≤ y
  | i, [] => by simp [minI]
  | i, j :: ns => by
    obtain ⟨h1, h2⟩ := minI_mem j ns
    simp only [minI]
    split
    · rename_i hz
      refine ⟨List.mem_cons_self, fun y hy => ?_⟩
      rcases List.mem_cons.mp hy with e | e
      · rw [e]; exact Int.le_refl _
      · exact Int.le_trans hz (h2 y e)
    · rename_i hz
      refine ⟨List.mem_cons_of_mem _ h1, fun y hy => ?_⟩
      rcases List.mem_cons.mp hy with e | e
      · rw [e]; omega
      · exact h2 y e
theorem sort_uniq {ns ms : List Int} (hp : ms.Perm ns) (hs : ms.Pairwise (· ≤ ·)) : ms = ns.mergeSort (· ≤ ·) := by
  have h1 : (ns.mergeSort (fun a b => decide (a ≤ b))).Perm ns := List.mergeSort_perm ns _
  have h2 : (ns.mergeSort (fun a b => decide (a ≤ b))).Pairwise (fun a b => decide (a ≤ b) = true) := List.pairwise_mergeSort (by intro a b c; simp; omega) (by intro a b; simp; omega) ns
  have h3 : (ns.mergeSort (fun a b => decide (a ≤ b))).Pairwise (· ≤ ·) := h2.imp fun h => of_decide_eq_true h
  exact List.Perm.eq_of_pairwise (le := (· ≤ ·)) (fun a b _ _ h1 h2 => Int.le_antisymm h1 h2) hs h3 (hp.trans h1.symm)
def rCall (L : Lk) (K : PySem.W.Frag) (g : List Val → Mem → Res Val) : List V → Hp → VK → Prop := fun xs' H Q => ∃ f h xs, Sim L K f h H ∧ RVs L K f H xs xs' ∧ PostG L K (RV L K) WF f [] H Q (g xs h)
theorem good_call {g : List Val → Mem → Res Val} (nx : ∀ xs h, NoX (g xs h)) {das : MA} {Q : VK} (G : GoodE L K W (fun ρ h => (das ρ h).bind g) σ H Q) : tCB (rCall L K g) (GoodA L K W das) σ H Q := by
  obtain ⟨f, ρ, h, S, E, p⟩ := G
  refine ⟨f, ρ, h, S, E, (PostG.bind (R := RVs L K) p).imp fun x' H1 ⟨f1, x, h1, e1, X1, S1, R1, p1⟩ => ?_⟩
  exact ⟨f1, h1, x, S1, R1, p1.nox (nx x h1)⟩
theorem opt_nox {α β : Type} (o : Option α) (h : Mem) (k : α → Mem → Res β) (hk : ∀ a h, NoX (k a h)) : NoX ((Res.opt o h).bind k) := by
  cases o with
  | none => exact True.intro
  | some a => exact hk a h
theorem biRun_nox (b : Bi) (xs : List Val) (h : Mem) : NoX (biRun b xs h) := by
  unfold biRun
  split
  all_goals first
    | exact True.intro
    | (apply opt_nox; intro a h; first | exact True.intro | exact newL_nox _ _)
    | (split <;> first | exact True.intro | exact newL_nox _ _ | (apply opt_nox; intro a h; first | exact True.intro | exact newL_nox _ _) | (split <;> exact True.intro))
end
section
variable {L : Lk} {X : Cx}
theorem vals_each {β : Type} {k : β → V} : ∀ {bs : List β} {its : List Value}, PySem.W.EachIs (fun v b => RelV (k b) v) its bs → Vals (bs.map k) its
  | [], _, .nil => .nil
  | _ :: _, _, .cons r t => .cons r (vals_each t)
theorem each_vals {β : Type} {k : β → V} : ∀ {bs : List β} {its : List Value}, Vals (bs.map k) its → PySem.W.EachIs (fun v b => RelV (k b) v) its bs
  | [], _, .nil => .nil
  | _ :: _, _, .cons r t => .cons r (each_vals t)
theorem each_imp {α β : Type} {R R' : α → β → Prop} : ∀ {as : List α} {bs : List β}, PySem.W.EachIs R as bs → (∀ a b, b ∈ bs → R a b → R' a b) → PySem.W.EachIs R' as bs
  | _, _, .nil, _ => .nil
  | _, _, .cons r t, h => .cons (h _ _ (by simp) r) (each_imp t fun a b hb => h a b (by simp [hb]))
/-- sorted(a list of tuples that read as data) -/
theorem cr_sortD {β : Type} (k : β → V) (enc : β → PyData) (hu : X.A.units + 65 < cLine) : CallR X (.builtin "sorted") (fun vs H Q => ∃ (a : Addr) (bs : List β), vs = [V.ref a] ∧ SqL X.K H a (bs.map k) ∧ (∀ b ∈ bs, Dp X.K H (k b) (enc b)) ∧ PySem.W.AllAlike (bs.map enc) ∧ (∀ b ∈ bs, ∃ x r, enc b = .tuple (x :: r)) ∧ (∀ b ∈ bs, (enc b).depth ≤ 60) ∧
    ∀ p, H p = none → Q (.ref p) (upd H p (.lst ((bs.mergeSort (PySem.W.dataLe false enc)).map k)))) := by
  intro pins s σ H vs us Q I r h
  obtain ⟨a, bs, rfl, hs, hd, hal, ht, hdp, q⟩ := h
  obtain ⟨its, rv, hl, hz⟩ := I.list hs
  rw [Vals.ref1 r]
  have e := each_vals rv
  have er : PySem.W.EachIs (fun v b => ∃ as, Reads s.heap v (enc b) as) its bs := each_imp e fun v b hb rb => Dp.reads I (enc b) (k b) v (hd b hb) rb
  refine PySem.W.sorted_data hl.isList e er hal (.inl fun d hd => ?_) (by simpa using hz) (fun b hb => ?_) fun out ho eo => ?_
  · obtain ⟨b, hb, rfl⟩ := List.mem_map.mp hd
    exact ht b hb
  · have := hdp b hb
    omega
  · obtain ⟨ep, he'⟩ := PyProof.Rows.sortedAll_at s.heap its out.toArray
    have rv' := vals_each eo
    refine ⟨.ref _, upd H (s.heap.objs.size + 1) (.lst ((bs.mergeSort (PySem.W.dataLe false enc)).map k)), I.laid (t' := s.toks) (fun _ _ => PyProof.Rows.sortedAll_old) (Nat.le_succ _) ⟨?_, out, ep, rv', ?_⟩, rfl, q _ (I.hok.fresh (Nat.le_succ _))⟩
    · simp only [List.length_map, List.length_mergeSort]
      simpa using hz
    · exact he'
theorem rvs_map {L : Lk} {K : PySem.W.Frag} {f : Nm} {H : Hp} : ∀ {l : List (Val × V × PyData)}, (∀ b ∈ l, RV L K f H b.1 b.2.1) → RVs L K f H (l.map (·.1)) (l.map (·.2.1))
  | [], _ => RVs.nil
  | b :: l, h => RVs.cons (h b (by simp)) (rvs_map fun x hx => h x (by simp [hx]))
theorem zip3 {L : Lk} {K : PySem.W.Frag} {f : Nm} {H : Hp} : ∀ {xs : List Val} {vs : List V} {ds : List PyData}, RVs L K f H xs vs → DpAll K H vs ds → ∃ l : List (Val × V × PyData), l.map (fun b => (b.1, b.2.2)) = xs.zip ds ∧ l.map (·.2.1) = vs ∧ l.map (·.2.2) = ds ∧ ∀ b ∈ l, RV L K f H b.1 b.2.1 ∧ Dp K H b.2.1 b.2.2
  | [], vs, ds, r, d => by
    unfold RVs at r; subst r
    cases d
    exact ⟨[], rfl, rfl, rfl, nofun⟩
  | x :: xs, vs, ds, r, d => by
    unfold RVs at r
    obtain ⟨v, ws, rfl, r1, r2⟩ := r
    cases d with
    | @cons _ _ d1 ds h1 h2 =>
      obtain ⟨l, e1, e2, e3, e4⟩ := zip3 r2 h2
      refine ⟨(x, v, d1) :: l, by simp [e1], by simp [e2], by simp [e3], fun b hb => ?_⟩
      rcases List.mem_cons.mp hb with q | q
      · rw [q]; exact ⟨r1, h1⟩
      · exact e4 b q
theorem bi_ok (hc : X.calm = true) (hu : X.A.units + 65 < cLine) (b : Bi) : CallR X b.val (rCall L X.K (biRun b)) := by
  intro pins s σ H xs' us Q I rv ⟨f, h, xs, S, R, p⟩
  unfold biRun at p
  split at p
  · -- len
    rename_i v
    obtain ⟨v', rfl, r⟩ := R.one
    split at p
    · rename_i z
      obtain rfl := rv_str r
      split at p
      · rename_i hz
        exact call_len_str pins s σ H _ us Q I rv ⟨z, rfl, hz, now S (mk_int _) p⟩
      · exact absurd p id
    · cases e : lenK h v with
      | none => rw [e] at p; exact absurd p id
      | some m =>
        rw [e] at p
        rcases lenK_cases e with ⟨ys, e5, rfl⟩ | ⟨n, kvs, rfl, en, rfl⟩
        · obtain ⟨a, vs, rfl, sq, rr⟩ := S.seqOf r e5
          have q := now S (mk_int _) p
          rw [rr.length] at q
          exact call_len_seq pins s σ H _ us Q I rv ⟨a, vs, rfl, sq.imp id (·.1), q⟩
        · obtain ⟨a, ea, rfl⟩ := rv_ref r
          obtain ⟨gs, hg, rg⟩ := S.dic ea en
          obtain ⟨u, rfl, ru⟩ := vals1 rv
          obtain rfl : u = Value.ref a := ru
          have q := now S (mk_int _) p
          rw [df_len rg] at q
          exact d_len I (.inl hg) fun t s' I' => ⟨.int gs.length, H, I', ⟨t, rfl⟩, q⟩
  · obtain ⟨v', rfl, r⟩ := R.one
    obtain rfl := rv_int r
    exact call_int1 pins s σ H _ us Q I rv (.inl ⟨_, rfl, now S (mk_int _) p⟩)
  · obtain ⟨v', rfl, r⟩ := R.one
    obtain rfl := rv_bl r
    exact call_int1 pins s σ H _ us Q I rv (.inr ⟨_, rfl, now S (mk_int _) p⟩)
  · obtain ⟨v', rfl, r⟩ := R.one
    obtain rfl := rv_int r
    exact call_abs pins s σ H _ us Q I rv ⟨_, rfl, now S (mk_int _) p⟩
  · obtain ⟨v', w', rfl, r, r'⟩ := R.two
    obtain rfl := rv_int r
    obtain rfl := rv_int r'
    exact call_max2 hc pins s σ H _ us Q I rv ⟨_, _, rfl, now S (mk_int _) p⟩
  · obtain ⟨v', w', rfl, r, r'⟩ := R.two
    obtain rfl := rv_int r
    obtain rfl := rv_int r'
    exact call_min2 hc pins s σ H _ us Q I rv ⟨_, _, rfl, now S (mk_int _) p⟩
  · obtain ⟨v', rfl, r⟩ := R.one
    split at p
    · rename_i v i ns e
      obtain ⟨ys, e1, e2⟩ := Option.bind_eq_some_iff.mp e
      obtain ⟨a, vs, rfl, sq, rr⟩ := S.lstOf r e1
      obtain rfl := ints_ok e2 rr
      refine cr_max hc pins s σ H _ us Q I rv ⟨a, i :: ns, rfl, sq, by simp, fun m hm hall => ?_⟩
      obtain ⟨z1, z2⟩ := maxI_mem i ns
      rw [Int.le_antisymm (z2 m hm) (hall _ z1)]
      exact now S (mk_int _) p
    · exact absurd p id
  · obtain ⟨v', rfl, r⟩ := R.one
    split at p
    · rename_i v i ns e
      obtain ⟨ys, e1, e2⟩ := Option.bind_eq_some_iff.mp e
      obtain ⟨a, vs, rfl, sq, rr⟩ := S.lstOf r e1
      obtain rfl := ints_ok e2 rr
      refine cr_min hc pins s σ H _ us Q I rv ⟨a, i :: ns, rfl, sq, by simp, fun m hm hall => ?_⟩
      obtain ⟨z1, z2⟩ := minI_mem i ns
      rw [Int.le_antisymm (hall _ z1) (z2 m hm)]
      exact now S (mk_int _) p
    · exact absurd p id
  · obtain ⟨v', rfl, r⟩ := R.one
    rename_i v
    cases e : seqK h v with
    | none => rw [e] at p; exact absurd p id
    | some ys =>
      rw [e] at p
      rcases seqK_cases e with e | ⟨n, kvs, rfl, en, rfl⟩
      · obtain ⟨a, vs, rfl, sq, rr⟩ := S.seqOf r e
        exact call_list_of pins s σ H _ us Q I rv ⟨a, vs, rfl, sq.imp id (·.1), (newL_ok S rr p).2⟩
      · obtain ⟨a, ea, rfl⟩ := rv_ref r
        obtain ⟨gs, hg, rg⟩ := S.dic ea en
        exact call_listD hc pins s σ H _ us Q I rv ⟨a, gs, rfl, .inl hg, (newL_ok S (keys_of rg) p).2⟩
  · obtain ⟨v', rfl, r⟩ := R.one
    rename_i v
    cases e : seqOf h v with
    | none => rw [e] at p; exact absurd p id
    | some ys =>
      rw [e] at p
      obtain ⟨a, vs, rfl, sq, rr⟩ := S.seqOf r e
      refine call_tuple_of pins s σ H _ us Q I rv ⟨a, vs, rfl, ?_⟩
      rcases sq with sq | ⟨sq, ev⟩
      · exact .inl ⟨sq, newT_ok S rr p⟩
      · subst ev
        exact .inr ⟨sq, now S r p⟩
  · obtain ⟨v', rfl, r⟩ := R.one
    rename_i v
    cases e : (lstOf h v).bind blsOf with
    | none => rw [e] at p; exact absurd p id
    | some bs =>
      rw [e] at p
      obtain ⟨ys, e1, e2⟩ := Option.bind_eq_some_iff.mp e
      obtain ⟨a, vs, rfl, sq, rr⟩ := S.lstOf r e1
      obtain rfl := bls_ok e2 rr
      exact cr_all hc pins s σ H _ us Q I rv ⟨a, bs, rfl, sq, now S (mk_bl _) p⟩
  · obtain ⟨v', rfl, r⟩ := R.one
    rename_i v
    cases e : (lstOf h v).bind blsOf with
    | none => rw [e] at p; exact absurd p id
    | some bs =>
      rw [e] at p
      obtain ⟨ys, e1, e2⟩ := Option.bind_eq_some_iff.mp e
      obtain ⟨a, vs, rfl, sq, rr⟩ := S.lstOf r e1
      obtain rfl := bls_ok e2 rr
      exact cr_any hc pins s σ H _ us Q I rv ⟨a, bs, rfl, sq, now S (mk_bl _) p⟩
  · obtain ⟨v', rfl, r⟩ := R.one
    rename_i v
    cases e : (lstOf h v).bind intsOf with
    | none => rw [e] at p; exact absurd p id
    | some ns =>
      rw [e] at p
      obtain ⟨ys, e1, e2⟩ := Option.bind_eq_some_iff.mp e
      obtain ⟨a, vs, rfl, sq, rr⟩ := S.lstOf r e1
      obtain rfl := ints_ok e2 rr
      exact cr_sum hc pins s σ H _ us Q I rv ⟨a, ns, rfl, sq, now S (mk_int _) p⟩
  · obtain ⟨v', w', rfl, r, r'⟩ := R.two
    obtain rfl := rv_int r
    obtain rfl := rv_int r'
    split at p
    · rename_i hz
      refine call_divmod pins s σ H _ us Q I rv ⟨_, _, rfl, hz, ?_⟩
      exact newT_ok S (RVs.cons (mk_int _) (RVs.cons (mk_int _) RVs.nil)) p
    · exact absurd p id
  · obtain ⟨v', rfl, r⟩ := R.one
    obtain rfl := rv_int r
    split at p
    · rename_i hz
      exact call_str_int pins s σ H _ us Q I rv ⟨_, rfl, hz, now S (mk_str _) p⟩
    · exact absurd p id
  · obtain ⟨v', rfl, r⟩ := R.one
    rename_i v
    cases e : sortK h v with
    | none =>
      rw [e] at p
      cases e2 : sortT h v with
      | none => rw [e2] at p; exact absurd p id
      | some ys =>
        rw [e2] at p
        unfold sortT at e2
        split at e2
        · rename_i xs e3
          split at e2
          · rename_i ds e4
            split at e2
            · rename_i hk
              cases e2
              obtain ⟨a, vs, rfl, sq, rr⟩ := S.lstOf r e3
              obtain ⟨l, l1, l2, l3, l4⟩ := zip3 rr (rds_dp S _ _ _ _ e4 rr)
              subst l2
              simp only [Bool.and_eq_true, List.all_eq_true, decide_eq_true_eq] at hk
              have hds : ∀ b ∈ l, b.2.2 ∈ ds := fun b hb => by rw [← l3]; exact List.mem_map_of_mem hb
              refine cr_sortD (β := Val × V × PyData) (·.2.1) (·.2.2) hu pins s σ H _ us Q I rv ⟨a, l, rfl, sq, fun b hb => (l4 b hb).2, by rw [l3]; exact fun d hd d' hd' => hk.2 d hd d' hd', fun b hb => ?_, fun b hb => (hk.1 _ (hds b hb)).2, fun q hq => ?_⟩
              · have := (hk.1 _ (hds b hb)).1
                generalize b.2.2 = d at this
                unfold isTupD at this
                split at this
                · exact ⟨_, _, rfl⟩
                · cases this
              · have es : sortB xs ds = (l.mergeSort (PySem.W.dataLe false (·.2.2))).map (·.1) := by
                  unfold sortB
                  rw [← l1, ← List.map_mergeSort (r := PySem.W.dataLe false (·.2.2)) (f := fun b : Val × V × PyData => (b.1, b.2.2)) (fun a _ b _ => rfl), List.map_map]
                  rfl
                rw [es] at p
                exact (newL_ok S (rvs_map fun b hb => (l4 b (List.mem_mergeSort.mp hb)).1) p).2 q hq
            · cases e2
          · cases e2
        · cases e2
    | some ns =>
      rw [e] at p
      rcases sortK_cases e with e | ⟨n, kvs, rfl, en, h64, ei⟩
      rotate_left
      · obtain ⟨a, ea, rfl⟩ := rv_ref r
        obtain ⟨gs, hg, rg⟩ := S.dic ea en
        have ek := ints_keys (ks := kvs.map (·.1)) (by rw [List.map_map]; exact ei)
        have hl : ns.length = kvs.length := by have := congrArg List.length ek; simpa using this.symm
        refine call_sortedDI hc pins s σ H _ us Q I rv ⟨a, gs, ns, rfl, .inl hg, by rw [← rg.1]; exact ek, by omega, fun ns' q hp hs hq => ?_⟩
        rw [sort_uniq hp hs]
        exact (newL_ok S (RVs.ints _) p).2 q hq
      obtain ⟨ys, e1, e2⟩ := Option.bind_eq_some_iff.mp e
      obtain ⟨a, vs, rfl, sq, rr⟩ := S.lstOf r e1
      obtain rfl := ints_ok e2 rr
      refine cr_sortedI pins s σ H _ us Q I rv ⟨a, ns, rfl, sq, fun ns' q hp hs hq => ?_⟩
      rw [sort_uniq hp hs]
      exact (newL_ok S (RVs.ints _) p).2 q hq
  · exact absurd p id
variable {W : WX} {a : Expr} {es : List Expr} {das : MA} {pos p : Pos}
theorem s_bi {b : Bi} {x : Str} (hc : X.calm = true) (hu : X.A.units + 65 < cLine) (hb : biOf x = some b) (hg : Gl X x) (hm : X.mg x = none) (ha : PA X (a :: es) (GoodA L X.K W das)) (he : starEach (a :: es) X.env = (false, eval a X.env) :: starEach es X.env)
    (hpl : (backTo pos (starEach es X.env)).any (·.1) = false) : PE X (.Call (.Name x p) (a :: es) [] pos) (GoodE L X.K W (eBi b das)) := by
  obtain ⟨hv, hn, hd⟩ := biOf_boot hb
  have k : ∀ σ H Q, GoodE L X.K W (eBi b das) σ H Q → tCB (rCall L X.K (biRun b)) (GoodA L X.K W das) σ H Q := fun σ H Q G => good_call (biRun_nox b) G
  have c := bi_ok (L := L) hc hu b
  cases b
  case int => exact peImp (pe_callTy c hg hm hv ha hn hd he hpl) k
  case list => exact peImp (pe_callTy c hg hm hv ha hn hd he hpl) k
  case tuple => exact peImp (pe_callTy c hg hm hv ha hn hd he hpl) k
  case str => exact peImp (pe_callTy c hg hm hv ha hn hd he hpl) k
  all_goals exact peImp (pe_callB c hg hm hv ha hn hd he hpl) k
end
end Mp
set_option Elab.async false
set_option linter.all false
set_option maxRecDepth 100000
set_option maxHeartbeats 1000000
namespace Mp
open PySem PySem.Spec PyProof.Rows L2
/-! ### a program's defs and classes -/
structure FnD where
  ps : List Str
  dfl : List (Str × Val)
  N : List Str
  sc : Scope
  body : List Stmt
structure ClD where
  init : Str
  meths : List (Str × Str)
  props : List (Str × Str)
  flds : List Str
structure Pg where
  fns : List (Str × FnD)
  tops : List Str
  cls : List (Str × ClD)
  glob : List (Str × Val)
  shapes : List (Str × Nat × List Str)
inductive Src where
  | ps (i : Nat) | kw (j : Nat) | df (v : Val)
def pick1 (us ws : List Val) : Src → Option Val
  | .ps i => us[i]?
  | .kw j => ws[j]?
  | .df v => some v
def selV (us ws : List Val) : List Src → Option (List Val)
  | [] => some []
  | s :: r => match pick1 us ws s, selV us ws r with
    | some v, some vs => some (v :: vs)
    | _, _ => none
def bindGo (n : Nat) (ks : List Str) (dfl : List (Str × Val)) : Nat → List Str → Option (List Src)
  | _, [] => some []
  | i, p :: ps => match (if i < n then some (Src.ps i) else match ks.idxOf? p with
      | some j => some (Src.kw j)
      | none => (dfl.lookup p).map Src.df), bindGo n ks dfl (i + 1) ps with
    | some s, some r => some (s :: r)
    | _, _ => none
def bindV (D : FnD) (n : Nat) (ks : List Str) : Option (List Src) := bindGo n ks D.dfl 0 D.ps
abbrev CallT := Str → List Val → Mem → Res Val
def eCall (m : List Val → Mem → Res Val) (as : MA) : ME := fun ρ h => (as ρ h).bind m
def eCallS (m : List Val → Mem → Res Val) (sel : List Src) (as ks : MA) : ME := fun ρ h => (as ρ h).bind fun us h => (ks ρ h).bind fun ws h => (Res.opt (selV us ws sel) h).bind m
def dropNon (r : Res Val) (v : Val) : Res Val := match r with
  | .ok .non h => .ok v h
  | .exc c fs h => .exc c fs h
  | _ => .bad
/-- C(..): a new instance, then its __init__ -/
def mkI (m : List Val → Mem → Res Val) (c : Str) (sel : List Src) (us ws : List Val) (h : Mem) : Res Val := match selV (.ref h.length :: us) ws sel with
  | some vs => dropNon (m vs (h ++ [.ins c []])) (.ref h.length)
  | none => .bad
def eMake (m : List Val → Mem → Res Val) (c : Str) (sel : List Src) (as ks : MA) : ME := fun ρ h => (as ρ h).bind fun us h => (ks ρ h).bind fun ws h => mkI m c sel us ws h
/-! ### what is known of a def -/
section
variable (L : Lk)
def spF (K : PySem.W.Frag) (n : Nat) (m : List Val → Mem → Res Val) : Sp := fun vs H Q E => vs.length = n ∧ ∃ f h ts, Sim L K f h H ∧ RVs L K f H ts vs ∧ PostG L K (RV L K) (fun cls d _ H' => E cls d H') f [] H Q (m ts h)
def ShpOk (K : PySem.W.Frag) (fd : FuncData) (ps : List Str) (n : Nat) (ks : List Str) (sel : List Src) : Prop := ∃ g gV, KBn K fd ps n ks g gV ∧
  ∀ f H ts zs vs ws us, RVs L K f H ts vs → RVs L K f H zs ws → ts.length = n → zs.length = ks.length → selV ts zs sel = some us → RVs L K f H us (gV vs ws)
structure FnF (P : Program) (w : World) (K : PySem.W.Frag) (mg : Str → Option Value) (base : Heap) (k : Nat) (Γ : Pg) (call : CallT) (g : Str) (D : FnD) : Prop where
  ex : ∃ fd, FnOk P w K mg base (L2.CX P w) k (L.F g) fd D.ps (spF L K D.ps.length (call g)) ∧ ∀ n ks sel, (g, n, ks) ∈ Γ.shapes → bindV D n ks = some sel → ShpOk L K fd D.ps n ks sel ∧ (ks = [] → n = D.ps.length → Binds K fd D.ps [])
  kp : PySem.W.keepIn K (.ref (L.F g)) = true
structure ClF (K : PySem.W.Frag) (c : Str) (C : ClD) : Prop where
  cl : Cls K (L.C c)
  mak : Mk K (L.C c) (L.F C.init)
  no : ∀ x ∈ C.flds, NoAttr K (L.C c) x
  me : ∀ p ∈ C.meths, Meth K (L.C c) p.1 (L.F p.2)
  pr : ∀ p ∈ C.props, ∃ q, PropOf K (L.C c) p.1 q (L.F p.2)
end
section
variable {L : Lk} {X : Cx} {W : WX} {pos : Pos}
/-! ### argument lists -/
def noStar : Expr → Bool
  | .Starred _ _ => false
  | _ => true
theorem star_cons {e : Expr} {es : List Expr} {env : PySem.Env} (h : noStar e = true) : starEach (e :: es) env = (false, eval e env) :: starEach es env := by
  cases e <;> first | rfl | (simp [noStar] at h)
theorem star_any {env : PySem.Env} {pos : Pos} : ∀ {es : List Expr}, es.all noStar = true → (backTo pos (starEach es env)).any (·.1) = false
  | [], _ => rfl
  | e :: es, h => by
    simp only [List.all_cons, Bool.and_eq_true] at h
    rw [star_cons h.1]
    show (false || (backTo pos (starEach es env)).any (·.1)) = false
    rw [star_any h.2]
    rfl
theorem kw_all {env : PySem.Env} {pos : Pos} : ∀ {kws : List Keyword}, kws.all (·.arg.isSome) = true → (backToKw pos (keywordEach kws env)).all (·.1.isSome) = true ∧ (backToKw pos (keywordEach kws env)).any (·.1.isNone) = false ∧
    (backToKw pos (keywordEach kws env)).filterMap (·.1) = kws.filterMap (·.arg)
  | [], _ => ⟨rfl, rfl, rfl⟩
  | ⟨nm, e, p⟩ :: kws, h => by
    simp only [List.all_cons, Bool.and_eq_true] at h
    obtain ⟨h1, h2, h3⟩ := kw_all (env := env) (pos := pos) h.2
    cases nm with
    | none => simp at h
    | some x =>
      refine ⟨?_, ?_, ?_⟩
      · show ((some x).isSome && (backToKw pos (keywordEach kws env)).all (·.1.isSome)) = true
        rw [h1]; rfl
      · show ((some x).isNone || (backToKw pos (keywordEach kws env)).any (·.1.isNone)) = false
        rw [h2]; rfl
      · show x :: (backToKw pos (keywordEach kws env)).filterMap (·.1) = x :: kws.filterMap (·.arg)
        rw [h3]
theorem pkImp {X : Cx} {e : List Keyword} {t t' : TA} (h : PK X e t) (i : ∀ σ H Q, t' σ H Q → t σ H Q) : PK X e t' := ⟨fun pos pins s σ H Q I q => h.run pos pins s σ H Q I (i σ H Q q)⟩
theorem k_nil : PK X [] (GoodA L X.K W aNil) := pkImp pk_nil fun σ H Q ⟨f, ρ, h, S, E, p⟩ => p f H [] (Ext.refl _ _) S RVs.nil
theorem k_cons {nm : Option Str} {e : Expr} {kp : Pos} {kws : List Keyword} {da : ME} {das : MA} (ha : PE X e (GoodE L X.K W da)) (hr : PK X kws (GoodA L X.K W das)) : PK X (⟨nm, e, kp⟩ :: kws) (GoodA L X.K W (aCons da das)) := by
  refine pkImp (pk_cons ha hr) fun σ H Q ⟨f, ρ, h, S, E, p⟩ => ?_
  refine ⟨f, ρ, h, S, E, (PostG.bind (R := RV L X.K) p).imp fun x' H1 ⟨f1, x, h1, e1, X1, S1, R1, p1⟩ => ?_⟩
  refine ⟨f1, ρ, h1, S1, E.mono S X1, (PostG.bind (R := RVs L X.K) p1).imp fun xs' H2 ⟨f2, xs, h2, e2, X2, S2, R2, p2⟩ => ?_⟩
  exact p2 f2 H2 _ (Ext.refl _ _) S2 (RVs.cons (R1.mono S1 X2) R2)
theorem goodA_nil {σ : L2.St} {H : Hp} {Q : List V → Hp → Prop} {das : MA} (e : das = aNil) (G : GoodA L X.K W das σ H Q) : Q [] H := by
  subst e
  obtain ⟨f, ρ, h, S, E, p⟩ := G
  exact p f H [] (Ext.refl _ _) S RVs.nil
/-- the arguments of a call, then the call -/
theorem call_args {fv : Value} {first : List Value} {es : List Expr} {kws : List Keyword} {das dks : MA} (hk : PySem.W.keepIn X.K fv = true) (ha : PA X es (GoodA L X.K W das)) (hkw : PK X kws (GoodA L X.K W dks)) (hst : es.all noStar = true) (hnm : kws.all (·.arg.isSome) = true)
    (hz : es = [] → das = aNil) (hz2 : kws = [] → dks = aNil) {pins : List (Addr × Obj)} {s : Shared} {σ : L2.St} {H : Hp} {Q : Value → Shared → Prop} (I : Inv X pins σ H s)
    (h : GoodA L X.K W das σ H fun vs H1 => GoodA L X.K W dks σ H1 fun zs H2 => ∀ s2 us ws, Inv X pins σ H2 s2 → Vals vs us → Vals zs ws → wpAny (model X.prog X.w) X.A (call fv (first ++ us) ((kws.filterMap (·.arg)).zip ws)) Q X.xe s2) :
    wpAny (model X.prog X.w) X.A (callWith pos fv first (backTo pos (starEach es X.env)) (backToKw pos (keywordEach kws X.env))) Q X.xe s := by
  obtain ⟨k1, k2, k3⟩ := kw_all (env := X.env) (pos := pos) hnm
  have hany := star_any (env := X.env) (pos := pos) hst
  cases es with
  | nil =>
    have h2 := goodA_nil (hz rfl) h
    cases kws with
    | nil => exact PySem.W.callWith_K0 I.kIn hk (goodA_nil (hz2 rfl) h2 s [] [] I .nil .nil)
    | cons k kws =>
      refine PySem.W.callWith_KW0 (h₀ := X.base) I.ok.mod.kin hk k1 (thn (hkw.run pos pins s σ H _ I h2) fun ws s2 ⟨zs, H2, I2, rz, q2⟩ => ⟨I2.kIn, ?_⟩) (by rw [k2]; rfl)
      rw [k3]
      exact q2 s2 [] ws I2 .nil rz
  | cons e es =>
    simp only [List.all_cons, Bool.and_eq_true] at hst
    cases kws with
    | nil =>
      refine PySem.W.callWith_K (h₀ := X.base) I.ok.mod.kin hk (thn (ha.run pos pins s σ H _ I h) fun us s1 ⟨vs, H1, I1, r, q⟩ => ⟨I1.kIn, ?_⟩) (star_cons hst.1) (star_any hst.2)
      exact goodA_nil (hz2 rfl) q s1 us [] I1 r .nil
    | cons k kws =>
      refine PySem.W.callWith_KW (h₀ := X.base) I.ok.mod.kin hk k1 (thn (ha.run pos pins s σ H _ I h) fun us s1 ⟨vs, H1, I1, r, q⟩ => ?_) (by rw [k2, hany]; rfl) (star_cons hst.1)
      refine thn (hkw.run pos pins s1 σ H1 _ I1 q) fun ws s2 ⟨zs, H2, I2, rz, q2⟩ => ⟨I2.kIn, ?_⟩
      rw [k3]
      exact q2 s2 us ws I2 r rz
/-! ### a def runs -/
theorem run_shape {CX : CXT} {k n : Nat} {fa : Addr} {fd : FuncData} {ps ks : List Str} {sp : Sp} {E : L2.St → XK} {g : List Value → List Value → List Value} {gV : List V → List V → List V} {pins : List (Addr × Obj)} {σ : L2.St} {H : Hp} {s : Shared} {Q : VK} {us ws : List Value} {vs zs : List V}
    (F : FnOk X.prog X.w X.K X.mg X.base CX k fa fd ps sp) (hr : Room k X.A) (hb : KBn X.K fd ps n ks g gV) (hx : PassesAt CX X σ (E σ)) (I : Inv X pins σ H s) (r : Vals vs us) (rz : Vals zs ws) (l1 : vs.length = n) (l2 : zs.length = ks.length) (h : sp (gV vs zs) H Q (E σ)) :
    wpAny (model X.prog X.w) X.A (call (.ref fa) us (ks.zip ws)) (EP X pins σ Q) X.xe s := by
  have r2 := hb.rel r rz
  refine wpAny_call (codeAny_mono (F.run X.A X.stack s H ⟨us, ks.zip ws⟩ (g us ws) (gV vs zs) Q (E σ) hr I.env0 (hb.to s us ws I.kIn (r.length.symm.trans l1) (rz.length.symm.trans l2)) r2 h) fun r s' hq => ?_)
  cases r with
  | error e => exact hx pins H s e s' I hq
  | ok fl =>
    cases fl with
    | ret u => exact I.after hq
    | next => exact False.elim hq
    | brk => exact False.elim hq
    | cont => exact False.elim hq
theorem run_makeN {CX : CXT} {k n : Nat} {C fa : Addr} {fd : FuncData} {ps ks : List Str} {sp : Sp} {E : L2.St → XK} {g : List Value → List Value → List Value} {gV : List V → List V → List V} {pins : List (Addr × Obj)} {σ : L2.St} {H : Hp} {s : Shared} {Q : VK} {us ws : List Value} {vs zs : List V}
    (M : Mk X.K C fa) (F : FnOk X.prog X.w X.K X.mg X.base CX k fa fd ps sp) (hr : Room (k + 1) X.A) (hb : KBn X.K fd ps (n + 1) ks g gV) (hx : PassesAt CX X σ (E σ)) (I : Inv X pins σ H s) (r : Vals vs us) (rz : Vals zs ws) (l1 : vs.length = n) (l2 : zs.length = ks.length)
    (h : ∀ x dx, H x = none → H dx = none → dx ≠ x → sp (gV (.ref x :: vs) zs) (upd (upd H dx (.own x)) x (.ins C dx [])) (fun v H2 => v = .non ∧ Q (.ref x) H2) (E σ)) :
    wpAny (model X.prog X.w) X.A (call (.ref C) us (ks.zip ws)) (EP X pins σ Q) X.xe s := by
  have hq := h (s.heap.objs.size + 1) s.heap.objs.size (I.hok.fresh (Nat.le_succ _)) (I.hok.fresh (Nat.le_refl _)) (Nat.ne_of_lt (Nat.lt_succ_self _))
  have I2 := Inv.made (C := C) I
  have r1 : Vals (V.ref (s.heap.objs.size + 1) :: vs) (Value.ref (s.heap.objs.size + 1) :: us) := .cons rfl r
  have r2 := hb.rel r1 rz
  have bt := hb.to _ (Value.ref (s.heap.objs.size + 1) :: us) ws I2.kIn (by rw [List.length_cons, ← r.length, l1]) (rz.length.symm.trans l2)
  refine wpAny_call (make_map (f := fa) I.kIn M.makes M.init (beq_iff_eq.mp M.fn) (codeAny_mono (F.run _ X.stack _ _ ⟨Value.ref (s.heap.objs.size + 1) :: us, ks.zip ws⟩ _ _ _ (E σ) (hr.make C us (ks.zip ws)) (I2.env0.make C us (ks.zip ws)) bt r2 hq) fun r s' hq' => ?_))
  cases r with
  | error e => exact hx pins _ _ e s' I2 hq'
  | ok fl =>
    cases fl with
    | ret u =>
      obtain ⟨v, H', I3, rv, ev, q3⟩ := I2.after hq'
      subst ev
      exact ⟨rv, ⟨V.ref (s.heap.objs.size + 1), H', I3, rfl, q3⟩⟩
    | next => exact False.elim hq'
    | brk => exact False.elim hq'
    | cont => exact False.elim hq'
/-- the promise of a def, met -/
theorem sp_of {K : PySem.W.Frag} {f : Nm} {h : Mem} {H : Hp} {σ : L2.St} {n : Nat} {m : List Val → Mem → Res Val} {ts : List Val} {vs : List V} {Q : VK} (S : Sim L K f h H) (r : RVs L K f H ts vs) (hl : ts.length = n) (p : PostG L K (RV L K) W f σ H Q (m ts h)) :
    spF L K n m vs H Q (WE W σ) := by
  refine ⟨by rw [← r.length]; exact hl, f, h, ts, S, r, ?_⟩
  cases e : m ts h with
  | ok v h' => rw [e] at p; exact p
  | exc c fs h' => rw [e] at p; exact p
  | bad => rw [e] at p; exact p
theorem selV_len {us ws : List Val} : ∀ {sel : List Src} {vs : List Val}, selV us ws sel = some vs → vs.length = sel.length
  | [], vs, e => by simp [selV] at e; subst e; rfl
  | s :: r, vs, e => by
    simp only [selV] at e
    split at e
    · rename_i v ws e1 e2
      cases e
      rw [List.length_cons, List.length_cons, selV_len e2]
    · cases e
theorem bindGo_len {n : Nat} {ks : List Str} {dfl : List (Str × Val)} : ∀ {ps : List Str} {i : Nat} {sel : List Src}, bindGo n ks dfl i ps = some sel → sel.length = ps.length
  | [], _, sel, e => by simp [bindGo] at e; subst e; rfl
  | p :: ps, i, sel, e => by
    simp only [bindGo] at e
    split at e
    · rename_i s r e1 e2
      cases e
      rw [List.length_cons, List.length_cons, bindGo_len e2]
    · cases e
section
variable {Γ : Pg} {call : CallT} {g : Str} {D : FnD} {k : Nat} {es : List Expr} {kws : List Keyword} {das dks : MA} {sel : List Src} {p : Pos}
/-- f(..) of a def of the module -/
theorem s_callS (tk : Takes X W) (F : FnF L X.prog X.w X.K X.mg X.base k Γ call g D) (hr : Room k X.A) (hg : Gl X g) (hm : X.mg g = some (.ref (L.F g))) (hdb : (g == ("__debug__" : Str)) = false) (ha : PA X es (GoodA L X.K W das)) (hkw : PK X kws (GoodA L X.K W dks))
    (hst : es.all noStar = true) (hnm : kws.all (·.arg.isSome) = true) (hz : es = [] → das = aNil) (hz2 : kws = [] → dks = aNil) (hl : ∀ ρ h us h', das ρ h = .ok us h' → us.length = es.length) (hl2 : ∀ ρ h us h', dks ρ h = .ok us h' → us.length = kws.length)
    (hsh : (g, es.length, kws.filterMap (·.arg)) ∈ Γ.shapes) (hb : bindV D es.length (kws.filterMap (·.arg)) = some sel) (hkl : (kws.filterMap (·.arg)).length = kws.length) :
    PE X (.Call (.Name g p) es kws pos) (GoodE L X.K W (eCallS (call g) sel das dks)) := by
  refine ⟨fun pins s σ H Q I ⟨f, ρ, h, S, E, pp⟩ => ?_⟩
  refine wpAny_Call_Name_kw (ld_glob I hg hm ?_ hdb)
  obtain ⟨fd, Fo, Sh⟩ := F.ex
  obtain ⟨⟨gg, gV, kb, rel⟩, _⟩ := Sh _ _ _ hsh hb
  refine call_args (L := L) (W := W) F.kp ha hkw hst hnm hz hz2 I ⟨f, ρ, h, S, E, (PostG.bind (R := RVs L X.K) pp).imp fun vs H1 ⟨f1, us, h1, e1, X1, S1, R1, p1⟩ => ?_⟩
  refine ⟨f1, ρ, h1, S1, E.mono S X1, (PostG.bind (R := RVs L X.K) p1).imp fun zs H2 ⟨f2, ws, h2, e2, X2, S2, R2, p2⟩ => ?_⟩
  intro s2 uu ww I2 ru rw'
  cases es2 : selV us ws sel with
  | none => rw [es2] at p2; exact absurd p2 id
  | some ts =>
    rw [es2, Res.opt_some, Res.bind_ok] at p2
    have l1 := hl _ _ _ _ e1
    have l2 := hl2 _ _ _ _ e2
    have R1' := R1.mono S1 X2
    have RR := rel f2 H2 us ws vs zs ts R1' R2 l1 (by rw [l2, hkl]) es2
    refine run_shape (us := uu) (ws := ww) Fo hr kb (passAt tk σ) I2 ru rw' (by rw [← R1'.length, l1]) (by rw [← R2.length, l2, hkl]) ?_
    refine sp_of S2 RR ?_ p2
    rw [selV_len es2, bindGo_len hb]
/-- .. every parameter by position -/
theorem selV_id {us : List Val} : ∀ {m : Nat} {sel : List Src} {ps : List Str} {dfl : List (Str × Val)}, bindGo us.length [] dfl m ps = some sel → m + ps.length = us.length → selV us [] sel = some (us.drop m)
  | m, sel, [], dfl, e, hl => by
    simp [bindGo] at e
    subst e
    have : us.drop m = [] := List.drop_eq_nil_of_le (by simp at hl; omega)
    rw [this]
    rfl
  | m, sel, p :: ps, dfl, e, hl => by
    have hm : m < us.length := by rw [List.length_cons] at hl; omega
    simp only [bindGo, if_pos hm] at e
    split at e
    · rename_i s r e1 e2
      cases e1
      cases e
      have ih := selV_id e2 (by rw [List.length_cons] at hl; omega)
      simp only [selV, pick1]
      rw [ih, List.getElem?_eq_getElem hm]
      show some (us[m] :: us.drop (m + 1)) = _
      rw [← List.drop_eq_getElem_cons hm]
    · cases e
theorem s_call (tk : Takes X W) (F : FnF L X.prog X.w X.K X.mg X.base k Γ call g D) (hr : Room k X.A) (hg : Gl X g) (hm : X.mg g = some (.ref (L.F g))) (hdb : (g == ("__debug__" : Str)) = false) (ha : PA X es (GoodA L X.K W das))
    (hst : es.all noStar = true) (hz : es = [] → das = aNil) (hl : ∀ ρ h us h', das ρ h = .ok us h' → us.length = es.length)
    (hsh : (g, es.length, []) ∈ Γ.shapes) (hn : es.length = D.ps.length) :
    PE X (.Call (.Name g p) es [] pos) (GoodE L X.K W (eCall (call g) das)) := by
  cases hb : bindV D es.length [] with
  | none =>
    exfalso
    have : ∀ (ps : List Str) (i m : Nat), i + ps.length ≤ m → bindGo m [] D.dfl i ps ≠ none := by
      intro ps
      induction ps with
      | nil => intro i m _ e; simp [bindGo] at e
      | cons q qs ih =>
        intro i m hm e
        rw [List.length_cons] at hm
        have hi : i < m := by omega
        simp only [bindGo, if_pos hi] at e
        have i2 := ih (i + 1) m (by omega)
        cases z : bindGo m [] D.dfl (i + 1) qs with
        | none => exact i2 z
        | some r => rw [z] at e; cases e
    exact this D.ps 0 es.length (by omega) hb
  | some sel =>
    refine peImp (s_callS (dks := aNil) tk F hr hg hm hdb ha k_nil hst rfl hz (fun _ => rfl) hl (fun ρ h us h' e => by cases e; rfl) hsh hb rfl) fun σ H Q ⟨f, ρ, h, S, E, p⟩ => ⟨f, ρ, h, S, E, ?_⟩
    unfold eCallS
    unfold eCall at p
    cases e : das ρ h with
    | bad => rw [e] at p; exact p
    | exc c fs h' => rw [e] at p; exact p
    | ok us h1 =>
      rw [e] at p
      show PostG L X.K (RV L X.K) W f σ H Q ((Res.opt (selV us [] sel) h1).bind (call g))
      have l1 := hl _ _ _ _ e
      have := selV_id (us := us) (m := 0) (sel := sel) (ps := D.ps) (dfl := D.dfl) (by rw [l1]; exact hb) (by rw [l1, hn]; simp)
      rw [this, List.drop_zero]
      exact p
end
end
end Mp
set_option Elab.async false
set_option linter.all false
set_option maxRecDepth 100000
set_option maxHeartbeats 1000000
namespace Mp
open PySem PySem.Spec PyProof.Rows L2
/-! ### the machine: attributes, methods, isinstance, slices -/
def putFd (x : Str) (v : Val) : List (Str × Val) → List (Str × Val)
  | [] => [(x, v)]
  | (g, w) :: r => if g = x then (g, v) :: r else (g, w) :: putFd x v r
def attrOf (Γ : Pg) (call : CallT) (x : Str) (v : Val) (h : Mem) : Res Val := match v with
  | .ref n => match h[n]? with
    | some (.ins c fs) => match Γ.cls.lookup c with
      | some C => match C.props.lookup x with
        | some g => (call g [v] h).shut
        | none => if C.flds.contains x then Res.opt (fs.lookup x) h else .bad
      | none => .bad
    | _ => .bad
  | _ => .bad
def eAttr (Γ : Pg) (call : CallT) (x : Str) (a : ME) : ME := e1 (attrOf Γ call x) a
def setAttrM (Γ : Pg) (x : Str) (o v : Val) (h : Mem) : Res Val := match o with
  | .ref n => match h[n]? with
    | some (.ins c fs) => match Γ.cls.lookup c with
      | some C => if C.flds.contains x && decide (fs.length < 1000) then .ok .non (h.set n (.ins c (putFd x v fs))) else .bad
      | none => .bad
    | _ => .bad
  | _ => .bad
def sSetAttr (Γ : Pg) (x : Str) (o e : ME) : MS := fun ρ h => onE (e ρ h) ρ fun v h => onE (o ρ h) ρ fun ov h => onE (setAttrM Γ x ov v h) ρ fun _ h => .ok (.nx ρ) h
def sAugAttr (Γ : Pg) (x : Str) (o : ME) (op : Operator) (e : ME) : MS := fun ρ h => onE (o ρ h) ρ fun ov h => match ov with
  | .ref n => match h[n]? with
    | some (.ins c fs) => match Γ.cls.lookup c with
      | some C => if C.flds.contains x then (match fs.lookup x with
        | some v => onE (e ρ h) ρ fun y h => onE (augop op v y h) ρ fun z h => match h[n]? with
          | some (.ins c' fs') => if c' = c ∧ fs'.length < 1000 then .ok (.nx ρ) (h.set n (.ins c' (putFd x z fs'))) else .bad
          | _ => .bad
        | none => .bad) else .bad
      | none => .bad
    | _ => .bad
  | _ => .bad
/-- the methods of a list -/
inductive Lm where
  | append | extend | pop | clear | reverse | remove | index
def lmTab : List (Str × Lm) := [("append", .append), ("extend", .extend), ("pop", .pop), ("clear", .clear), ("reverse", .reverse), ("remove", .remove), ("index", .index)]
def lmOf (m : Str) : Option Lm := lmTab.lookup m
def lmRun (m : Lm) (n : Nat) (args : List Val) (h : Mem) : Res Val := match h[n]? with
  | some (.lst xs) => match m, args with
    | .append, [y] => if xs.length < sizeLine then .ok .non (h.set n (.lst (xs ++ [y]))) else .bad
    | .extend, [.ref b] => match h[b]? with
      | some (.lst zs) => if xs.length + zs.length ≤ sizeLine then .ok .non (h.set n (.lst (xs ++ zs))) else .bad
      | _ => .bad
    | .pop, [] => match xs[xs.length - 1]? with
      | some y => .ok y (h.set n (.lst xs.dropLast))
      | none => .bad
    | .pop, [.int i] => match ixN xs.length i with
      | some k => match xs[k]? with
        | some y => .ok y (h.set n (.lst (xs.eraseIdx k)))
        | none => .bad
      | none => .bad
    | .clear, [] => .ok .non (h.set n (.lst []))
    | .reverse, [] => .ok .non (h.set n (.lst xs.reverse))
    | .remove, [.int i] => match intsOf xs with
      | some ns => if i ∈ ns then .ok .non (h.set n (.lst ((ns.erase i).map .int))) else .bad
      | none => .bad
    | .index, [.int i] => match intsOf xs with
      | some ns => if i ∈ ns then .ok (.int ((ns.idxOf i : Nat) : Int)) h else .bad
      | none => .bad
    | _, _ => .bad
  | _ => .bad
/-- a def called with n values by position and the keywords ks -/
def callBy (Γ : Pg) (call : CallT) (g : Str) (n : Nat) (ks : List Str) (us ws : List Val) (h : Mem) : Res Val := match Γ.fns.lookup g with
  | some D => if decide ((g, n, ks) ∈ Γ.shapes) then (match bindV D n ks with
    | some sel => (Res.opt (selV us ws sel) h).bind (call g)
    | none => .bad) else .bad
  | none => .bad
/-- d.pop(k) -/
def dPop (a : Nat) (us : List Val) (h : Mem) : Res Val := match us with
  | [y] => match h[a]? with
    | some (.dic kvs) => match keyOf y with
      | some k => match dGet kvs k with
        | some v => .ok v (h.set a (.dic (dDrop kvs k)))
        | none => .bad
      | none => .bad
    | _ => .bad
  | _ => .bad
/-- d.get(k, x) -/
def dGetM (a : Nat) (us : List Val) (h : Mem) : Res Val := match us with
  | [y, d] => match h[a]? with
    | some (.dic kvs) => match keyOf y with
      | some k => .ok ((dGet kvs k).getD d) h
      | none => .bad
    | _ => .bad
  | _ => .bad
/-- sep.join(xs) -/
def strsOf : List Val → Option (List Str)
  | [] => some []
  | .str z :: xs => (strsOf xs).map (z :: ·)
  | _ => none
def sJoin (z : Str) (us : List Val) (h : Mem) : Res Val := match us with
  | [v] => match (lstOf h v).bind strsOf with
    | some ys => if (ys.map (·.length)).sum + ys.length * z.length ≤ 16777216 then .ok (.str (Txt.join z ys)) h else .bad
    | none => .bad
  | _ => .bad
/-- o.m(..): the object decides -/
def methBy (Γ : Pg) (call : CallT) (m : Str) (n : Nat) (ks : List Str) (as kas : MA) (ρ : Env) (v : Val) (h : Mem) : Res Val := match v with
  | .ref a => match h[a]? with
    | some (.ins c fs) => match Γ.cls.lookup c with
      | some C => match C.meths.lookup m with
        | some g => if (fs.lookup m).isNone then (as ρ h).bind fun us h => (kas ρ h).bind fun ws h => callBy Γ call g (n + 1) ks (v :: us) ws h else .bad
        | none => .bad
      | none => .bad
    | some (.lst _) => match lmOf m, ks with
      | some k, [] => (as ρ h).bind fun us h => lmRun k a us h
      | _, _ => .bad
    | some (.dic _) => match ks with
      | [] => if m = "pop" then (as ρ h).bind fun us h => dPop a us h else if m = "get" then (as ρ h).bind fun us h => dGetM a us h else .bad
      | _ => .bad
    | _ => .bad
  | .str z => match ks with
    | [] => if m = "join" then (as ρ h).bind fun us h => sJoin z us h else .bad
    | _ => .bad
  | _ => .bad
/-- x in o, x not in o: o may be an object -/
def inM (Γ : Pg) (call : CallT) (neg : Bool) (x y : Val) (h : Mem) : Res Val := match y with
  | .ref n => match h[n]? with
    | some (.ins c _) => match Γ.cls.lookup c with
      | some C => match C.meths.lookup ("__contains__" : Str) with
        | some g => match callBy Γ call g 2 [] [y, x] [] h with
          | .ok (.bl b) h => .ok (.bl (b != neg)) h
          | _ => .bad
        | none => .bad
      | none => .bad
    | _ => cmpR (if neg then .NotIn else .In) x y h
  | _ => cmpR (if neg then .NotIn else .In) x y h
def eIn (Γ : Pg) (call : CallT) (neg : Bool) (a b : ME) : ME := e2 (inM Γ call neg) a b
def eMeth (Γ : Pg) (call : CallT) (m : Str) (n : Nat) (ks : List Str) (o : ME) (as kas : MA) : ME := fun ρ h => (o ρ h).bind fun v h => methBy Γ call m n ks as kas ρ v h
/-- the built-in type of a value -/
def tyOf (h : Mem) : Val → Option String
  | .non => some "NoneType"
  | .bl _ => some "bool"
  | .int _ => some "int"
  | .str _ => some "str"
  | .tup _ => some "tuple"
  | .ref n => match h[n]? with
    | some (.lst _) => some "list"
    | some (.rol _) => some "list"
    | _ => none
  | .fn _ => none
def tyNames : List (Str × String) := [("int", "int"), ("bool", "bool"), ("str", "str"), ("list", "list"), ("tuple", "tuple"), ("dict", "dict")]
def subTy (t T : String) : Bool := t == T || (t == "bool" && T == "int")
def isiV (Ts : List String) (v : Val) (h : Mem) : Res Val := match tyOf h v with
  | some t => .ok (.bl (Ts.any (subTy t))) h
  | none => .bad
def eIsi (Ts : List String) (a : ME) : ME := e1 (isiV Ts) a
def cut {α : Type} (xs : List α) (lo hi : Option Int) : List α := (xs.drop (HT.sIx xs.length 0 lo)).take (HT.sIx xs.length xs.length hi - HT.sIx xs.length 0 lo)
def sliceV (v : Val) (lo hi : Option Int) (h : Mem) : Res Val := match v with
  | .tup ts => .ok (.tup (cut ts lo hi)) h
  | .str z => if z.length ≤ sizeLine then .ok (.str (Txt.slice z lo hi)) h else .bad
  | .ref n => match h[n]? with
    | some (.lst xs) => newL (cut xs lo hi) h
    | some (.rol xs) => newL (cut xs lo hi) h
    | _ => .bad
  | _ => .bad
abbrev MO := Env → Mem → Res (Option Int)
def oNone : MO := fun _ h => .ok none h
def oSome (e : ME) : MO := fun ρ h => (e ρ h).bind fun v h => match v with
  | .int i => .ok (some i) h
  | _ => .bad
def eSlice (a : ME) (lo hi : MO) : ME := fun ρ h => (a ρ h).bind fun v h => (lo ρ h).bind fun l h => (hi ρ h).bind fun u h => sliceV v l u h
def rgOk (a b : Int) : Bool := small62 a && small62 b && decide ((b - a).toNat ≤ 2 ^ 24)
def rgL (a b : Int) : List Val := (List.range (b - a).toNat).map fun i => .int (a + (i : Nat))
/-- list(range(..)) -/
def eListR1 (a : ME) : ME := e1 (fun v h => match v with
  | .int j => if rgOk 0 j then newL (rgL 0 j) h else .bad
  | _ => .bad) a
def eListR2 (a b : ME) : ME := e2 (fun v u h => match v, u with
  | .int i, .int j => if rgOk i j then newL (rgL i j) h else .bad
  | _, _ => .bad) a b
section
variable {L : Lk} {X : Cx} {W : WX} {pos : Pos} {a b c : Expr} {da db dc : ME} {Γ : Pg} {call : CallT} {k : Nat}
theorem Res.shut_post {K : PySem.W.Frag} {f : Nm} {σ : L2.St} {H : Hp} {Q : VK} {r : Res Val} (p : PostG L K (RV L K) W f σ H Q r.shut) : PostG L K (RV L K) WF f σ H Q r := by
  cases r with
  | ok v h => exact p
  | exc c fs h => exact absurd p id
  | bad => exact p
theorem base_ok {o : Expr} {x : Str} (h : (match o with | .Call (.Name _ _) [] [] _ => false | _ => true) = true) : attributeBase o x X.env (eval o X.env) = eval o X.env := by
  unfold attributeBase
  split
  · simp at h
  · rfl
theorem rf_get {K : PySem.W.Frag} {f : Nm} {H : Hp} {x : Str} : ∀ {fs : List (Str × Val)} {gs : List (Str × V)}, RFs L K f H fs gs → (∀ v, fs.lookup x = some v → ∃ v', gs.lookup x = some v' ∧ RV L K f H v v') ∧ (fs.lookup x = none → gs.lookup x = none)
  | [], gs, r => by
    obtain ⟨r1, r2⟩ := r
    have : gs = [] := by cases gs <;> simp at r1 ⊢
    subst this
    exact ⟨fun v e => (by cases e), fun _ => rfl⟩
  | (g, w) :: fs, gs, r => by
    obtain ⟨r1, r2⟩ := r
    cases gs with
    | nil => simp at r1
    | cons q gs =>
      obtain ⟨g', w'⟩ := q
      simp only [List.map_cons, List.cons.injEq] at r1
      obtain ⟨rfl, r1⟩ := r1
      simp only [List.map_cons] at r2
      unfold RVs at r2
      obtain ⟨v0, q0, e0, z1, z2⟩ := r2
      simp only [List.cons.injEq] at e0
      obtain ⟨e1, e2⟩ := e0
      subst e1
      subst e2
      obtain ⟨i1, i2⟩ := rf_get (x := x) (fs := fs) (gs := gs) ⟨r1, z2⟩
      by_cases hx : (x == g) = true
      · simp only [List.lookup_cons, hx]
        exact ⟨fun v e => by cases e; exact ⟨w', rfl, z1⟩, fun e => by cases e⟩
      · have hx : (x == g) = false := by simpa using hx
        simp only [List.lookup_cons, hx]
        exact ⟨i1, i2⟩
theorem rf_put {K : PySem.W.Frag} {f : Nm} {H : Hp} {x : Str} {v : Val} {v' : V} (rv : RV L K f H v v') : ∀ {fs : List (Str × Val)} {gs : List (Str × V)}, RFs L K f H fs gs → RFs L K f H (putFd x v fs) (putF x v' gs)
  | [], gs, r => by
    obtain ⟨r1, r2⟩ := r
    have : gs = [] := by cases gs <;> simp at r1 ⊢
    subst this
    exact ⟨rfl, RVs.cons rv RVs.nil⟩
  | (g, w) :: fs, gs, r => by
    obtain ⟨r1, r2⟩ := r
    cases gs with
    | nil => simp at r1
    | cons q gs =>
      obtain ⟨g', w'⟩ := q
      simp only [List.map_cons, List.cons.injEq] at r1
      obtain ⟨rfl, r1⟩ := r1
      simp only [List.map_cons] at r2
      unfold RVs at r2
      obtain ⟨v0, q0, e0, z1, z2⟩ := r2
      simp only [List.cons.injEq] at e0
      obtain ⟨e1, e2⟩ := e0
      subst e1
      subst e2
      unfold putFd putF
      by_cases hx : g = x
      · rw [if_pos hx, if_pos hx]
        exact ⟨by simp [r1], RVs.cons rv z2⟩
      · rw [if_neg hx, if_neg hx]
        obtain ⟨i1, i2⟩ := rf_put (x := x) (v := v) (v' := v') rv (fs := fs) (gs := gs) ⟨r1, z2⟩
        exact ⟨by simp [i1], RVs.cons z1 i2⟩
theorem Sim.ins {K : PySem.W.Frag} {f : Nm} {h : Mem} {H : Hp} (S : Sim L K f h H) {n : Nat} {ad : Addr} {cl : Str} {fs : List (Str × Val)} (e : f n = some ad) (q : h[n]? = some (.ins cl fs)) : ∃ dx gs, H ad = some (.ins (L.C cl) dx gs) ∧ RFs L K f H fs gs := by
  obtain ⟨o, q', r⟩ := S.at_ n ad e
  rw [q] at q'; cases q'
  exact r
theorem flds_of {C : ClD} {x : Str} (h : C.flds.contains x = true) : x ∈ C.flds := by simpa using h
/-- e.x -/
theorem s_attr {x : Str} (ha : PE X a (GoodE L X.K W da)) (CF : ∀ c C, Γ.cls.lookup c = some C → ClF L X.K c C) (PF : ∀ c C g, Γ.cls.lookup c = some C → C.props.lookup x = some g → ∃ D, FnF L X.prog X.w X.K X.mg X.base k Γ call g D ∧ D.ps.length = 1 ∧ (g, 1, []) ∈ Γ.shapes ∧ ∃ sel, bindV D 1 [] = some sel) (hr : Room (k + 1) X.A)
    (hab : attributeBase a x X.env (eval a X.env) = eval a X.env) : PE X (.Attribute a x pos) (GoodE L X.K W (eAttr Γ call x da)) := by
  refine ⟨fun pins s σ H Q I ⟨f, ρ, h, S, E, p⟩ => ?_⟩
  have q := PostG.bind (R := RV L X.K) p
  have other : (∀ v h1, da ρ h = .ok v h1 → False) → wpAny (model X.prog X.w) X.A (eval (.Attribute a x pos) X.env) (EP X pins σ Q) X.xe s := fun no => by
    refine (pe_fld ha hab).run pins s σ H Q I ⟨f, ρ, h, S, E, q.imp fun v' H1 ⟨f1, v, h1, e1, _⟩ => absurd e1 (fun z => no _ _ z)⟩
  cases e : da ρ h with
  | bad => exact other fun v h1 z => by rw [e] at z; cases z
  | exc c fs h1 => exact other fun v h1 z => by rw [e] at z; cases z
  | ok v h1 =>
    have p0 : PostG L X.K (RV L X.K) W f σ H Q (attrOf Γ call x v h1) := by
      unfold eAttr e1 at p
      rw [e] at p
      exact p
    cases v with
    | ref n =>
      cases eo : h1[n]? with
      | none => simp only [attrOf, eo] at p0; exact absurd p0 id
      | some o =>
        cases o with
        | lst xs => simp only [attrOf, eo] at p0; exact absurd p0 id
        | rol xs => simp only [attrOf, eo] at p0; exact absurd p0 id
        | dic kvs => simp only [attrOf, eo] at p0; exact absurd p0 id
        | frd kvs => simp only [attrOf, eo] at p0; exact absurd p0 id
        | ins cl fs =>
          cases ec : Γ.cls.lookup cl with
          | none => simp only [attrOf, eo, ec] at p0; exact absurd p0 id
          | some C =>
            have cf := CF cl C ec
            cases ep : C.props.lookup x with
            | some g =>
              obtain ⟨D, F, hl1, hsh, sel, hb⟩ := PF cl C g ec ep
              obtain ⟨fd, Fo, Sh⟩ := F.ex
              obtain ⟨_, bb⟩ := Sh _ _ _ hsh hb
              obtain ⟨pq, pr⟩ := cf.pr (x, g) (PySem.mem_of_lookup ep)
              refine (pe_prop ha cf.cl pr Fo hr (bb rfl hl1.symm) .nil passL hab).run pins s σ H Q I ⟨f, ρ, h, S, E, ?_⟩
              rw [e]
              intro f1 H1 v' X1 S1 R1
              obtain ⟨ad, ea, rfl⟩ := rv_ref R1
              obtain ⟨dx, gs, hi, rf⟩ := S1.ins ea eo
              refine ⟨ad, dx, gs, rfl, hi, ?_⟩
              simp only [attrOf, eo, ec, ep] at p0
              have p1 := PostG.ext (Res.shut_post p0) X1
              exact sp_of (W := WF) (σ := σ) S1 (RVs.cons R1 RVs.nil) (by rw [hl1]; rfl) p1
            | none =>
              refine (pe_fld ha hab).run pins s σ H Q I ⟨f, ρ, h, S, E, ?_⟩
              rw [e]
              intro f1 H1 v' X1 S1 R1
              obtain ⟨ad, ea, rfl⟩ := rv_ref R1
              obtain ⟨dx, gs, hi, rf⟩ := S1.ins ea eo
              simp only [attrOf, eo, ec, ep] at p0
              split at p0
              · rename_i hf
                cases el : fs.lookup x with
                | none => rw [el] at p0; exact absurd p0 id
                | some v =>
                  rw [el] at p0
                  obtain ⟨w, l1, l2⟩ := (rf_get (x := x) rf).1 v el
                  exact ⟨ad, _, dx, gs, w, rfl, hi, cf.cl, cf.no x (flds_of hf), l1, p0 f1 H1 w X1 S1 l2⟩
              · exact absurd p0 id
    | non => simp only [attrOf] at p0; exact absurd p0 id
    | bl _ => simp only [attrOf] at p0; exact absurd p0 id
    | int _ => simp only [attrOf] at p0; exact absurd p0 id
    | str _ => simp only [attrOf] at p0; exact absurd p0 id
    | tup _ => simp only [attrOf] at p0; exact absurd p0 id
    | fn _ => simp only [attrOf] at p0; exact absurd p0 id
theorem setAttr_ok {f : Nm} {h : Mem} {H : Hp} {σ : L2.St} {x : Str} {o v : Val} {o' v' : V} {Q : V → Hp → Prop} (CF : ∀ c C, Γ.cls.lookup c = some C → ClF L X.K c C) (S : Sim L X.K f h H) (ro : RV L X.K f H o o') (rv : RV L X.K f H v v')
    (p : PostG L X.K (RV L X.K) W f σ H Q (setAttrM Γ x o v h)) : ∃ ad C dx fs, o' = .ref ad ∧ H ad = some (.ins C dx fs) ∧ Cls X.K C ∧ NoAttr X.K C x ∧ fs.length < 1000 ∧ Q .non (upd H ad (.ins C dx (putF x v' fs))) := by
  cases o with
  | ref n =>
    obtain ⟨ad, ea, rfl⟩ := rv_ref ro
    simp only [setAttrM] at p
    cases eo : h[n]? with
    | none => rw [eo] at p; exact absurd p id
    | some ob =>
      rw [eo] at p
      cases ob with
      | lst xs => exact absurd p id
      | rol xs => exact absurd p id
      | dic kvs => exact absurd p id
      | frd kvs => exact absurd p id
      | ins cl fs =>
        dsimp only at p
        cases ec : Γ.cls.lookup cl with
        | none => rw [ec] at p; exact absurd p id
        | some C =>
          rw [ec] at p
          have cf := CF cl C ec
          dsimp only at p
          split at p
          · rename_i hz
            rw [Bool.and_eq_true] at hz
            obtain ⟨dx, gs, hi, rf⟩ := S.ins ea eo
            have hlen : fs.length = gs.length := by
              have := congrArg List.length rf.1
              simpa using this
            refine ⟨ad, _, dx, gs, rfl, hi, cf.cl, cf.no x (flds_of hz.1), by rw [← hlen]; exact of_decide_eq_true hz.2, ?_⟩
            have xx := ext_upd (o := .ins (L.C cl) dx (putF x v' gs)) ea hi
            have rp := rf_put (x := x) rv rf
            exact p f _ .non xx (S.wr ea hi ⟨dx, _, upd_same, rp.1, rp.2.mono S xx⟩) mk_non
          · exact absurd p id
  | _ => simp only [setAttrM] at p; exact absurd p id
theorem st_setAttr {x : Str} {tp : Pos} (CF : ∀ c C, Γ.cls.lookup c = some C → ClF L X.K c C) (ha : PE X a (GoodE L X.K W da)) (hb : PE X b (GoodE L X.K W db)) (hs : swapsWith b (some (.Attribute a x tp)) pos.line X.env = pure false) :
    PS X (.Assign [.Attribute a x tp] b pos) (GoodS L X.K W (sSetAttr Γ x da db)) := by
  refine psImp (ps_fld ha hb hs) fun D σ H ⟨f, ρ, h, S, E, p⟩ => ?_
  refine ⟨f, ρ, h, S, E, (PostS.onE (R := RV L X.K) E S p).imp fun v' H1 ⟨f1, v, h1, e1, X1, S1, E1, R1, p1⟩ => ?_⟩
  refine ⟨f1, ρ, h1, S1, E1, (PostS.onE (R := RV L X.K) E1 S1 p1).imp fun o' H2 ⟨f2, o, h2, e2, X2, S2, E2, R2, p2⟩ => ?_⟩
  refine setAttr_ok (W := W) (σ := σ) (Q := fun _ H3 => D.nx σ H3) CF S2 R2 (R1.mono S1 X2) ?_
  exact (PostS.onE (R := RV L X.K) E2 S2 p2).imp fun v' H4 ⟨f4, v4, h4, e4, X4, S4, E4, R4, p4⟩ => p4 f4 H4 σ (Ext.refl _ _) S4 E4
theorem st_augAttr {x : Str} {op : Operator} {tp : Pos} (CF : ∀ c C, Γ.cls.lookup c = some C → ClF L X.K c C) (ha : PE X a (GoodE L X.K W da)) (hb : PE X b (GoodE L X.K W db)) :
    PS X (.AugAssign (.Attribute a x tp) op b pos) (GoodS L X.K W (sAugAttr Γ x da op db)) := by
  refine psImp (ps_fldaug ha hb (rd := ipV L X.K op) (fun pins s σ H x y u v Q I r1 r2 q => ipV_ok op pins s σ H x y u v Q I r1 r2 q)) fun D σ H ⟨f, ρ, h, S, E, p⟩ => ?_
  refine ⟨f, ρ, h, S, E, (PostS.onE (R := RV L X.K) E S p).imp fun o' H1 ⟨f1, o, h1, e1, X1, S1, E1, R1, p1⟩ => ?_⟩
  cases o with
  | ref n =>
    obtain ⟨ad, ea, rfl⟩ := rv_ref R1
    dsimp only at p1
    cases eo : h1[n]? with
    | none => rw [eo] at p1; exact absurd p1 id
    | some ob =>
      rw [eo] at p1
      cases ob with
      | lst xs => exact absurd p1 id
      | rol xs => exact absurd p1 id
      | dic kvs => exact absurd p1 id
      | frd kvs => exact absurd p1 id
      | ins cl fs =>
        dsimp only at p1
        cases ec : Γ.cls.lookup cl with
        | none => rw [ec] at p1; exact absurd p1 id
        | some C =>
          rw [ec] at p1
          have cf := CF cl C ec
          dsimp only at p1
          split at p1
          · rename_i hz
            obtain ⟨dx, gs, hi, rf⟩ := S1.ins ea eo
            cases el : fs.lookup x with
            | none => rw [el] at p1; exact absurd p1 id
            | some v =>
              rw [el] at p1
              dsimp only at p1
              obtain ⟨w, l1, l2⟩ := (rf_get (x := x) rf).1 v el
              refine ⟨ad, _, dx, gs, w, rfl, hi, cf.cl, cf.no x (flds_of hz), l1, ?_⟩
              refine ⟨f1, ρ, h1, S1, E1, (PostS.onE (R := RV L X.K) E1 S1 p1).imp fun y' H2 ⟨f2, y, h2, e2, X2, S2, E2, R2, p2⟩ => ?_⟩
              refine ⟨f2, h2, v, y, S2, l2.mono S1 X2, R2, ((PostS.onE (R := RV L X.K) E2 S2 p2).nox (augop_nox _ _ _ _)).imp fun z' H3 ⟨f3, z, h3, e3, X3, S3, E3, R3, p3⟩ => ?_⟩
              have ea3 : f3 n = some ad := X3.le n ad (X2.le n ad ea)
              cases eo3 : h3[n]? with
              | none => rw [eo3] at p3; exact absurd p3 id
              | some ob3 =>
                rw [eo3] at p3
                cases ob3 with
                | lst xs => exact absurd p3 id
                | rol xs => exact absurd p3 id
                | dic kvs => exact absurd p3 id
                | frd kvs => exact absurd p3 id
                | ins c3 fs3 =>
                  dsimp only at p3
                  split at p3
                  · rename_i hy
                    obtain ⟨rfl, hy⟩ := hy
                    obtain ⟨dx3, gs3, hi3, rf3⟩ := S3.ins ea3 eo3
                    have hlen : fs3.length = gs3.length := by
                      have := congrArg List.length rf3.1
                      simpa using this
                    refine ⟨dx3, gs3, hi3, by rw [← hlen]; exact hy, ?_⟩
                    have xx := ext_upd (o := .ins (L.C c3) dx3 (putF x z' gs3)) ea3 hi3
                    have rp := rf_put (x := x) R3 rf3
                    exact p3 f3 _ σ xx (S3.wr ea3 hi3 ⟨dx3, _, upd_same, rp.1, rp.2.mono S3 xx⟩) (E3.mono S3 xx)
                  · exact absurd p3 id
          · exact absurd p1 id
  | _ => dsimp only at p1; exact absurd p1 id
end
end Mp
set_option Elab.async false
set_option linter.all false
set_option maxRecDepth 100000
set_option maxHeartbeats 1000000
namespace Mp
open PySem PySem.Spec PyProof.Rows L2
section
variable {L : Lk} {X : Cx} {W : WX} {pos : Pos} {a b c o : Expr} {da db dc do_ : ME} {Γ : Pg} {call : CallT} {k : Nat} {es : List Expr} {kws : List Keyword} {das dks : MA}
/-! ### C(..) -/
theorem dropNon_ok {K : PySem.W.Frag} {f f' : Nm} {H H' : Hp} {σ : L2.St} {Q : VK} {r : Res Val} {n : Nat} {x : Addr} (xx : Ext f f' H H') (en : f' n = some x) (p : PostG L K (RV L K) W f σ H Q (dropNon r (.ref n))) :
    PostG L K (RV L K) W f' σ H' (fun v H2 => v = .non ∧ Q (.ref x) H2) r := by
  cases r with
  | ok v h =>
    cases v with
    | non =>
      intro f2 H2 v' X2 S2 R2
      exact ⟨rv_non R2, p f2 H2 _ (xx.trans X2) S2 (mk_ref (X2.le _ _ en))⟩
    | _ => exact absurd p id
  | exc c fs h => exact fun f2 H2 cls d X2 S2 rx => p f2 H2 cls d (xx.trans X2) S2 rx
  | bad => exact p
theorem s_make {cl : Str} {C : ClD} {D : FnD} {sel : List Src} {p : Pos} (tk : Takes X W) (cf : ClF L X.K cl C) (F : FnF L X.prog X.w X.K X.mg X.base k Γ call C.init D) (hr : Room (k + 1) X.A) (hg : Gl X cl) (hm : X.mg cl = some (.ref (L.C cl))) (hdb : (cl == ("__debug__" : Str)) = false)
    (ha : PA X es (GoodA L X.K W das)) (hkw : PK X kws (GoodA L X.K W dks)) (hst : es.all noStar = true) (hnm : kws.all (·.arg.isSome) = true) (hz : es = [] → das = aNil) (hz2 : kws = [] → dks = aNil)
    (hl : ∀ ρ h us h', das ρ h = .ok us h' → us.length = es.length) (hl2 : ∀ ρ h us h', dks ρ h = .ok us h' → us.length = kws.length)
    (hsh : (C.init, es.length + 1, kws.filterMap (·.arg)) ∈ Γ.shapes) (hb : bindV D (es.length + 1) (kws.filterMap (·.arg)) = some sel) (hkl : (kws.filterMap (·.arg)).length = kws.length) :
    PE X (.Call (.Name cl p) es kws pos) (GoodE L X.K W (eMake (call C.init) cl sel das dks)) := by
  refine ⟨fun pins s σ H Q I ⟨f, ρ, h, S, E, pp⟩ => ?_⟩
  refine wpAny_Call_Name_kw (ld_glob I hg hm ?_ hdb)
  obtain ⟨fd, Fo, Sh⟩ := F.ex
  obtain ⟨⟨gg, gV, kb, rel⟩, _⟩ := Sh _ _ _ hsh hb
  refine call_args (L := L) (W := W) cf.mak.kp ha hkw hst hnm hz hz2 I ⟨f, ρ, h, S, E, (PostG.bind (R := RVs L X.K) pp).imp fun vs H1 ⟨f1, us, h1, e1, X1, S1, R1, p1⟩ => ?_⟩
  refine ⟨f1, ρ, h1, S1, E.mono S X1, (PostG.bind (R := RVs L X.K) p1).imp fun zs H2 ⟨f2, ws, h2, e2, X2, S2, R2, p2⟩ => ?_⟩
  intro s2 uu ww I2 ru rw'
  have l1 := hl _ _ _ _ e1
  have l2 := hl2 _ _ _ _ e2
  have R1' := R1.mono S1 X2
  refine run_makeN (us := uu) (ws := ww) cf.mak Fo hr kb (passAt tk σ) I2 ru rw' (by rw [← R1'.length, l1]) (by rw [← R2.length, l2, hkl]) ?_
  intro x dx hx hdx ne
  unfold mkI at p2
  cases es2 : selV (.ref h2.length :: us) ws sel with
  | none => rw [es2] at p2; exact absurd p2 id
  | some ts =>
    rw [es2] at p2
    dsimp only at p2
    have hx1 : upd H2 dx (.own x) x = none := by rw [upd_ne (Ne.symm ne)]; exact hx
    have S3 := S2.out (o := .own x) hdx
    have S4 := S3.alloc (o := .ins (L.C cl) dx []) (ob := .ins cl []) hx1 ⟨dx, [], upd_same, rfl, RVs.nil⟩
    have X4 : Ext f2 (put f2 h2.length x) H2 (upd (upd H2 dx (.own x)) x (.ins (L.C cl) dx [])) := (ext_new hdx).trans (ext_put S3 hx1)
    have Rself : RVs L X.K (put f2 h2.length x) (upd (upd H2 dx (.own x)) x (.ins (L.C cl) dx [])) (.ref h2.length :: us) (.ref x :: vs) := RVs.cons (mk_ref put_same) (R1'.mono S2 X4)
    have RR := rel _ _ (.ref h2.length :: us) ws (.ref x :: vs) zs ts Rself (R2.mono S2 X4) (by rw [List.length_cons, l1]) (by rw [l2, hkl]) es2
    exact sp_of S4 RR (by rw [selV_len es2, bindGo_len hb]) (dropNon_ok X4 put_same p2)
/-! ### o.m(..) -/
theorem meth_tree {m : Str} {apos : Pos} (hb : attributeBase o m X.env (eval o X.env) = eval o X.env) (hf : methodCallForm (es.length + kws.length) (backTo pos (starEach es X.env)) (backToKw pos (keywordEach kws X.env)) = true) (hl : (apos.endLine == pos.line) = true) :
    eval (.Call (.Attribute o m apos) es kws pos) X.env = (do
      let ov ← eval o X.env
      standAt apos.atName
      let (f, first) ← holding [ov] (getMethod ov m (do return (← importBound o X.env).getD true))
      callWith pos f first (backTo pos (starEach es X.env)) (backToKw pos (keywordEach kws X.env))) := by
  rw [arm_eval_Call, hb]
  simp only [methodCall, calleeOf, hf, if_true, methodCallPos, hl, Bool.not_true, Bool.false_or, pure_bind]
theorem star_all {env : PySem.Env} {pos : Pos} : ∀ {es : List Expr}, es.all noStar = true → (backTo pos (starEach es env)).all (!·.1) = true
  | [], _ => rfl
  | e :: es, h => by
    simp only [List.all_cons, Bool.and_eq_true] at h
    rw [star_cons h.1]
    show (true && (backTo pos (starEach es env)).all (!·.1)) = true
    rw [star_all h.2]
    rfl
theorem few_ok (hst : es.all noStar = true) (hnm : kws.all (·.arg.isSome) = true) (hn : es.length + kws.length + 1 < 30) : methodCallForm (es.length + kws.length) (backTo pos (starEach es X.env)) (backToKw pos (keywordEach kws X.env)) = true := by
  unfold methodCallForm
  rw [star_all hst, (kw_all hnm).1]
  simp only [Bool.and_self, Bool.true_and, decide_eq_true_eq]
  split <;> omega
/-- what a list's method asks -/
def rLm (L : Lk) (K : PySem.W.Frag) (m : Lm) : V → List V → Hp → VK → Prop := fun x xs' H Q => ∃ f h n ad us, x = .ref ad ∧ f n = some ad ∧ Sim L K f h H ∧ RVs L K f H us xs' ∧ PostG L K (RV L K) WF f [] H Q (lmRun m n us h)
def Lm.id : Lm → String
  | .append => "list.append"
  | .extend => "list.extend"
  | .pop => "list.pop"
  | .clear => "list.clear"
  | .reverse => "list.reverse"
  | .remove => "list.remove"
  | .index => "list.index"
theorem RVs.zero {K : PySem.W.Frag} {f : Nm} {H : Hp} {vs : List V} (r : RVs L K f H [] vs) : vs = [] := by unfold RVs at r; exact r
theorem lmRun_nox (m : Lm) (n : Nat) (us : List Val) (h : Mem) : NoX (lmRun m n us h) := by
  unfold lmRun
  split
  · split <;> (try split) <;> (try split) <;> exact True.intro
  · exact True.intro
theorem idx_le : ∀ {ns : List Int} {m : Nat} {y : Int}, ns[m]? = some y → ns.idxOf y ≤ m
  | n :: ns, 0, y, e => by
    have : n = y := by simpa using e
    simp [this]
  | n :: ns, m + 1, y, e => by
    have ih := idx_le (ns := ns) (m := m) (y := y) (by simpa using e)
    rw [List.idxOf_cons]
    cases n == y <;> simp <;> omega
theorem lm_ok (m : Lm) : MtR X m.id (rLm L X.K m) := by
  intro pins s σ H x' xs' v us Q I rx rv ⟨f, h, n, ad, us', ex, ea, S, R, p⟩
  subst ex
  unfold lmRun at p
  split at p
  · rename_i xs q
    obtain ⟨vs, hv, rvs⟩ := S.lst ea q
    split at p
    · split at p
      · rename_i y hz
        obtain ⟨y', rfl, ry⟩ := R.one
        refine mt_append pins s σ H _ _ v us Q I rx rv ⟨ad, vs, y', rfl, rfl, hv, by rw [← rvs.length]; exact hz, ?_⟩
        have xx := ext_upd (o := .lst (vs ++ [y'])) ea hv
        exact p f _ _ xx (S.wr ea hv ⟨_, upd_same, (rvs.append (RVs.cons ry RVs.nil)).mono S xx⟩) mk_non
      · exact absurd p id
    · split at p
      · rename_i bb zs qb
        split at p
        · rename_i hz
          obtain ⟨y', rfl, ry⟩ := R.one
          obtain ⟨ab, eb, rfl⟩ := rv_ref ry
          obtain ⟨ws, hw, rws⟩ := S.lst eb qb
          refine mt_extend pins s σ H _ _ v us Q I rx rv ⟨ad, ab, vs, ws, rfl, rfl, hv, hw, by rw [← rvs.length, ← rws.length]; exact hz, ?_⟩
          have xx := ext_upd (o := .lst (vs ++ ws)) ea hv
          exact p f _ _ xx (S.wr ea hv ⟨_, upd_same, (rvs.append rws).mono S xx⟩) mk_non
        · exact absurd p id
      · exact absurd p id
    · split at p
      · rename_i y ey
        obtain rfl := R.zero
        obtain ⟨y', q1, q2⟩ := rvs.get ey
        rw [rvs.length] at q1
        refine mt_pop pins s σ H _ _ v us Q I rx rv ⟨ad, vs, y', rfl, rfl, hv, q1, ?_⟩
        have xx := ext_upd (o := .lst vs.dropLast) ea hv
        exact p f _ _ xx (S.wr ea hv ⟨_, upd_same, rvs.dropLast.mono S xx⟩) (q2.mono S xx)
      · exact absurd p id
    · split at p
      · rename_i i _ kk ek
        split at p
        · rename_i y ey
          obtain ⟨i', rfl, ri⟩ := R.one
          obtain rfl := rv_int ri
          obtain ⟨y', q1, q2⟩ := rvs.get ey
          obtain ⟨h1, h2, h3, h4⟩ := ixN_seq ek
          have hz := (I.lst hv)
          obtain ⟨_, _, _, _, hzz⟩ := hz
          have hn := line63
          rw [rvs.length] at h1 h2 h3 h4
          refine mt_popAt pins s σ H _ _ v us Q I rx rv ⟨ad, vs, i, kk, y', rfl, rfl, hv, by omega, by omega, h1, q1, ?_⟩
          have xx := ext_upd (o := .lst (vs.eraseIdx kk)) ea hv
          exact p f _ _ xx (S.wr ea hv ⟨_, upd_same, (rvs.eraseIdx kk).mono S xx⟩) (q2.mono S xx)
        · exact absurd p id
      · exact absurd p id
    · obtain rfl := R.zero
      refine mt_clear pins s σ H _ _ v us Q I rx rv ⟨ad, vs, rfl, rfl, hv, ?_⟩
      have xx := ext_upd (o := .lst []) ea hv
      exact p f _ _ xx (S.wr ea hv ⟨_, upd_same, RVs.nil⟩) mk_non
    · obtain rfl := R.zero
      refine mt_reverse pins s σ H _ _ v us Q I rx rv ⟨ad, vs, rfl, rfl, hv, ?_⟩
      have xx := ext_upd (o := .lst vs.reverse) ea hv
      exact p f _ _ xx (S.wr ea hv ⟨_, upd_same, rvs.reverse.mono S xx⟩) mk_non
    · split at p
      · rename_i i _ ns en
        split at p
        · rename_i hk
          obtain ⟨i', rfl, ri⟩ := R.one
          obtain rfl := rv_int ri
          obtain rfl := ints_ok en rvs
          obtain ⟨j, j1, j2, j3, j4⟩ := first_at hk
          refine mt_remove pins s σ H _ _ v us Q I rx rv ⟨ad, ns, i, j, rfl, rfl, hv, j2, j3, ?_⟩
          rw [j4]
          have xx := ext_upd (o := .lst ((ns.erase i).map V.int)) ea hv
          exact p f _ _ xx (S.wr ea hv ⟨_, upd_same, RVs.ints _⟩) mk_non
        · exact absurd p id
      · exact absurd p id
    · split at p
      · rename_i i _ ns en
        split at p
        · rename_i hk
          obtain ⟨i', rfl, ri⟩ := R.one
          obtain rfl := rv_int ri
          obtain rfl := ints_ok en rvs
          have hj : ns.idxOf i < ns.length := List.idxOf_lt_length_of_mem hk
          have ej : ns[ns.idxOf i]? = some i := by rw [List.getElem?_eq_getElem hj, List.getElem_idxOf]
          refine mt_index pins s σ H _ _ v us Q I rx rv ⟨ad, ns.map V.int, .int i, ns.idxOf i, .int i, rfl, rfl, .inl (.inl hv), rfl, ?_, by rw [List.getElem?_map, ej]; rfl, by simp [eqV], fun m z' hm ez => ?_, now S (mk_int _) p⟩
          · rw [List.all_map]
            exact List.all_eq_true.mpr fun _ _ => rfl
          · rw [List.getElem?_map] at ez
            cases em : ns[m]? with
            | none => rw [em] at ez; cases ez
            | some y =>
              rw [em] at ez
              cases ez
              have : y ≠ i := fun w => by
                subst w
                exact absurd hm (Nat.not_lt.mpr (idx_le em))
              simp [eqV, this]
        · exact absurd p id
      · exact absurd p id
    · exact absurd p id
  · exact absurd p id
theorem lm_pe {m : Str} {lm : Lm} {apos : Pos} {e : Expr} (hm : lmOf m = some lm) (ho : PE X o (GoodE L X.K W do_)) (ha : PA X (e :: es) (GoodA L X.K W das)) (hbase : attributeBase o m X.env (eval o X.env) = eval o X.env) (hst : (e :: es).all noStar = true) (hn : (e :: es).length + 1 < 30) (hline : (apos.endLine == pos.line) = true) :
    PE X (.Call (.Attribute o m apos) (e :: es) [] pos) (tBM X.K "list" (rLm L X.K lm) (GoodE L X.K W do_) (GoodA L X.K W das)) := by
  have hfew := few_ok (X := X) (pos := pos) (es := e :: es) (kws := []) hst rfl (by simpa using hn)
  simp only [List.all_cons, Bool.and_eq_true] at hst
  have h1 := star_cons (es := es) (env := X.env) hst.1
  have h2 := star_any (env := X.env) (pos := pos) hst.2
  have mm := PySem.mem_of_lookup hm
  simp only [lmTab, List.mem_cons, Prod.mk.injEq, List.not_mem_nil, or_false] at mm
  rcases mm with ⟨rfl, rfl⟩ | ⟨rfl, rfl⟩ | ⟨rfl, rfl⟩ | ⟨rfl, rfl⟩ | ⟨rfl, rfl⟩ | ⟨rfl, rfl⟩ | ⟨rfl, rfl⟩
  · exact pe_bm PySem.F.plainAttrs_list PySem.F.slot_list_append PySem.F.type_list_append (lm_ok .append) ho ha hbase hfew hline h1 h2
  · exact pe_bm PySem.F.plainAttrs_list PySem.F.slot_list_extend PySem.F.type_list_extend (lm_ok .extend) ho ha hbase hfew hline h1 h2
  · exact pe_bm PySem.F.plainAttrs_list PySem.F.slot_list_pop PySem.F.type_list_pop (lm_ok .pop) ho ha hbase hfew hline h1 h2
  · exact pe_bm PySem.F.plainAttrs_list PySem.F.slot_list_clear PySem.F.type_list_clear (lm_ok .clear) ho ha hbase hfew hline h1 h2
  · exact pe_bm PySem.F.plainAttrs_list PySem.F.slot_list_reverse PySem.F.type_list_reverse (lm_ok .reverse) ho ha hbase hfew hline h1 h2
  · exact pe_bm PySem.F.plainAttrs_list PySem.F.slot_list_remove PySem.F.type_list_remove (lm_ok .remove) ho ha hbase hfew hline h1 h2
  · exact pe_bm PySem.F.plainAttrs_list PySem.F.slot_list_index PySem.F.type_list_index (lm_ok .index) ho ha hbase hfew hline h1 h2
theorem lm_pe0 {m : Str} {lm : Lm} {apos : Pos} (hm : lmOf m = some lm) (ho : PE X o (GoodE L X.K W do_)) (hbase : attributeBase o m X.env (eval o X.env) = eval o X.env) (hline : (apos.endLine == pos.line) = true) :
    PE X (.Call (.Attribute o m apos) [] [] pos) (tBM0 X.K "list" (rLm L X.K lm) (GoodE L X.K W do_)) := by
  have mm := PySem.mem_of_lookup hm
  simp only [lmTab, List.mem_cons, Prod.mk.injEq, List.not_mem_nil, or_false] at mm
  rcases mm with ⟨rfl, rfl⟩ | ⟨rfl, rfl⟩ | ⟨rfl, rfl⟩ | ⟨rfl, rfl⟩ | ⟨rfl, rfl⟩ | ⟨rfl, rfl⟩ | ⟨rfl, rfl⟩
  · exact pe_bm0 PySem.F.plainAttrs_list PySem.F.slot_list_append PySem.F.type_list_append (lm_ok .append) ho hbase hline
  · exact pe_bm0 PySem.F.plainAttrs_list PySem.F.slot_list_extend PySem.F.type_list_extend (lm_ok .extend) ho hbase hline
  · exact pe_bm0 PySem.F.plainAttrs_list PySem.F.slot_list_pop PySem.F.type_list_pop (lm_ok .pop) ho hbase hline
  · exact pe_bm0 PySem.F.plainAttrs_list PySem.F.slot_list_clear PySem.F.type_list_clear (lm_ok .clear) ho hbase hline
  · exact pe_bm0 PySem.F.plainAttrs_list PySem.F.slot_list_reverse PySem.F.type_list_reverse (lm_ok .reverse) ho hbase hline
  · exact pe_bm0 PySem.F.plainAttrs_list PySem.F.slot_list_remove PySem.F.type_list_remove (lm_ok .remove) ho hbase hline
  · exact pe_bm0 PySem.F.plainAttrs_list PySem.F.slot_list_index PySem.F.type_list_index (lm_ok .index) ho hbase hline
end
end Mp
set_option Elab.async false
set_option linter.all false
set_option maxRecDepth 100000
set_option maxHeartbeats 1000000
namespace Mp
open PySem PySem.Spec PyProof.Rows L2
section
variable {L : Lk} {X : Cx} {W : WX} {pos : Pos} {a b c o : Expr} {da db dc do_ : ME} {Γ : Pg} {call : CallT} {k : Nat} {es : List Expr} {kws : List Keyword} {das dks : MA}
theorem dPop_nox (a : Nat) (us : List Val) (h : Mem) : NoX (dPop a us h) := by
  unfold dPop
  split <;> (try split) <;> (try split) <;> (try split) <;> exact True.intro
def rDPop (L : Lk) (K : PySem.W.Frag) : V → List V → Hp → VK → Prop := fun x xs' H Q => ∃ f h n ad us, x = .ref ad ∧ f n = some ad ∧ Sim L K f h H ∧ RVs L K f H us xs' ∧ PostG L K (RV L K) WF f [] H Q (dPop n us h)
theorem dpop_ok : MtR X "dict.pop" (rDPop L X.K) := by
  intro pins s σ H x' xs' v us Q I rx rv ⟨f, h, n, ad, us', ex, ea, S, R, p⟩
  subst ex
  obtain rfl : v = Value.ref ad := rx
  unfold dPop at p
  split at p
  · rename_i y
    split at p
    · rename_i kvs en
      split at p
      · rename_i k ek
        split at p
        · rename_i w ew
          obtain ⟨y', rfl, ry⟩ := R.one
          obtain ⟨gs, hg, rg⟩ := S.dic ea en
          obtain rfl := key_rel ry ek
          obtain ⟨w', e1, e2⟩ := (df_get rg k).1 w ew
          obtain ⟨u, rfl, ru⟩ := vals1 rv
          have x := ext_upd (o := .dK (dropK gs k)) ea hg
          have z := df_drop k rg
          have q := p f _ w' x (S.wr ea hg ⟨_, upd_same, z.1, z.2.mono S x⟩) (e2.mono S x)
          exact d_pop I hg ru e1 (.inl rfl) fun w2 s' I' rw' => ⟨w', _, I', rw', q⟩
        · exact absurd p id
      · exact absurd p id
    · exact absurd p id
  · exact absurd p id
theorem dGetM_nox (a : Nat) (us : List Val) (h : Mem) : NoX (dGetM a us h) := by
  unfold dGetM
  split <;> (try split) <;> (try split) <;> exact True.intro
def rDGet (L : Lk) (K : PySem.W.Frag) : V → List V → Hp → VK → Prop := fun x xs' H Q => ∃ f h n ad us, x = .ref ad ∧ f n = some ad ∧ Sim L K f h H ∧ RVs L K f H us xs' ∧ PostG L K (RV L K) WF f [] H Q (dGetM n us h)
theorem dget_ok : MtR X "dict.get" (rDGet L X.K) := by
  intro pins s σ H x' xs' v us Q I rx rv ⟨f, h, n, ad, us', ex, ea, S, R, p⟩
  subst ex
  obtain rfl : v = Value.ref ad := rx
  unfold dGetM at p
  split at p
  · rename_i y d0
    split at p
    · rename_i kvs en
      split at p
      · rename_i k ek
        obtain ⟨y', d', rfl, ry, rd⟩ := R.two
        obtain ⟨gs, hg, rg⟩ := S.dic ea en
        obtain rfl := key_rel ry ek
        obtain ⟨u1, u2, rfl, ru1, ru2⟩ := vals2 rv
        obtain ⟨z, hd, vs, rel, dd⟩ := dk_rd I.hok (.inl hg)
        have ex : ∃ w', RV L X.K f H ((dGet kvs k).getD d0) w' ∧ (valV gs k).getD d' = w' := by
          cases eg : dGet kvs k with
          | none =>
            have : dGet gs k = none := (df_get rg k).2 eg
            exact ⟨d', rd, by rw [show valV gs k = none from this]; rfl⟩
          | some w =>
            obtain ⟨w', e1, e2⟩ := (df_get rg k).1 w eg
            exact ⟨w', e2, by rw [show valV gs k = some w' from e1]; rfl⟩
        obtain ⟨w', rw', ew⟩ := ex
        have q := now S rw' p
        refine call_meetsIn PySem.F.slot_dict_get dd.typeIs PySem.F.entry_dict_get (PySem.F.args_dict_get_3 _ _ _) (meets_dict_get_default (mixKind X.prog X.w) ad (kV_is ru1) hd u2) ⟨_, dd.mapOf, ⟨w', H, I.tok _, ?_, q⟩⟩
        rw [← ew]
        exact (rel.val k).getD ru2
      · exact absurd p id
    · exact absurd p id
  · exact absurd p id
theorem sJoin_nox (z : Str) (us : List Val) (h : Mem) : NoX (sJoin z us h) := by
  unfold sJoin
  split <;> (try split) <;> (try split) <;> exact True.intro
theorem strs_ok {K : PySem.W.Frag} {f : Nm} {H : Hp} : ∀ {xs : List Val} {vs : List V} {ys : List Str}, strsOf xs = some ys → RVs L K f H xs vs → vs = ys.map V.str
  | [], vs, ys, e, r => by
    unfold RVs at r; subst r
    simp [strsOf] at e; subst e
    rfl
  | x :: xs, vs, ys, e, r => by
    unfold RVs at r
    obtain ⟨v, ws, rfl, r1, r2⟩ := r
    cases x <;> simp only [strsOf] at e
    all_goals try (cases e; done)
    obtain ⟨zs, e1, rfl⟩ := Option.map_eq_some_iff.mp e
    rw [rv_str r1, strs_ok e1 r2]
    rfl
def rSJoin (L : Lk) (K : PySem.W.Frag) : V → List V → Hp → VK → Prop := fun x xs' H Q => ∃ f h z us, x = .str z ∧ Sim L K f h H ∧ RVs L K f H us xs' ∧ PostG L K (RV L K) WF f [] H Q (sJoin z us h)
theorem sjoin_ok : MtR X "str.join" (rSJoin L X.K) := by
  intro pins s σ H x' xs' v us Q I rx rv ⟨f, h, z, us', ex, S, R, p⟩
  subst ex
  unfold sJoin at p
  split at p
  · rename_i y
    split at p
    · rename_i ys ey
      split at p
      · rename_i hz
        obtain ⟨y', rfl, ry⟩ := R.one
        obtain ⟨xs, e1, e2⟩ := Option.bind_eq_some_iff.mp ey
        obtain ⟨a, vs, rfl, sq, rr⟩ := S.lstOf ry e1
        obtain rfl := strs_ok e2 rr
        exact mt_join pins s σ H _ _ v us Q I rx rv ⟨z, a, ys, rfl, rfl, .inl sq, hz, now S (mk_str _) p⟩
      · exact absurd p id
    · exact absurd p id
  · exact absurd p id
theorem s_meth {m : Str} {apos : Pos} (tk : Takes X W) (CF : ∀ c C, Γ.cls.lookup c = some C → ClF L X.K c C) (MF : ∀ g D, Γ.fns.lookup g = some D → FnF L X.prog X.w X.K X.mg X.base k Γ call g D) (hr : Room k X.A) (ho : PE X o (GoodE L X.K W do_))
    (ha : PA X es (GoodA L X.K W das)) (hkw : PK X kws (GoodA L X.K W dks)) (hst : es.all noStar = true) (hnm : kws.all (·.arg.isSome) = true) (hz : es = [] → das = aNil) (hz2 : kws = [] → dks = aNil)
    (hl : ∀ ρ h us h', das ρ h = .ok us h' → us.length = es.length) (hl2 : ∀ ρ h us h', dks ρ h = .ok us h' → us.length = kws.length) (hkl : (kws.filterMap (·.arg)).length = kws.length)
    (hbase : attributeBase o m X.env (eval o X.env) = eval o X.env) (hn : es.length + kws.length + 1 < 30) (hline : (apos.endLine == pos.line) = true) :
    PE X (.Call (.Attribute o m apos) es kws pos) (GoodE L X.K W (eMeth Γ call m es.length (kws.filterMap (·.arg)) do_ das dks)) := by
  refine ⟨fun pins s σ H Q I ⟨f, ρ, h, S, E, p⟩ => ?_⟩
  have tree := meth_tree (X := X) (o := o) (m := m) (apos := apos) (pos := pos) (es := es) (kws := kws) hbase (few_ok hst hnm hn) hline
  have q := PostG.bind (R := RV L X.K) p
  have other : (∀ v h1, do_ ρ h = .ok v h1 → False) → wpAny (model X.prog X.w) X.A (eval (.Call (.Attribute o m apos) es kws pos) X.env) (EP X pins σ Q) X.xe s := fun no => by
    refine PySem.W.methodCall_KW (pl := do return (← importBound o X.env).getD true) (thn (ho.run pins s σ H (fun _ _ => False) I ⟨f, ρ, h, S, E, q.imp fun v' H1 ⟨f1, v, h1, e1, _⟩ => absurd e1 (fun z => no _ _ z)⟩) fun u s1 ⟨x, H1, I1, rx, z⟩ => z.elim) tree
  cases e : do_ ρ h with
  | bad => exact other fun v h1 z => by rw [e] at z; cases z
  | exc c fs h1 => exact other fun v h1 z => by rw [e] at z; cases z
  | ok v h1 =>
    have p0 : PostG L X.K (RV L X.K) W f σ H Q (methBy Γ call m es.length (kws.filterMap (·.arg)) das dks ρ v h1) := by
      unfold eMeth at p
      rw [e] at p
      exact p
    cases v with
    | ref n =>
      cases eo : h1[n]? with
      | none => simp only [methBy, eo] at p0; exact absurd p0 id
      | some ob =>
        cases ob with
        | rol xs => simp only [methBy, eo] at p0; exact absurd p0 id
        | frd xs => simp only [methBy, eo] at p0; exact absurd p0 id
        | dic kvs =>
          simp only [methBy, eo] at p0
          cases ek : kws.filterMap (·.arg) with
          | cons k1 kr => rw [ek] at p0; exact absurd p0 id
          | nil =>
            rw [ek] at p0
            dsimp only at p0
            split at p0
            · rename_i hm
              subst hm
              have hk0 : kws = [] := List.eq_nil_of_length_eq_zero (by rw [← hkl, ek]; rfl)
              subst hk0
              cases es with
              | nil =>
                have hd : das = aNil := hz rfl
                subst hd
                exact absurd p0 id
              | cons e1 es =>
                have hfew := few_ok (X := X) (pos := pos) (es := e1 :: es) (kws := []) hst rfl (by simpa using hn)
                have hst' := hst
                simp only [List.all_cons, Bool.and_eq_true] at hst'
                refine (pe_bm PySem.F.plainAttrs_dict PySem.F.slot_dict_pop PySem.F.type_dict_pop (dpop_ok (L := L)) ho ha hbase hfew hline (star_cons (es := es) (env := X.env) hst'.1) (star_any (env := X.env) (pos := pos) hst'.2)).run pins s σ H Q I ⟨f, ρ, h, S, E, ?_⟩
                rw [e]
                intro f1 H1 v' X1 S1 R1
                obtain ⟨ad, ea, rfl⟩ := rv_ref R1
                obtain ⟨gs, hg, rg⟩ := S1.dic ea eo
                refine ⟨?_, f1, ρ, h1, S1, E.mono S X1, (PostG.bind (R := RVs L X.K) (PostG.ext p0 X1)).imp fun xs' H2 ⟨f2, us, h2, e2, X2, S2, R2, p2⟩ => ?_⟩
                · exact .inr (.inr (.inl ⟨rfl, .inl ⟨_, hg⟩⟩))
                · exact ⟨f2, h2, n, ad, us, rfl, X2.le _ _ ea, S2, R2, p2.nox (dPop_nox _ _ _)⟩
            · split at p0
              · rename_i hm
                subst hm
                have hk0 : kws = [] := List.eq_nil_of_length_eq_zero (by rw [← hkl, ek]; rfl)
                subst hk0
                cases es with
                | nil =>
                  have hd : das = aNil := hz rfl
                  subst hd
                  exact absurd p0 id
                | cons e1 es =>
                  have hfew := few_ok (X := X) (pos := pos) (es := e1 :: es) (kws := []) hst rfl (by simpa using hn)
                  have hst' := hst
                  simp only [List.all_cons, Bool.and_eq_true] at hst'
                  refine (pe_bm PySem.F.plainAttrs_dict PySem.F.slot_dict_get PySem.F.type_dict_get (dget_ok (L := L)) ho ha hbase hfew hline (star_cons (es := es) (env := X.env) hst'.1) (star_any (env := X.env) (pos := pos) hst'.2)).run pins s σ H Q I ⟨f, ρ, h, S, E, ?_⟩
                  rw [e]
                  intro f1 H1 v' X1 S1 R1
                  obtain ⟨ad, ea, rfl⟩ := rv_ref R1
                  obtain ⟨gs, hg, rg⟩ := S1.dic ea eo
                  refine ⟨?_, f1, ρ, h1, S1, E.mono S X1, (PostG.bind (R := RVs L X.K) (PostG.ext p0 X1)).imp fun xs' H2 ⟨f2, us, h2, e2, X2, S2, R2, p2⟩ => ?_⟩
                  · exact .inr (.inr (.inl ⟨rfl, .inl ⟨_, hg⟩⟩))
                  · exact ⟨f2, h2, n, ad, us, rfl, X2.le _ _ ea, S2, R2, p2.nox (dGetM_nox _ _ _)⟩
              · exact absurd p0 id
        | ins cl fs =>
          simp only [methBy, eo] at p0
          cases ec : Γ.cls.lookup cl with
          | none => rw [ec] at p0; exact absurd p0 id
          | some C =>
            rw [ec] at p0
            dsimp only at p0
            have cf := CF cl C ec
            cases em : C.meths.lookup m with
            | none => rw [em] at p0; exact absurd p0 id
            | some g =>
              rw [em] at p0
              dsimp only at p0
              split at p0
              · rename_i hfn
                have hfn : fs.lookup m = none := by simpa using hfn
                have me := cf.me (m, g) (PySem.mem_of_lookup em)
                refine PySem.W.methodCall_KW (pl := do return (← importBound o X.env).getD true) (thn (ho.run pins s σ H (fun v' H1 => ∃ f1, Ext f f1 H H1 ∧ Sim L X.K f1 h1 H1 ∧ RV L X.K f1 H1 (.ref n) v') I ⟨f, ρ, h, S, E, by rw [e]; exact fun f1 H1 v' X1 S1 R1 => ⟨f1, X1, S1, R1⟩⟩) fun u s1 ⟨x, H1, I1, rx, f1, X1, S1, R1⟩ => ?_) tree
                obtain ⟨ad, ea, rfl⟩ := rv_ref R1
                obtain rfl : u = Value.ref ad := rx
                obtain ⟨dx, gs, hi, rf⟩ := S1.ins ea eo
                refine getmeth_ok I1 hi cf.cl me ((rf_get (x := m) rf).2 hfn) ?_
                have p1 := PostG.ext p0 X1
                have E1 := E.mono S X1
                refine call_args (L := L) (W := W) (first := [.ref ad]) me.kp ha hkw hst hnm hz hz2 I1 ⟨f1, ρ, h1, S1, E1, (PostG.bind (R := RVs L X.K) p1).imp fun vs H2 ⟨f2, us, h2, e2, X2, S2, R2, p2⟩ => ?_⟩
                refine ⟨f2, ρ, h2, S2, E1.mono S1 X2, (PostG.bind (R := RVs L X.K) p2).imp fun zs H3 ⟨f3, ws, h3, e3, X3, S3, R3, p3⟩ => ?_⟩
                intro s3 uu ww I3 ru rw'
                unfold callBy at p3
                cases eD : Γ.fns.lookup g with
                | none => rw [eD] at p3; exact absurd p3 id
                | some D =>
                  rw [eD] at p3
                  dsimp only at p3
                  split at p3
                  · rename_i hsh
                    have hsh := of_decide_eq_true hsh
                    cases hb : bindV D (es.length + 1) (kws.filterMap (·.arg)) with
                    | none => rw [hb] at p3; exact absurd p3 id
                    | some sel =>
                      rw [hb] at p3
                      dsimp only at p3
                      cases es2 : selV (.ref n :: us) ws sel with
                      | none => rw [es2] at p3; exact absurd p3 id
                      | some ts =>
                        rw [es2, Res.opt_some, Res.bind_ok] at p3
                        obtain ⟨fd, Fo, Sh⟩ := (MF g D eD).ex
                        obtain ⟨⟨gg, gV, kb, rel⟩, _⟩ := Sh _ _ _ hsh hb
                        have l1 := hl _ _ _ _ e2
                        have l2 := hl2 _ _ _ _ e3
                        have R0 := (R1.mono S1 X2).mono S2 X3
                        have R2' := R2.mono S2 X3
                        have RR := rel f3 H3 (.ref n :: us) ws (.ref ad :: vs) zs ts (RVs.cons R0 R2') R3 (by rw [List.length_cons, l1]) (by rw [l2, hkl]) es2
                        refine run_shape (us := .ref ad :: uu) (ws := ww) (vs := .ref ad :: vs) Fo hr kb (passAt tk σ) I3 (.cons rfl ru) rw' (by rw [List.length_cons, ← R2'.length, l1]) (by rw [← R3.length, l2, hkl]) ?_
                        exact sp_of S3 RR (by rw [selV_len es2, bindGo_len hb]) p3
                  · exact absurd p3 id
              · exact absurd p0 id
        | lst xs =>
          simp only [methBy, eo] at p0
          cases em : lmOf m with
          | none => rw [em] at p0; exact absurd p0 id
          | some lm =>
            rw [em] at p0
            cases ek : kws.filterMap (·.arg) with
            | cons k1 kr => rw [ek] at p0; exact absurd p0 id
            | nil =>
              rw [ek] at p0
              dsimp only at p0
              have hk0 : kws = [] := List.eq_nil_of_length_eq_zero (by rw [← hkl, ek]; rfl)
              subst hk0
              cases es with
              | nil =>
                refine (lm_pe0 (L := L) (W := W) em ho hbase hline).run pins s σ H Q I ⟨f, ρ, h, S, E, ?_⟩
                rw [e]
                intro f1 H1 v' X1 S1 R1
                obtain ⟨ad, ea, rfl⟩ := rv_ref R1
                obtain ⟨vs, hv, rvs⟩ := S1.lst ea eo
                have hd : das = aNil := hz rfl
                subst hd
                exact ⟨.inl ⟨rfl, vs, SqL.of hv⟩, f1, h1, n, ad, [], rfl, ea, S1, RVs.nil, (PostG.ext (r := lmRun lm n [] h1) p0 X1).nox (lmRun_nox _ _ _ _)⟩
              | cons e1 es =>
                refine (lm_pe (L := L) (W := W) em ho ha hbase hst (by simpa using hn) hline).run pins s σ H Q I ⟨f, ρ, h, S, E, ?_⟩
                rw [e]
                intro f1 H1 v' X1 S1 R1
                obtain ⟨ad, ea, rfl⟩ := rv_ref R1
                obtain ⟨vs, hv, rvs⟩ := S1.lst ea eo
                refine ⟨.inl ⟨rfl, vs, SqL.of hv⟩, f1, ρ, h1, S1, E.mono S X1, (PostG.bind (R := RVs L X.K) (PostG.ext p0 X1)).imp fun xs' H2 ⟨f2, us, h2, e2, X2, S2, R2, p2⟩ => ?_⟩
                exact ⟨f2, h2, n, ad, us, rfl, X2.le _ _ ea, S2, R2, p2.nox (lmRun_nox _ _ _ _)⟩
    | non => simp only [methBy] at p0; exact absurd p0 id
    | bl _ => simp only [methBy] at p0; exact absurd p0 id
    | int _ => simp only [methBy] at p0; exact absurd p0 id
    | str z =>
      simp only [methBy] at p0
      cases ek : kws.filterMap (·.arg) with
      | cons k1 kr => rw [ek] at p0; exact absurd p0 id
      | nil =>
        rw [ek] at p0
        dsimp only at p0
        split at p0
        · rename_i hm
          subst hm
          have hk0 : kws = [] := List.eq_nil_of_length_eq_zero (by rw [← hkl, ek]; rfl)
          subst hk0
          cases es with
          | nil =>
            have hd : das = aNil := hz rfl
            subst hd
            exact absurd p0 id
          | cons e1 es =>
            have hfew := few_ok (X := X) (pos := pos) (es := e1 :: es) (kws := []) hst rfl (by simpa using hn)
            have hst' := hst
            simp only [List.all_cons, Bool.and_eq_true] at hst'
            refine (pe_bm PySem.F.plainAttrs_str PySem.F.slot_str_join PySem.F.type_str_join (sjoin_ok (L := L)) ho ha hbase hfew hline (star_cons (es := es) (env := X.env) hst'.1) (star_any (env := X.env) (pos := pos) hst'.2)).run pins s σ H Q I ⟨f, ρ, h, S, E, ?_⟩
            rw [e]
            intro f1 H1 v' X1 S1 R1
            obtain rfl := rv_str R1
            refine ⟨?_, f1, ρ, h1, S1, E.mono S X1, (PostG.bind (R := RVs L X.K) (PostG.ext p0 X1)).imp fun xs' H2 ⟨f2, us, h2, e2, X2, S2, R2, p2⟩ => ?_⟩
            · first | exact .inl ⟨rfl, _, rfl⟩ | exact .inr (.inl ⟨rfl, _, rfl⟩) | exact .inr (.inr (.inl ⟨rfl, _, rfl⟩)) | rfl | (unfold tyV; simp)
            · exact ⟨f2, h2, z, us, rfl, S2, R2, p2.nox (sJoin_nox _ _ _)⟩
        · exact absurd p0 id
    | tup _ => simp only [methBy] at p0; exact absurd p0 id
    | fn _ => simp only [methBy] at p0; exact absurd p0 id
/-! ### x in o -/
theorem inM_nox (Γ : Pg) (call : CallT) (neg : Bool) (x y : Val) (h : Mem) : NoX (inM Γ call neg x y h) := by
  unfold inM
  split
  · split
    · split
      · split
        · split <;> exact True.intro
        · exact True.intro
      · exact True.intro
    · exact cmpR_nox _ _ _ _
  · exact cmpR_nox _ _ _ _
theorem sinM (hu : X.A.units + 65 < cLine) (neg : Bool) (tk : Takes X W) (CF : ∀ c C, Γ.cls.lookup c = some C → ClF L X.K c C) (MF : ∀ g D, Γ.fns.lookup g = some D → FnF L X.prog X.w X.K X.mg X.base k Γ call g D) (hr : Room k X.A) :
    OpR X (compareOp (if neg then .NotIn else .In)) (rOpV L X.K (inM Γ call neg)) := by
  intro pins s σ H x' y' v u Q I rx ry ⟨f, h, x, y, S, Rx, Ry, p⟩
  have old : PostG L X.K (RV L X.K) WF f [] H Q (cmpR (if neg then .NotIn else .In) x y h) → wpAny (model X.prog X.w) X.A (compareOp (if neg then .NotIn else .In) v u) (EP X pins σ Q) X.xe s := fun p => scmp (L := L) hu _ pins s σ H x' y' v u Q I rx ry ⟨f, h, x, y, S, Rx, Ry, p⟩
  unfold inM at p
  split at p
  · rename_i n
    split at p
    · rename_i c fs en
      split at p
      · rename_i C ec
        split at p
        · rename_i g eg
          have cf := CF c C ec
          have me := cf.me ("__contains__", g) (PySem.mem_of_lookup eg)
          obtain ⟨ad, ea, rfl⟩ := rv_ref Ry
          obtain rfl : u = Value.ref ad := ry
          obtain ⟨dx, gs, hi, rf⟩ := S.ins ea en
          obtain ⟨mA, O, _, _, _, _⟩ := ins_get I.hok hi
          obtain ⟨od, J, _⟩ := O.look
          obtain ⟨m, fr⟩ := I.fr
          -- the call
          have key : ∀ (Q2 : VK), (∀ (b : Bool) f' H' h', callBy Γ call g 2 [] [.ref n, x] [] h = .ok (.bl b) h' → Ext f f' H H' → Sim L X.K f' h' H' → Q2 (.bl b) H') → wpAny (model X.prog X.w) X.A (PySem.call (.ref (L.F g)) [.ref ad, v]) (EP X pins σ Q2) X.xe s := fun Q2 q2 => by
            cases er : callBy Γ call g 2 [] [.ref n, x] [] h with
            | bad => rw [er] at p; exact absurd p id
            | exc c1 fs1 h1 => rw [er] at p; exact absurd p id
            | ok w h1 =>
              have er0 := er
              unfold callBy at er
              cases eD : Γ.fns.lookup g with
              | none => rw [eD] at er; cases er
              | some D =>
                rw [eD] at er
                dsimp only at er
                split at er
                · rename_i hsh
                  have hsh := of_decide_eq_true hsh
                  cases hb : bindV D 2 [] with
                  | none => rw [hb] at er; cases er
                  | some sel =>
                    rw [hb] at er
                    dsimp only at er
                    cases es2 : selV [.ref n, x] [] sel with
                    | none => rw [es2] at er; cases er
                    | some ts =>
                      rw [es2, Res.opt_some, Res.bind_ok] at er
                      obtain ⟨fd, Fo, Sh⟩ := (MF g D eD).ex
                      obtain ⟨⟨gg, gV, kb, rel⟩, _⟩ := Sh _ _ _ hsh hb
                      have RR := rel f H [.ref n, x] [] [.ref ad, x'] [] ts (RVs.cons (mk_ref ea) (RVs.cons Rx RVs.nil)) RVs.nil rfl rfl es2
                      refine run_shape (us := [.ref ad, v]) (ws := []) (vs := [.ref ad, x']) (zs := []) Fo hr kb (passAt tk σ) I (.cons rfl (.cons rx .nil)) .nil rfl rfl ?_
                      refine sp_of S RR (by rw [selV_len es2, bindGo_len hb]) ?_
                      rw [er]
                      intro f' H' v' X' S' R'
                      cases w with
                      | bl b =>
                        obtain rfl := rv_bl R'
                        exact q2 b f' H' h1 er0 X' S'
                      | _ => rw [er0] at p; exact absurd p id
                · cases er
          have fin : ∀ (b : Bool) f' H' h', callBy Γ call g 2 [] [.ref n, x] [] h = .ok (.bl b) h' → Ext f f' H H' → Sim L X.K f' h' H' → Q (.bl (b != neg)) H' := fun b f' H' h' er X' S' => by
            rw [er] at p
            exact p f' H' _ X' S' (mk_bl _)
          cases neg with
          | false =>
            refine PySem.W.in_K fr I.ok.mod.kin J me.at_ me.fn (thn (key (fun w H' => ∃ b, w = .bl b ∧ Q (.bl b) H') (fun b f' H' h' er X' S' => ⟨b, rfl, by simpa using fin b f' H' h' er X' S'⟩)) fun r s1 ⟨w, H1, I1, rw', b, ew, q⟩ => ?_)
            subst ew
            obtain rfl : r = Value.bool b := rw'
            exact wpAny_truthy_bool ⟨.bl b, H1, I1, rfl, q⟩
          | true =>
            refine PySem.W.notIn_K fr I.ok.mod.kin J me.at_ me.fn (thn (key (fun w H' => ∃ b, w = .bl b ∧ Q (.bl (!b)) H') (fun b f' H' h' er X' S' => ⟨b, rfl, by simpa using fin b f' H' h' er X' S'⟩)) fun r s1 ⟨w, H1, I1, rw', b, ew, q⟩ => ?_)
            subst ew
            obtain rfl : r = Value.bool b := rw'
            exact wpAny_truthy_bool ⟨.bl (!b), H1, I1, rfl, q⟩
        · exact absurd p id
      · exact absurd p id
    · exact old p
  · exact old p
theorem s_in (hu : X.A.units + 65 < cLine) (neg : Bool) (tk : Takes X W) (CF : ∀ c C, Γ.cls.lookup c = some C → ClF L X.K c C) (MF : ∀ g D, Γ.fns.lookup g = some D → FnF L X.prog X.w X.K X.mg X.base k Γ call g D) (hr : Room k X.A)
    (ha : PE X a (GoodE L X.K W da)) (hb : PE X b (GoodE L X.K W db)) (hm : behindInMarks (if neg then .NotIn else .In) b = false) : PE X (.Compare a [if neg then .NotIn else .In] [b] pos) (GoodE L X.K W (eIn Γ call neg da db)) :=
  peImp (pe_cmpR (sinM (L := L) hu neg tk CF MF hr) ha hb hm) fun σ H Q G => good_e2 (inM_nox Γ call neg) G
theorem inM_bl {neg : Bool} {x y : Val} {h : Mem} {z : Val} {h' : Mem} (e : inM Γ call neg x y h = .ok z h') : ∃ k, z = .bl k := by
  unfold inM at e
  split at e
  · split at e
    · split at e
      · split at e
        · split at e
          · cases e; exact ⟨_, rfl⟩
          · cases e
        · cases e
      · cases e
    · exact cmpR_bl e
  · exact cmpR_bl e
theorem t_in (hu : X.A.units + 65 < cLine) (neg : Bool) (tk : Takes X W) (CF : ∀ c C, Γ.cls.lookup c = some C → ClF L X.K c C) (MF : ∀ g D, Γ.fns.lookup g = some D → FnF L X.prog X.w X.K X.mg X.base k Γ call g D) (hr : Room k X.A)
    (ha : PE X a (GoodE L X.K W da)) (hb : PE X b (GoodE L X.K W db)) (hm : behindInMarks (if neg then .NotIn else .In) b = false) : PT X (.Compare a [if neg then .NotIn else .In] [b] pos) (GoodT L X.K W (tE (eIn Γ call neg da db))) := by
  refine t_of_val (pt_cmpR (sinM (L := L) hu neg tk CF MF hr) ha hb hm) (fun σ H Q G => good_e2 (inM_nox Γ call neg) G) fun ρ h x h1 e1 => ?_
  unfold eIn e2 at e1
  cases q : da ρ h with
  | ok y h2 =>
    rw [q] at e1
    cases q2 : db ρ h2 with
    | ok z h3 => rw [Res.bind_ok, q2] at e1; exact inM_bl e1
    | exc _ _ _ => rw [Res.bind_ok, q2] at e1; cases e1
    | bad => rw [Res.bind_ok, q2] at e1; cases e1
  | exc _ _ _ => rw [q] at e1; cases e1
  | bad => rw [q] at e1; cases e1
/-! ### isinstance -/
theorem ty_ok {K : PySem.W.Frag} {f : Nm} {h : Mem} {H : Hp} (S : Sim L K f h H) {v : Val} {v' : V} {t : String} (r : RV L K f H v v') (e : tyOf h v = some t) : TyX K H v' (.type t) ∧ t ∈ ["NoneType", "bool", "int", "str", "tuple", "list"] := by
  cases v with
  | non => obtain rfl := rv_non r; cases e; exact ⟨.base .non, by simp⟩
  | bl x => obtain rfl := rv_bl r; cases e; exact ⟨.base (.bl x), by simp⟩
  | int x => obtain rfl := rv_int r; cases e; exact ⟨.base (.int x), by simp⟩
  | str x => obtain rfl := rv_str r; cases e; exact ⟨.base (.str x), by simp⟩
  | tup ts =>
    cases e
    obtain ⟨ad, vs, rfl, sa, ra⟩ := rv_tup r
    refine ⟨?_, by simp⟩
    rcases sa with (sa | ⟨ob, sa⟩) | ⟨ob, its, n, h1, h2, _⟩
    · exact .base (.tup sa)
    · exact .fTuple sa
    · exact .kTuple h1 h2
  | ref n =>
    obtain ⟨ad, ea, rfl⟩ := rv_ref r
    simp only [tyOf] at e
    cases q : h[n]? with
    | none => rw [q] at e; cases e
    | some ob =>
      rw [q] at e
      cases ob with
      | lst xs => cases e; exact ⟨S.tyL ea (.inl q), by simp⟩
      | rol xs => cases e; exact ⟨S.tyL ea (.inr q), by simp⟩
      | dic kvs => cases e
      | frd kvs => cases e
      | ins c fs => cases e
  | fn g => cases e
theorem kit_tab : (["NoneType", "bool", "int", "str", "tuple", "list"].all fun t => tyNames.all fun T => decide (kitB t T.2 = some (subTy t T.2))) = true := by decide +kernel
theorem ty_boot : (tyNames.all fun T => decide (bootBuiltins T.1 = some (.type T.2)) && decide (T.1 ≠ "__name__") && decide ((T.1 == ("__debug__" : Str)) = false)) = true := by decide +kernel
theorem kit_sub {K : PySem.W.Frag} {t : String} {x : Str} {T : String} (ht : t ∈ ["NoneType", "bool", "int", "str", "tuple", "list"]) (hT : (x, T) ∈ tyNames) : PySem.W.kitOne K (.type t) (.type T) = some (subTy t T) :=
  kit_ty (of_decide_eq_true (List.all_eq_true.mp (List.all_eq_true.mp kit_tab t ht) (x, T) hT))
theorem boot_ty {x : Str} {T : String} (hT : (x, T) ∈ tyNames) : bootBuiltins x = some (.type T) ∧ x ≠ "__name__" ∧ (x == ("__debug__" : Str)) = false := by
  have h := List.all_eq_true.mp ty_boot _ hT
  simp only [Bool.and_eq_true, decide_eq_true_eq] at h
  exact ⟨h.1.1, h.1.2, h.2⟩
theorem s_isi1 {x : Str} {T : String} {p p1 pos : Pos} (hg : Gl X "isinstance") (hm : X.mg "isinstance" = none) (hT : (x, T) ∈ tyNames) (hgx : Gl X x) (hmx : X.mg x = none) (ha : PE X a (GoodE L X.K W da)) (hst : noStar a = true) :
    PE X (.Call (.Name "isinstance" p) [a, .Name x p1] [] pos) (GoodE L X.K W (eIsi [T] da)) := by
  obtain ⟨bv, bn, bd⟩ := boot_ty hT
  refine peImp (pe_callB call_isi hg hm boot_isinstance (pa_cons ha (pa_cons (pe_bltn (v := .ty T) hgx hmx bv rfl bn bd) pa_nil rfl) (star_cons hst)) (by decide) (by decide) (star_cons hst) rfl) fun σ H Q ⟨f, ρ, h, S, E, p⟩ => ?_
  refine ⟨f, ρ, h, S, E, (PostG.bind (R := RV L X.K) p).imp fun v' H1 ⟨f1, v, h1, e1, X1, S1, R1, p1⟩ => ?_⟩
  unfold isiV at p1
  cases et : tyOf h1 v with
  | none => rw [et] at p1; exact absurd p1 id
  | some t =>
    rw [et] at p1
    obtain ⟨ty, tm⟩ := ty_ok S1 R1 et
    refine ⟨v', .ty T, _, _, subTy t T, rfl, .ty T, ty, kit_sub tm hT, ?_⟩
    have z := now S1 (mk_bl _) p1
    simpa using z
theorem clsV_tys : ∀ {xs : List (Str × String)}, (∀ q ∈ xs, q ∈ tyNames) → ∀ {t : String}, t ∈ ["NoneType", "bool", "int", "str", "tuple", "list"] → ∀ {K : PySem.W.Frag}, PySem.W.kitAny K (.type t) (xs.map fun q => Value.type q.2) = some ((xs.map (·.2)).any (subTy t))
  | [], _, t, _, K => kitAny_nil
  | q :: xs, hq, t, ht, K => by
    have h1 := kit_sub (K := K) ht (hq q List.mem_cons_self)
    have h2 := clsV_tys (xs := xs) (fun q hq' => hq q (List.mem_cons_of_mem _ hq')) ht (K := K)
    rw [List.map_cons, List.map_cons, List.any_cons]
    refine kitAny_cons h1 (fun e => ?_) (fun e => by rw [e]; rfl)
    rw [e, Bool.false_or]
    exact h2
theorem paired_ty : ∀ xs : List (Str × String), Paired ClsV (xs.map fun q => V.ty q.2) (xs.map fun q => Value.type q.2)
  | [] => .nil
  | q :: xs => .cons (.ty q.2) (paired_ty xs)
/-- the names of types in a tuple -/
theorem pa_tys : ∀ {xs : List (Str × String)} {es : List Expr}, es.map (fun e => match e with | .Name x _ => some x | _ => none) = xs.map (fun q => some q.1) → (∀ q ∈ xs, q ∈ tyNames ∧ Gl X q.1 ∧ X.mg q.1 = none) → PA X es (fun _ H Q => Q (xs.map fun q => V.ty q.2) H)
  | [], [], _, _ => paImp pa_nil fun σ H Q h => h
  | [], _ :: _, e, _ => by simp at e
  | _ :: _, [], e, _ => by simp at e
  | q :: xs, e :: es, he, hq => by
    simp only [List.map_cons, List.cons.injEq] at he
    obtain ⟨h1, h2⟩ := he
    obtain ⟨hT, hg, hm⟩ := hq q List.mem_cons_self
    obtain ⟨bv, bn, bd⟩ := boot_ty (x := q.1) (T := q.2) hT
    cases e with
    | Name x p =>
      simp only [Option.some.injEq] at h1
      subst h1
      exact paImp (pa_cons (pe_bltn (v := .ty q.2) hg hm bv rfl bn bd) (pa_tys h2 fun r hr => hq r (List.mem_cons_of_mem _ hr)) rfl) fun σ H Q h => h
    | _ => simp at h1
theorem s_isiT {xs : List (Str × String)} {k : Nat} {p p1 pos : Pos} (hg : Gl X "isinstance") (hm : X.mg "isinstance" = none) (hxs : es.map (fun e => match e with | .Name x _ => some x | _ => none) = xs.map (fun q => some q.1)) (hq : ∀ q ∈ xs, q ∈ tyNames ∧ Gl X q.1 ∧ X.mg q.1 = none)
    (ha : PE X a (GoodE L X.K W da)) (hst : noStar a = true) (hlen : xs.length ≤ sizeLine) : PE X (.Call (.Name "isinstance" p) [a, .Tuple es k p1] [] pos) (GoodE L X.K W (eIsi (xs.map (·.2)) da)) := by
  refine peImp (pe_callB call_isiT hg hm boot_isinstance (pa_cons ha (pa_cons (pe_tup (pa_tys hxs hq)) pa_nil rfl) (star_cons hst)) (by decide) (by decide) (star_cons hst) rfl) fun σ H Q ⟨f, ρ, h, S, E, p⟩ => ?_
  refine ⟨f, ρ, h, S, E, (PostG.bind (R := RV L X.K) p).imp fun v' H1 ⟨f1, v, h1, e1, X1, S1, R1, p1⟩ => ?_⟩
  unfold isiV at p1
  refine ⟨by rw [List.length_map]; exact hlen, fun tp htp => ?_⟩
  cases et : tyOf h1 v with
  | none => rw [et] at p1; exact absurd p1 id
  | some t =>
    rw [et] at p1
    have x2 := ext_new (f := f1) (o := .tup (xs.map fun q => V.ty q.2)) htp
    have S2 := S1.out (o := .tup (xs.map fun q => V.ty q.2)) htp
    obtain ⟨ty, tm⟩ := ty_ok S2 (R1.mono S1 x2) et
    refine ⟨v', tp, _, _, _, _, rfl, upd_same, paired_ty xs, ty, clsV_tys (fun q z => (hq q z).1) tm, ?_⟩
    exact p1 f1 _ _ x2 S2 (mk_bl _)
end
end Mp
set_option Elab.async false
set_option linter.all false
set_option maxRecDepth 100000
set_option maxHeartbeats 3200000
namespace Mp
open PySem PySem.Spec PyProof.Rows L2
section
variable {L : Lk} {X : Cx} {W : WX} {pos : Pos} {a b c o : Expr} {da db dc do_ : ME} {es : List Expr} {das : MA}
def RP : Nm → Hp → Option Int → Option Int → Prop := fun _ _ x y => x = y
def GoodO (L : Lk) (K : PySem.W.Frag) (W : WX) (m : MO) : TO := fun σ H Q => ∃ f ρ h, Sim L K f h H ∧ EnvR L K f H ρ σ ∧ PostG L K RP W f σ H Q (m ρ h)
theorem poImp {e : Option Expr} {t t' : TO} (h : PO X e t) (i : ∀ σ H Q, t' σ H Q → t σ H Q) : PO X e t' := ⟨fun pins s σ H Q I q => h.run pins s σ H Q I (i σ H Q q)⟩
theorem o_none : PO X none (GoodO L X.K W oNone) := poImp po_none fun σ H Q ⟨f, ρ, h, S, E, p⟩ => p f H none (Ext.refl _ _) S rfl
theorem o_some (ha : PE X a (GoodE L X.K W da)) : PO X (some a) (GoodO L X.K W (oSome da)) := by
  refine poImp (po_some ha) fun σ H Q ⟨f, ρ, h, S, E, p⟩ => ?_
  refine ⟨f, ρ, h, S, E, (PostG.bind (R := RV L X.K) p).imp fun x' H1 ⟨f1, x, h1, e1, X1, S1, R1, p1⟩ => ?_⟩
  cases x with
  | int i => exact ⟨i, rv_int R1, p1 f1 H1 _ (Ext.refl _ _) S1 rfl⟩
  | _ => exact absurd p1 id
theorem cut_rel {K : PySem.W.Frag} {f : Nm} {H : Hp} {ts : List Val} {vs : List V} (r : RVs L K f H ts vs) (lo hi : Option Int) : RVs L K f H (cut ts lo hi) (cutV vs lo hi) := by
  unfold cut cutV
  rw [r.length]
  exact (r.drop _).take _
theorem sl_ok : SlR X (fun x' lo hi H Q => ∃ f h x, Sim L X.K f h H ∧ RV L X.K f H x x' ∧ PostG L X.K (RV L X.K) WF f [] H Q (sliceV x lo hi h)) := by
  intro pins s σ H x' v vl vu lo hi sl Q I rx hs pl pu ⟨f, h, x, S, R, p⟩
  cases x with
  | tup ts =>
    obtain ⟨ad, vs, rfl, sa, ra⟩ := rv_tup R
    simp only [sliceV] at p
    refine sl_tupA pins s σ H _ v vl vu lo hi sl Q I rx hs pl pu ⟨ad, vs, rfl, sa, fun z => ?_, fun _ q hq => newT_ok S (cut_rel ra lo hi) p q hq⟩
    have e : cut ts lo hi = ts := by
      unfold cut
      rw [ra.length, z.1, z.2]
      simp [← ra.length]
    rw [e] at p
    exact now S R p
  | str z =>
    obtain rfl := rv_str R
    simp only [sliceV] at p
    split at p
    · rename_i hz
      exact C8.sl_txt pins s σ H _ v vl vu lo hi sl Q I rx hs pl pu ⟨z, rfl, hz, now S (mk_str _) p⟩
    · exact absurd p id
  | ref n =>
    obtain ⟨ad, ea, rfl⟩ := rv_ref R
    simp only [sliceV] at p
    cases q : h[n]? with
    | none => rw [q] at p; exact absurd p id
    | some ob =>
      rw [q] at p
      cases ob with
      | lst xs =>
        obtain ⟨vs, sv, rv⟩ := S.seq ea (.inl q)
        exact sl_list pins s σ H _ v vl vu lo hi sl Q I rx hs pl pu ⟨ad, vs, rfl, sv, (newL_ok S (cut_rel rv lo hi) p).2⟩
      | rol xs =>
        obtain ⟨vs, sv, rv⟩ := S.seq ea (.inr q)
        exact sl_list pins s σ H _ v vl vu lo hi sl Q I rx hs pl pu ⟨ad, vs, rfl, sv, (newL_ok S (cut_rel rv lo hi) p).2⟩
      | ins c fs => exact absurd p id
      | dic kvs => exact absurd p id
      | frd kvs => exact absurd p id
  | non => simp only [sliceV] at p; exact absurd p id
  | bl _ => simp only [sliceV] at p; exact absurd p id
  | int _ => simp only [sliceV] at p; exact absurd p id
  | fn _ => simp only [sliceV] at p; exact absurd p id
theorem sliceV_nox (v : Val) (lo hi : Option Int) (h : Mem) : NoX (sliceV v lo hi h) := by
  unfold sliceV
  split
  · exact True.intro
  · split <;> exact True.intro
  · split <;> first | exact newL_nox _ _ | exact True.intro
  · exact True.intro
theorem s_slice {lo hi : Option Expr} {ml mh : MO} {p2 : Pos} (ha : PE X a (GoodE L X.K W da)) (hl : PO X lo (GoodO L X.K W ml)) (hu : PO X hi (GoodO L X.K W mh)) : PE X (.Subscript a (.Slice lo hi none p2) pos) (GoodE L X.K W (eSlice da ml mh)) := by
  refine peImp (pe_slice (sl_ok (L := L)) ha hl hu) fun σ H Q ⟨f, ρ, h, S, E, p⟩ => ?_
  refine ⟨f, ρ, h, S, E, (PostG.bind (R := RV L X.K) p).imp fun x' H1 ⟨f1, x, h1, e1, X1, S1, R1, p1⟩ => ?_⟩
  refine ⟨f1, ρ, h1, S1, E.mono S X1, (PostG.bind (R := RP) p1).imp fun l' H2 ⟨f2, l, h2, e2, X2, S2, R2, p2⟩ => ?_⟩
  obtain rfl : l = l' := R2
  refine ⟨f2, ρ, h2, S2, (E.mono S X1).mono S1 X2, (PostG.bind (R := RP) p2).imp fun u' H3 ⟨f3, u, h3, e3, X3, S3, R3, p3⟩ => ?_⟩
  obtain rfl : u = u' := R3
  exact ⟨f3, h3, x, S3, (R1.mono S1 X2).mono S2 X3, p3.nox (sliceV_nox _ _ _ _)⟩
/-! ### list(range(..)) -/
theorem rg_ok {i j : Int} (h : rgOk i j = true) : RgOk i j := by
  unfold rgOk small62 at h
  simp only [Bool.and_eq_true, decide_eq_true_eq] at h
  exact ⟨h.1.1.1, h.1.1.2, h.1.2.1, h.1.2.2, h.2⟩
theorem rgL_rel {K : PySem.W.Frag} {f : Nm} {H : Hp} (i j : Int) : RVs L K f H (rgL i j) (rgV i j) := by
  unfold rgL rgV
  have : ∀ l : List Nat, RVs L K f H (l.map fun n => Val.int (i + (n : Nat))) (l.map fun n => V.int (i + (n : Nat))) := fun l => by
    induction l with
    | nil => exact RVs.nil
    | cons n l ih => exact RVs.cons (mk_int _) ih
  exact this _
theorem s_listR1 {p p1 pos1 : Pos} (hc : X.calm = true) (hg : Gl X "list") (hm : X.mg "list" = none) (hgr : Gl X "range") (hmr : X.mg "range" = none) (ha : PE X a (GoodE L X.K W da)) (hst : noStar a = true) :
    PE X (.Call (.Name "list" p) [.Call (.Name "range" p1) [a] [] pos1] [] pos) (GoodE L X.K W (eListR1 da)) := by
  refine peImp (pe_listRg hc hg hm (prg_1 hgr hmr ha (star_cons hst)) rfl) fun σ H Q ⟨f, ρ, h, S, E, p⟩ => ?_
  refine ⟨f, ρ, h, S, E, (PostG.bind (R := RV L X.K) p).imp fun x' H1 ⟨f1, x, h1, e1, X1, S1, R1, p1⟩ => ?_⟩
  cases x with
  | int j =>
    dsimp only at p1
    split at p1
    · rename_i hz
      exact ⟨j, rv_int R1, rg_ok hz, (newL_ok S1 (rgL_rel 0 j) p1).2⟩
    · exact absurd p1 id
  | _ => exact absurd p1 id
theorem s_listR2 {p p1 pos1 : Pos} (hc : X.calm = true) (hg : Gl X "list") (hm : X.mg "list" = none) (hgr : Gl X "range") (hmr : X.mg "range" = none) (ha : PE X a (GoodE L X.K W da)) (hb : PE X b (GoodE L X.K W db)) (hst : noStar a = true) (hst2 : noStar b = true) :
    PE X (.Call (.Name "list" p) [.Call (.Name "range" p1) [a, b] [] pos1] [] pos) (GoodE L X.K W (eListR2 da db)) := by
  refine peImp (pe_listRg hc hg hm (prg_2 hgr hmr ha hb (star_cons hst) (star_cons hst2) (star_any (es := [b]) (by simp [hst2]))) rfl) fun σ H Q ⟨f, ρ, h, S, E, p⟩ => ?_
  refine ⟨f, ρ, h, S, E, (PostG.bind (R := RV L X.K) p).imp fun x' H1 ⟨f1, x, h1, e1, X1, S1, R1, p1⟩ => ?_⟩
  refine ⟨f1, ρ, h1, S1, E.mono S X1, (PostG.bind (R := RV L X.K) p1).imp fun y' H2 ⟨f2, y, h2, e2, X2, S2, R2, p2⟩ => ?_⟩
  have R1' := R1.mono S1 X2
  cases x with
  | int i =>
    cases y with
    | int j =>
      dsimp only at p2
      split at p2
      · rename_i hz
        exact ⟨i, j, rv_int R1', rv_int R2, rg_ok hz, (newL_ok S2 (rgL_rel i j) p2).2⟩
      · exact absurd p2 id
    | _ => exact absurd p2 id
  | _ => exact absurd p2 id
/-! ### [elt for t in it if c] -/
theorem s_lc {elt tg iter : Expr} {ifs : List Expr} {scope : Scope} {own : List (Str × Nat)} {t : Tg} {mi : MI} {mc : MT} {me : ME} (hc : X.calm = true) (hN : X.N.Nodup) (hi : PI X tg iter (GoodI L X.K W mi)) (ok : BlkOk X.N X.env.scope scope own) (hvs : ∀ j ∈ tgS t, j ∈ own.map (·.2))
    (hg : ∀ (s : Shared) (H : Hp) (C : Addr) (cl : List (Str × Addr)) (fp : List Addr), PG (X.blk s H scope (compEnvC scope cl C X.env) fp) tg (GoodG L X.K t))
    (ht : ∀ (s : Shared) (H : Hp) (C : Addr) (cl : List (Str × Addr)) (fp : List Addr), PTs (X.blk s H scope (compEnvC scope cl C X.env) fp) ifs (GoodT L X.K WF mc))
    (he : ∀ (s : Shared) (H : Hp) (C : Addr) (cl : List (Str × Addr)) (fp : List Addr), PE (X.blk s H scope (compEnvC scope cl C X.env) fp) elt (GoodE L X.K WF me)) (hs : ∀ x, foldedSetIterable iter X.env x = pure x) :
    PE X (.ListComp elt [⟨tg, iter, ifs, 0⟩] scope pos) (GoodE L X.K W (eLc (own.map (·.2)) t mi mc me)) :=
  peImp (pe_lc hc hN hi ok hg ht he hs) fun σ H Q G => good_lc hvs G
theorem st_setLc {i : Nat} {y : Str} {py spos : Pos} {elt tg iter : Expr} {ifs : List Expr} {scope : Scope} {own : List (Str × Nat)} {t : Tg} {mi : MI} {mc : MT} {me : ME} (hc : X.calm = true) (hN : X.N.Nodup) (hy : X.N[i]? = some y) (hyl : X.env.scope.names.lookup y = some .local)
    (hsw : swapsWith (.ListComp elt [⟨tg, iter, ifs, 0⟩] scope pos) (some (.Name y py)) spos.line X.env = pure true) (hi : PI X tg iter (GoodI L X.K W mi)) (ok : BlkOk X.N X.env.scope scope own) (hvs : ∀ j ∈ tgS t, j ∈ own.map (·.2))
    (hg : ∀ (s : Shared) (H : Hp) (C : Addr) (cl : List (Str × Addr)) (fp : List Addr), PG (X.blk s H scope (compEnvC scope cl C X.env) fp) tg (GoodG L X.K t))
    (ht : ∀ (s : Shared) (H : Hp) (C : Addr) (cl : List (Str × Addr)) (fp : List Addr), PTs (X.blk s H scope (compEnvC scope cl C X.env) fp) ifs (GoodT L X.K WF mc))
    (he : ∀ (s : Shared) (H : Hp) (C : Addr) (cl : List (Str × Addr)) (fp : List Addr), PE (X.blk s H scope (compEnvC scope cl C X.env) fp) elt (GoodE L X.K WF me)) (hs : ∀ x, foldedSetIterable iter X.env x = pure x) :
    PS X (.Assign [.Name y py] (.ListComp elt [⟨tg, iter, ifs, 0⟩] scope pos) spos) (GoodS L X.K W (sSet i (eLc (own.map (·.2)) t mi mc me))) := by
  refine psImp (ps_setLc hc hN hy hyl hsw hi ok hg ht he hs) fun D σ H G => ?_
  obtain ⟨f, ρ, h, S, E, p⟩ := G
  refine good_lc hvs ⟨f, ρ, h, S, E, (PostS.onE (R := RV L X.K) E S p).imp fun v' H1 ⟨f1, v, h1, e1, X1, S1, E1, R1, p1⟩ => p1 f1 H1 _ (Ext.refl _ _) S1 (E1.set R1 i)⟩
/-! ### {k: v for t in it if c} -/
theorem s_dc {kx vx tg iter : Expr} {ifs : List Expr} {scope : Scope} {own : List (Str × Nat)} {t : Tg} {mi : MI} {mc : MT} {mk mv : ME} (hc : X.calm = true) (hN : X.N.Nodup) (hi : PI X tg iter (GoodI L X.K W mi)) (ok : BlkOk X.N X.env.scope scope own) (hvs : ∀ j ∈ tgS t, j ∈ own.map (·.2))
    (hg : ∀ (s : Shared) (H : Hp) (C : Addr) (cl : List (Str × Addr)) (fp : List Addr), PG (X.blk s H scope (compEnvC scope cl C X.env) fp) tg (GoodG L X.K t))
    (ht : ∀ (s : Shared) (H : Hp) (C : Addr) (cl : List (Str × Addr)) (fp : List Addr), PTs (X.blk s H scope (compEnvC scope cl C X.env) fp) ifs (GoodT L X.K WF mc))
    (hk : ∀ (s : Shared) (H : Hp) (C : Addr) (cl : List (Str × Addr)) (fp : List Addr), PE (X.blk s H scope (compEnvC scope cl C X.env) fp) kx (GoodE L X.K WF mk))
    (he : ∀ (s : Shared) (H : Hp) (C : Addr) (cl : List (Str × Addr)) (fp : List Addr), PE (X.blk s H scope (compEnvC scope cl C X.env) fp) vx (GoodE L X.K WF mv)) (hs : ∀ x, foldedSetIterable iter X.env x = pure x) :
    PE X (.DictComp kx vx [⟨tg, iter, ifs, 0⟩] scope pos) (GoodE L X.K W (eDc (own.map (·.2)) t mi mc mk mv)) :=
  peImp (pe_dc hc hN hi ok hg ht hk he hs) fun σ H Q G => good_dc hvs G
theorem ps_setDc {i : Nat} {y : Str} {py : Pos} {kx vx tg iter : Expr} {ifs : List Expr} {scope : Scope} {own : List (Str × Nat)} {spos : Pos} {wi : TI} {g : TG} {tt : TT} {tk tv : TE} (hc : X.calm = true) (hN : X.N.Nodup) (hy : X.N[i]? = some y) (hyl : X.env.scope.names.lookup y = some .local)
    (hsw : swapsWith (.DictComp kx vx [⟨tg, iter, ifs, 0⟩] scope pos) (some (.Name y py)) spos.line X.env = pure true) (hi : PI X tg iter wi) (ok : BlkOk X.N X.env.scope scope own)
    (hg : ∀ (s : Shared) (H : Hp) (C : Addr) (cl : List (Str × Addr)) (fp : List Addr), PG (X.blk s H scope (compEnvC scope cl C X.env) fp) tg g) (ht : ∀ (s : Shared) (H : Hp) (C : Addr) (cl : List (Str × Addr)) (fp : List Addr), PTs (X.blk s H scope (compEnvC scope cl C X.env) fp) ifs tt)
    (hk : ∀ (s : Shared) (H : Hp) (C : Addr) (cl : List (Str × Addr)) (fp : List Addr), PE (X.blk s H scope (compEnvC scope cl C X.env) fp) kx tk)
    (he : ∀ (s : Shared) (H : Hp) (C : Addr) (cl : List (Str × Addr)) (fp : List Addr), PE (X.blk s H scope (compEnvC scope cl C X.env) fp) vx tv) (hs : ∀ x, foldedSetIterable iter X.env x = pure x) :
    PS X (.Assign [.Name y py] (.DictComp kx vx [⟨tg, iter, ifs, 0⟩] scope pos) spos) (tAsg (tDc wi g tt tk tv (own.map (·.2))) (gName i)) := by
  refine ⟨fun pins s σ H D I h => ?_⟩
  rw [exec_Assign_Name_used _ _ _ _ hsw]
  refine wpAny_bind (wpAny_standAt (wpAny_bind ?_))
  show wpAny _ X.A (do let _ ← comprehension (.DictComp kx vx [⟨tg, iter, ifs, 0⟩] scope pos) scope X.env (firstIterPos [⟨tg, iter, ifs, 0⟩] pos) newDict false (eval iter X.env) (some (assign (.Name y py) X.env))) _ _ s
  have h : tDc wi g tt tk tv (own.map (·.2)) σ H (fun x H1 => gName i x σ H1 D.nx) := h
  refine wpAny_bind (thn (dc_core (Qf := fun _ s' => SP X pins D .next s') hc hN I hi ok hg ht hk he hs h fun L C s' m H' I' q hn f => ?_) fun _ s' hq => wpAny_pure (wpAny_pure hq))
  show wpAny _ _ (assign (.Name y py) X.env (.ref L)) _ _ _
  refine wpAny_assign_Name (store_ok2 (v := V.ref L) I' hN hy (.inl hyl) rfl (fun s2 I2 ⟨a, sb, ha⟩ => ?_) (.inr hyl))
  obtain ⟨f0, f1, f2, f3, f4, f5⟩ := f
  have haC : C ≠ a := by
    rcases ha with z | z
    · rw [z]; exact f1
    · exact fun e => f4 y a z e.symm
  refine ⟨m, hn.sameBut sb haC, fun h3 sb3 => ?_⟩
  exact ⟨_, H', I2.turned (t' := s2.toks) (fun b o hb e => (sb3.2 b hb).trans e) f0 f1 f3 f4 f5, q⟩
theorem st_setDc {i : Nat} {y : Str} {py spos : Pos} {kx vx tg iter : Expr} {ifs : List Expr} {scope : Scope} {own : List (Str × Nat)} {t : Tg} {mi : MI} {mc : MT} {mk mv : ME} (hc : X.calm = true) (hN : X.N.Nodup) (hy : X.N[i]? = some y) (hyl : X.env.scope.names.lookup y = some .local)
    (hsw : swapsWith (.DictComp kx vx [⟨tg, iter, ifs, 0⟩] scope pos) (some (.Name y py)) spos.line X.env = pure true) (hi : PI X tg iter (GoodI L X.K W mi)) (ok : BlkOk X.N X.env.scope scope own) (hvs : ∀ j ∈ tgS t, j ∈ own.map (·.2))
    (hg : ∀ (s : Shared) (H : Hp) (C : Addr) (cl : List (Str × Addr)) (fp : List Addr), PG (X.blk s H scope (compEnvC scope cl C X.env) fp) tg (GoodG L X.K t))
    (ht : ∀ (s : Shared) (H : Hp) (C : Addr) (cl : List (Str × Addr)) (fp : List Addr), PTs (X.blk s H scope (compEnvC scope cl C X.env) fp) ifs (GoodT L X.K WF mc))
    (hk : ∀ (s : Shared) (H : Hp) (C : Addr) (cl : List (Str × Addr)) (fp : List Addr), PE (X.blk s H scope (compEnvC scope cl C X.env) fp) kx (GoodE L X.K WF mk))
    (he : ∀ (s : Shared) (H : Hp) (C : Addr) (cl : List (Str × Addr)) (fp : List Addr), PE (X.blk s H scope (compEnvC scope cl C X.env) fp) vx (GoodE L X.K WF mv)) (hs : ∀ x, foldedSetIterable iter X.env x = pure x) :
    PS X (.Assign [.Name y py] (.DictComp kx vx [⟨tg, iter, ifs, 0⟩] scope pos) spos) (GoodS L X.K W (sSet i (eDc (own.map (·.2)) t mi mc mk mv))) := by
  refine psImp (ps_setDc hc hN hy hyl hsw hi ok hg ht hk he hs) fun D σ H G => ?_
  obtain ⟨f, ρ, h, S, E, p⟩ := G
  refine good_dc hvs ⟨f, ρ, h, S, E, (PostS.onE (R := RV L X.K) E S p).imp fun v' H1 ⟨f1, v, h1, e1, X1, S1, E1, R1, p1⟩ => p1 f1 H1 _ (Ext.refl _ _) S1 (E1.set R1 i)⟩
theorem ts_nil : PTs X [] (GoodT L X.K W tYesM) := by
  have h : PTs X [] tYes := pts_nil
  exact ⟨fun pins s σ H Q I ⟨f, ρ, h', S, E, p⟩ => h.run pins s σ H Q I (p f H true (Ext.refl _ _) S rfl)⟩
theorem ts_one {t : MT} (h : PT X c (GoodT L X.K W t)) : PTs X [c] (GoodT L X.K W t) := pts_one h
/-- a, b = x, y with plain local names -/
def sPar (i j : Nat) (as : MA) : MS := fun ρ h => onE (as ρ h) ρ fun vs h => match vs with
  | [v, w] => .ok (.nx ((ρ.set i (some v)).set j (some w))) h
  | _ => .bad
theorem st_par {i j : Nat} {x y : Str} {px py pt : Pos} {kt k2 : Nat} {pt2 : Pos} (hc : X.calm = true) (hN : X.N.Nodup) (hi : X.N[i]? = some x) (hj : X.N[j]? = some y) (hij : i ≠ j) (hx : X.env.scope.names.lookup x = some .local) (hy : X.env.scope.names.lookup y = some .local) (ha : PA X [a, b] (GoodA L X.K W das))
    (hw : swappedStores [.Tuple [.Name x px, .Name y py] kt pt] (.Tuple [a, b] k2 pt2) X.env = pure (some [x, y])) :
    PS X (.Assign [.Tuple [.Name x px, .Name y py] kt pt] (.Tuple [a, b] k2 pt2) pos) (GoodS L X.K W (sPar i j das)) := by
  refine psImp (ps_par hc hN hi hj hij hx hy ha hw) fun D σ H ⟨f, ρ, h, S, E, p⟩ => ?_
  refine ⟨f, ρ, h, S, E, (PostS.onE (R := RVs L X.K) E S p).imp fun vs' H1 ⟨f1, vs, h1, e1, X1, S1, E1, R1, p1⟩ => ?_⟩
  match vs, R1, p1 with
  | [v, w], R1, p1 =>
    obtain ⟨v', w', rfl, r1, r2⟩ := R1.two
    exact ⟨v', w', rfl, p1 f1 H1 _ (Ext.refl _ _) S1 ((E1.set r1 i).set r2 j)⟩
  | [], _, p1 => exact absurd p1 id
  | [_], _, p1 => exact absurd p1 id
  | _ :: _ :: _ :: _, _, p1 => exact absurd p1 id
end
/-! ### xs[::-1], len(set(xs)) -/
def eRev (a : ME) : ME := fun ρ h => (a ρ h).bind fun v h => (Res.opt (lstOf h v) h).bind fun xs h => newL xs.reverse h
def lenSet (ns : List Int) : Nat := (PyProof.Rows.firstMet (fun i => ns.getD i 0) ns.length).length
def eLenSet (a : ME) : ME := fun ρ h => (a ρ h).bind fun v h => (Res.opt ((lstOf h v).bind intsOf) h).bind fun ns h => if ns.length ≤ 4000 then .ok (.int (lenSet ns)) h else .bad
section
variable {L : Lk} {X : Cx} {W : WX} {a : Expr} {da : ME} {pos : Pos}
theorem s_rev {k : Nat} {p1 p2 p3 : Pos} (ha : PE X a (GoodE L X.K W da)) : PE X (.Subscript a (.Slice none none (some (.UnaryOp .USub (.Constant (.int 1) k p1) p2)) p3) pos) (GoodE L X.K W (eRev da)) := by
  refine peImp (pe_revL ha) fun σ H Q ⟨f, ρ, h, S, E, p⟩ => ?_
  refine ⟨f, ρ, h, S, E, (PostG.bind (R := RV L X.K) p).imp fun x' H1 ⟨f1, x, h1, e1, X1, S1, R1, p1⟩ => ?_⟩
  cases e : lstOf h1 x with
  | none => rw [e] at p1; exact absurd p1 id
  | some xs =>
    rw [e] at p1
    obtain ⟨b, vs, rfl, sq, rr⟩ := S1.lstOf R1 e
    exact ⟨b, vs, rfl, sq, (newL_ok S1 rr.reverse p1).2⟩
def tLenSetA (K : PySem.W.Frag) (ta : TE) : TE := fun σ H Q => ta σ H fun x H1 => ∃ (l : Addr) (ns : List Int), x = .ref l ∧ SqL K H1 l (ns.map V.int) ∧ ns.length ≤ 4000 ∧ Q (.int (lenSet ns : Nat)) H1
open RZ in
theorem pe_lenSetA {ta : TE} {p p2 q : Pos} (hg : Gl X "len") (hm : X.mg "len" = none) (hg2 : Gl X "set") (hm2 : X.mg "set" = none) (ha : PE X a ta) (hc : X.calm = true)
    (na : starEach [a] X.env = (false, eval a X.env) :: starEach [] X.env) : PE X (.Call (.Name "len" p) [.Call (.Name "set" p2) [a] [] q] [] pos) (tLenSetA X.K ta) := by
  refine ⟨fun pins s σ H Q I h => ?_⟩
  refine Call_ (ld_blt I hg hm boot_len ?_)
  refine PyProof.Rows.callWith_builtin1 (PyProof.Rows.args_cons ?_ rfl) rfl rfl
  refine Call_ (ld_blt I hg2 hm2 boot_set ?_)
  refine PyProof.Rows.callWith_type1 (PyProof.Rows.args_cons (thn (ha.run pins s σ H _ I h) fun v s1 ⟨x, H1, I1, r1, q1⟩ => PyProof.Rows.args_nil ?_) na) na rfl
  obtain ⟨l, ns, rfl, hq, hl, q1⟩ := q1
  cases r1
  obtain ⟨its, r, pl, hz⟩ := I1.list hq
  have hlen : its.toArray.size = ns.length := by rw [List.size_toArray, ← r.length, List.length_map]
  refine call_set_list (I1.ok.hd hc) pl.isList (by simpa using intsAre_vals r) (by rw [hlen]; unfold scanBound; omega) fun h' tk hS hk => ?_
  refine PyProof.Rows.args_nil ?_
  rw [hlen] at hS
  have hle := PyProof.Rows.firstMet_length_le (fun i => ns.getD i 0) ns.length
  obtain ⟨o, es, ep, t, ho, hex, hd, _, _, _, hf, hn⟩ := hS
  have I2 : Inv X pins σ H1 { s1 with heap := h', toks := tk } := I1.kept fun b o e => hk b o (Heap.lt_size e) e
  exact call_len_set ho hex hd hf (by rw [hn] <;> omega) ⟨.int (lenSet ns : Nat), H1, I2.tok _, ⟨_, by rw [hn]; rfl⟩, q1⟩
theorem s_lenSet {p p1 pos1 : Pos} (hc : X.calm = true) (hg : Gl X "len") (hm : X.mg "len" = none) (hgr : Gl X "set") (hmr : X.mg "set" = none) (ha : PE X a (GoodE L X.K W da)) (hst : noStar a = true) :
    PE X (.Call (.Name "len" p) [.Call (.Name "set" p1) [a] [] pos1] [] pos) (GoodE L X.K W (eLenSet da)) := by
  refine peImp (pe_lenSetA hg hm hgr hmr ha hc (star_cons hst)) fun σ H Q ⟨f, ρ, h, S, E, p⟩ => ?_
  refine ⟨f, ρ, h, S, E, (PostG.bind (R := RV L X.K) p).imp fun x' H1 ⟨f1, x, h1, e1, X1, S1, R1, p1⟩ => ?_⟩
  cases e : (lstOf h1 x).bind intsOf with
  | none => rw [e] at p1; exact absurd p1 id
  | some ns =>
    rw [e] at p1
    obtain ⟨ys, e1, e2⟩ := Option.bind_eq_some_iff.mp e
    obtain ⟨b, vs, rfl, sq, rr⟩ := S1.lstOf R1 e1
    obtain rfl := ints_ok e2 rr
    dsimp only [Res.opt, Res.bind] at p1
    split at p1
    · rename_i hz
      exact ⟨b, ns, rfl, sq, hz, now S1 (mk_int _) p1⟩
    · exact absurd p1 id
end
section
variable {P : Program} {w : World} {A : Around} {E : Value → Shared → Prop} {s : Shared}
/-- set(l) of a list of ints -/
theorem call_set_listI {l : Addr} {items : Array Value} (ns : List Int) {Q : Value → Shared → Prop} (hh : A.handled = none) (hl : s.heap.IsList l items) (hit : IntsAre items.toList ns) (hb : ns.length + 1 < scanBound)
    (h : ∀ (h' : Heap) (tk c : Nat), SetR w h' s.heap.objs.size (fun j => decide (j ∈ ns)) c → c ≤ ns.length → (∀ b o, s.heap.get? b = some o → h'.get? b = some o) → Q (.ref s.heap.objs.size) { s with heap := h', toks := tk }) :
    wpAny (model P w) A (call (.type "set") [.ref l]) Q E s := by
  have hisz : items.size = ns.length := by rw [← Array.length_toList]; exact IntsAre.length hit
  obtain ⟨c, tl, hmro⟩ := F.called_set.mro
  have hmade := F.called_set.made
  have hsub := F.called_set.sub
  refine wpAny_call (codeAny_of_tree ?_)
  show wpAny _ _ (callAny (.type "set") _) _ _ _
  refine wpAny_pure ⟨Code.quiet_builtin _ (by decide +kernel), codeAny_builtin F.entry_type_call ?_⟩
  rw [Around.under_plain (weight_type_call_type "set" [.ref l] []) rfl]
  have h1 := F.called_set.notType
  have h2 := F.called_set.canCreate
  have hct := F.typeCall_set_1 (.ref l)
  repeat (any_goals (first | assumption | wp_step))
  generalize hso : ({ cls := .type "set", dict := none, data := .set #[] 0 (.fresh 0 0 (!w.params.followText "set-order")) } : Obj) = so
  refine codeAny_mono (code_set_led1 (.ref l) (E := E) (Q₁ := fun obj s₁ => obj = .ref s.heap.objs.size ∧ s₁ = { s with heap := s.heap.push so }) ⟨rfl, by rw [hso]⟩) fun r s₁ hr => ?_
  cases r with
  | error e => exact hr
  | ok fl =>
    cases fl with
    | ret obj =>
      obtain ⟨rfl, rfl⟩ := hr
      have hS : (s.heap.push so).get? s.heap.objs.size = some so := Heap.get?_push_size _ (by rw [← hso]; rfl)
      have hT : Shared.TypeIs { s with heap := s.heap.push so } (.ref s.heap.objs.size) "set" := ⟨_, hS, by rw [← hso]⟩
      have hli := F.called_set.init.lookup
      have hbi := F.called_set.init.bind (.ref s.heap.objs.size)
      repeat (any_goals (first | assumption | wp_step))
      refine codeAny_mono (codeAny_call_builtin (R := wants (fun r s₂ => r = .none ∧ ∃ h' tk c, s₂ = { s with heap := h', toks := tk } ∧ SetR w h' s.heap.objs.size (fun j => decide (j ∈ ns)) c ∧ c ≤ ns.length ∧ (∀ b o, s.heap.get? b = some o → h'.get? b = some o)) E) F.called_set.init.plain F.entry_set_init (check_set_init_1 hT ?_)) fun r₂ s₂ hr₂ => ?_
      · have hl1 : (s.heap.push so).IsList l items := by
          obtain ⟨ol, hol, hcl, nl, hdl⟩ := hl
          exact ⟨ol, Heap.get?_push_of_some _ hol, hcl, nl, hdl⟩
        obtain ⟨ol, hol, hcl, nl, hdl⟩ := hl
        have hlS : l < s.heap.objs.size := Heap.lt_size hol
        obtain ⟨ocls, odict, odata, oslots⟩ := ol
        simp only at hcl hdl
        subst hcl; subst hdl
        have hol' : (s.heap.push so).get? l = some { cls := .type "list", dict := odict, data := .seq items nl, slots := oslots } := Heap.get?_push_of_some _ hol
        have hsls := F.sub_list_set
        have hslf := F.sub_list_frozenset
        have hne : (Value.type "list" == Value.type "dict") = false := by decide
        have hh3 : A.in1.in1.in1.handled = none := by simp [hh]
        have sz : (s.heap.push so).objs.size = s.heap.objs.size + 1 := Heap.size_push ..
        have hneI : l ≠ (s.heap.push so).objs.size := by rw [sz]; exact Nat.ne_of_lt (Nat.lt_succ_of_lt hlS)
        have hSf : s.heap.objs.size ∉ [(s.heap.push so).objs.size, l] := by
          rw [sz]
          simp only [List.mem_cons, List.not_mem_nil, or_false, not_or]
          exact ⟨Nat.ne_of_lt (Nat.lt_succ_self _), Nat.ne_of_gt hlS⟩
        have hval : ∀ (i : Nat) (v : Value), items[i]? = some v → ∃ k t, ns[i]? = some k ∧ v = .int k t := fun i v hv => by
          have hi : i < ns.length := by rw [← hisz]; exact (Array.getElem?_eq_some_iff.mp hv).1
          obtain ⟨t, e⟩ := IntsAre.int_at hit i v (by rw [Array.getElem?_toList]; exact hv)
          exact ⟨ns[i], t, List.getElem?_eq_getElem hi, by rw [e, List.getD_eq_getElem?_getD, List.getElem?_eq_getElem hi]; rfl⟩
        subst hso
        unfold Builtin.«set.__init__» noKeywords Builtin.Frozenset.updateFrom
        generalize hPI : pyIter = PI
        wp_walk
        subst hPI
        refine wpAny_pyIter_list hl1 ?_
        refine wpAny_bind (wpAny_runValue ?_)
        refine set_update_ints ((Walks.list hh3 _ l hneI items).toS) s.heap.objs.size hSf ns hisz hb hval (items.size - 0) 0 _ (by omega) (Nat.zero_le _) ⟨⟨_, Heap.get?_push_size _ rfl, rfl, rfl⟩, (hl1.push _)⟩ ⟨0, Nat.le_refl 0, setR_new_at (Heap.get?_push_of_some _ hS)⟩ ?_
        intro s' c' hm hc' hS'
        obtain ⟨h', g2, d', tk', os'⟩ := s'
        have eg : g2 = s.gens := hm.gens
        have ed : d' = s.drawn := hm.drawn
        have eo : os' = s.os := hm.os
        subst eg; subst ed; subst eo
        show wpAny _ _ _ _ _ _
        refine wpAny_pure ?_
        show wpAny _ _ (ret Value.none) _ _ _
        rw [hisz] at hc'
        refine wpAny_pure ⟨rfl, h', tk', c', rfl, hS', hc', fun b o e => ?_⟩
        have hb0 : b < s.heap.objs.size := Heap.lt_size e
        exact hm.heap b o (by
          rw [sz]
          simp only [List.mem_cons, List.not_mem_nil, or_false, not_or]
          exact ⟨Nat.ne_of_lt hb0, Nat.ne_of_lt (Nat.lt_succ_of_lt hb0)⟩) (Heap.get?_push_of_some _ (Heap.get?_push_of_some _ e))
      · cases r₂ with
        | error e => exact hr₂
        | ok fl₂ =>
          cases fl₂ with
          | ret r =>
            obtain ⟨rfl, h', tk, c', rfl, hS', hc', hk'⟩ := hr₂
            repeat (any_goals (first | assumption | wp_step))
            exact h _ _ _ hS' hc' hk'
          | _ => exact hr₂.elim
    | _ => exact hr.elim
/-- sorted(s) of a set of ints, any number of them -/
theorem sorted_setI {a : Addr} {S : Int → Bool} {n : Nat} {Q : Value → Shared → Prop} (R : SetR w s.heap a S n) (hh : A.handled = none) (hz0 : n ≤ sizeLine)
    (hQ : ∀ s' p (out : Array Value) (c : Nat) (ns : List Int), (∀ b o, s.heap.get? b = some o → s'.heap.get? b = some o) → s'.gens = s.gens → s'.os = s.os → s.heap.objs.size ≤ p →
      s'.heap.get? p = some (seqObj "list" out c) → IntsAre out.toList ns → ns.Pairwise (· < ·) → (∀ k, k ∈ ns ↔ S k = true) → ns.length = n → Q (.ref p) s') :
    wpAny (model P w) A (call (.builtin "sorted") [.ref a]) Q E s := by
  obtain ⟨o, es, ep, t, ho, hex, hd, g, nd, hm, hb, hf, hn, hr, hl⟩ := R
  refine Calls.call_function_entry kind_sorted plain_sorted entry_sorted (args_sorted1 _) ?_
  unfold Builtin.«sorted»
  refine wpAny_bind (m := checkCount "sorted" 1 1 _) (wpAny_pure ?_)
  refine wpAny_bind (collect_set (A := A.in1) hh ⟨o, ho, hex.1, hd⟩ hf hb hr hl fun s1 vs k1 hz g1 o1 pm => ?_)
  have hvl : vs.length = n := by rw [pm.length_eq, List.length_map, Array.length_toList]; exact hn
  have hI : IntsAre vs (vs.map Builtin.Re.reRawOf) := ints_of vs fun v hv => by
    obtain ⟨e, he, q⟩ := List.mem_map.mp (pm.mem_iff.mp hv)
    obtain ⟨k, tk, h1, _⟩ := g e he
    exact ⟨k, tk, by rw [← q]; exact h1⟩
  have pk : (vs.map Builtin.Re.reRawOf).Perm (es.toList.map L2.keyOf) := by
    have q := pm.map Builtin.Re.reRawOf
    rw [List.map_map] at q
    exact q
  refine wpAny_bind (wpAny_newList ?_ (by rw [hvl]; exact hz0))
  have hoL : (s1.heap.push (seqObj "list" vs.toArray 0)).get? s1.heap.objs.size = some (seqObj "list" vs.toArray 0) := Heap.get?_push_size _ rfl
  refine wpAny_bind (wpAny_holding (wpAny_call_entry slot_list_sort ⟨_, hoL, rfl⟩ entry_list_sort (SrtO.list_sort_ord SrtO.swo_int hoL (by rw [hvl]; exact hz0) (fun h2 => SrtO.ints_sortable hI h2) fun out x1 x2 => ⟨_, rfl, ?_⟩) (args_list_sort _)))
  obtain ⟨a1, a2, a3⟩ := SrtO.ints_out hI x1 x2
  obtain ⟨c, hc⟩ := sortedHeap_at (vs := vs) (out := out.toArray) hoL
  have pn : (out.map SrtO.iv).Perm (es.toList.map L2.keyOf) := a2.trans pk
  refine wpAny_pure ⟨_, rfl, hQ _ s1.heap.objs.size out.toArray c (out.map SrtO.iv) (fun b u e => ?_) g1 o1 hz hc (by simpa using a1) (lt_of_le_nodup _ a3 (pn.nodup_iff.mpr nd)) (fun k => by rw [pn.mem_iff, ← hm k]) ?_⟩
  · have q := k1 b u e
    have hlt := Heap.lt_size q
    show (sortedHeap (s1.heap.push (seqObj "list" vs.toArray 0)) s1.heap.objs.size vs out.toArray).get? b = some u
    rw [sortedHeap_old (Nat.ne_of_lt hlt) (by rw [size_push']; exact Nat.lt_succ_of_lt hlt)]
    exact Heap.get?_push_of_some _ q
  · rw [pn.length_eq, List.length_map, Array.length_toList]; exact hn
end
/-- the ints of ns, each once, upwards -/
def insU (x : Int) : List Int → List Int
  | [] => [x]
  | y :: l => if x < y then x :: y :: l else if x = y then y :: l else y :: insU x l
theorem insU_mem {x k : Int} : ∀ {l : List Int}, k ∈ insU x l ↔ k = x ∨ k ∈ l
  | [] => by simp [insU]
  | y :: l => by
    unfold insU
    split
    · simp
    · split
      · rename_i e; subst e; simp
      · rw [List.mem_cons, insU_mem, List.mem_cons]
        constructor
        · rintro (h | h | h)
          · exact .inr (.inl h)
          · exact .inl h
          · exact .inr (.inr h)
        · rintro (h | h | h)
          · exact .inr (.inl h)
          · exact .inl h
          · exact .inr (.inr h)
theorem insU_lt {x : Int} : ∀ {l : List Int}, l.Pairwise (· < ·) → (insU x l).Pairwise (· < ·)
  | [], _ => by simp [insU]
  | y :: l, h => by
    obtain ⟨h1, h2⟩ := List.pairwise_cons.mp h
    unfold insU
    split
    · rename_i hlt
      refine List.pairwise_cons.mpr ⟨fun z hz => ?_, h⟩
      rcases List.mem_cons.mp hz with e | e
      · omega
      · have := h1 z e; omega
    · split
      · exact h
      · refine List.pairwise_cons.mpr ⟨fun z hz => ?_, insU_lt h2⟩
        rcases insU_mem.mp hz with e | e
        · omega
        · exact h1 z e
def srtSet (ns : List Int) : List Int := ns.foldr insU []
theorem srtSet_mem {k : Int} : ∀ {ns : List Int}, k ∈ srtSet ns ↔ k ∈ ns
  | [] => by simp [srtSet]
  | n :: ns => by
    show k ∈ insU n (srtSet ns) ↔ _
    rw [insU_mem, srtSet_mem, List.mem_cons]
theorem srtSet_lt : ∀ ns : List Int, (srtSet ns).Pairwise (· < ·)
  | [] => List.Pairwise.nil
  | n :: ns => insU_lt (srtSet_lt ns)
theorem lt_uniq : ∀ {l m : List Int}, l.Pairwise (· < ·) → m.Pairwise (· < ·) → (∀ k, k ∈ l ↔ k ∈ m) → l = m
  | [], [], _, _, _ => rfl
  | [], y :: m, _, _, h => absurd ((h y).mpr (by simp)) (by simp)
  | x :: l, [], _, _, h => absurd ((h x).mp (by simp)) (by simp)
  | x :: l, y :: m, pl, pm, h => by
    obtain ⟨l1, l2⟩ := List.pairwise_cons.mp pl
    obtain ⟨m1, m2⟩ := List.pairwise_cons.mp pm
    have hxy : x = y := by
      have h1 := (h x).mp (by simp)
      have h2 := (h y).mpr (by simp)
      rcases List.mem_cons.mp h1 with e | e
      · exact e
      · rcases List.mem_cons.mp h2 with e2 | e2
        · exact e2.symm
        · have := m1 x e
          have := l1 y e2
          omega
    subst hxy
    congr 1
    refine lt_uniq l2 m2 fun k => ?_
    constructor
    · intro hk
      have := l1 k hk
      rcases List.mem_cons.mp ((h k).mp (List.mem_cons_of_mem _ hk)) with e | e
      · omega
      · exact e
    · intro hk
      have := m1 k hk
      rcases List.mem_cons.mp ((h k).mpr (List.mem_cons_of_mem _ hk)) with e | e
      · omega
      · exact e
def eSortSet (a : ME) : ME := fun ρ h => (a ρ h).bind fun v h => (Res.opt ((lstOf h v).bind intsOf) h).bind fun ns h => if ns.length ≤ 4000 then newL ((srtSet ns).map .int) h else .bad
section
variable {L : Lk} {X : Cx} {W : WX} {a : Expr} {da : ME} {pos : Pos}
def tSortSetA (K : PySem.W.Frag) (ta : TE) : TE := fun σ H Q => ta σ H fun x H1 => ∃ (l : Addr) (ns : List Int), x = .ref l ∧ SqL K H1 l (ns.map V.int) ∧ ns.length ≤ 4000 ∧ ∀ p, H1 p = none → Q (.ref p) (upd H1 p (.lst ((srtSet ns).map V.int)))
open RZ in
theorem pe_sortSetA {ta : TE} {p p2 q : Pos} (hg : Gl X "sorted") (hm : X.mg "sorted" = none) (hg2 : Gl X "set") (hm2 : X.mg "set" = none) (ha : PE X a ta) (hc : X.calm = true)
    (na : starEach [a] X.env = (false, eval a X.env) :: starEach [] X.env) : PE X (.Call (.Name "sorted" p) [.Call (.Name "set" p2) [a] [] q] [] pos) (tSortSetA X.K ta) := by
  refine ⟨fun pins s σ H Q I h => ?_⟩
  refine Call_ (ld_blt I hg hm boot_sorted ?_)
  refine PyProof.Rows.callWith_builtin1 (PyProof.Rows.args_cons ?_ rfl) rfl rfl
  refine Call_ (ld_blt I hg2 hm2 boot_set ?_)
  refine PyProof.Rows.callWith_type1 (PyProof.Rows.args_cons (thn (ha.run pins s σ H _ I h) fun v s1 ⟨x, H1, I1, r1, q1⟩ => PyProof.Rows.args_nil ?_) na) na rfl
  obtain ⟨l, ns, rfl, hq, hl, q1⟩ := q1
  cases r1
  obtain ⟨its, r, pl, hz⟩ := I1.list hq
  have ls := sizeLine_eq
  refine call_set_listI ns (I1.ok.hd hc) pl.isList (by simpa using intsAre_vals r) (by unfold scanBound; omega) fun h' tk c R1 hcn k => ?_
  refine PyProof.Rows.args_nil ?_
  have I2 : Inv X pins σ H1 { s1 with heap := h', toks := tk } := I1.kept k
  refine sorted_setI (s := { s1 with heap := h', toks := tk }) R1 (I2.ok.hd hc) (by omega) fun s' p out cc ms kk g o hp hg' hi hs hm' hlen => ?_
  have hlen2 : (ms.map V.int).length ≤ sizeLine := by rw [List.length_map, hlen]; omega
  have hn : H1 p = none := I2.hok.fresh hp
  have J : Inv X pins σ (upd H1 p (.lst (ms.map V.int))) { ({ s1 with heap := h', toks := tk } : Shared) with heap := s'.heap, gens := s'.gens, drawn := s'.drawn, toks := s'.toks } :=
    I2.call (ch := []) (Un.laid kk hp hn) (I2.hok.laid kk hp ⟨hlen2, out.toList, cc, vals_of_ints hi, hg'⟩) (by rw [g]; exact I2.bare) (fun _ z => nomatch z)
  have e : s' = { ({ s1 with heap := h', toks := tk } : Shared) with heap := s'.heap, gens := s'.gens, drawn := s'.drawn, toks := s'.toks } := by
    cases s'
    cases o
    rfl
  rw [e]
  have eu : ms = srtSet ns := lt_uniq hs (srtSet_lt ns) fun k => by rw [hm' k, srtSet_mem, decide_eq_true_iff]
  rw [eu] at J
  exact ⟨.ref p, _, J, rfl, q1 p hn⟩
theorem s_sortSet {p p1 pos1 : Pos} (hc : X.calm = true) (hg : Gl X "sorted") (hm : X.mg "sorted" = none) (hgr : Gl X "set") (hmr : X.mg "set" = none) (ha : PE X a (GoodE L X.K W da)) (hst : noStar a = true) :
    PE X (.Call (.Name "sorted" p) [.Call (.Name "set" p1) [a] [] pos1] [] pos) (GoodE L X.K W (eSortSet da)) := by
  refine peImp (pe_sortSetA hg hm hgr hmr ha hc (star_cons hst)) fun σ H Q ⟨f, ρ, h, S, E, p⟩ => ?_
  refine ⟨f, ρ, h, S, E, (PostG.bind (R := RV L X.K) p).imp fun x' H1 ⟨f1, x, h1, e1, X1, S1, R1, p1⟩ => ?_⟩
  cases e : (lstOf h1 x).bind intsOf with
  | none => rw [e] at p1; exact absurd p1 id
  | some ns =>
    rw [e] at p1
    obtain ⟨ys, e1, e2⟩ := Option.bind_eq_some_iff.mp e
    obtain ⟨b, vs, rfl, sq, rr⟩ := S1.lstOf R1 e1
    obtain rfl := ints_ok e2 rr
    dsimp only [Res.opt, Res.bind] at p1
    split at p1
    · rename_i hz
      exact ⟨b, ns, rfl, sq, hz, (newL_ok S1 (RVs.ints _) p1).2⟩
    · exact absurd p1 id
end
end Mp
set_option Elab.async false
set_option linter.all false
set_option maxRecDepth 100000
set_option maxHeartbeats 2000000
namespace Mp
open PySem PySem.Spec PyProof.Rows L2
/-! ### the machine reads the syntax -/
def findIx : List Str → Str → Option Nat
  | [], _ => none
  | y :: r, x => if y = x then some 0 else (findIx r x).map (· + 1)
theorem findIx_get : ∀ {N : List Str} {x : Str} {i : Nat}, findIx N x = some i → N[i]? = some x
  | [], _, _, e => by cases e
  | y :: r, x, i, e => by
    unfold findIx at e
    split at e
    · rename_i h; cases e; rw [h]; rfl
    · obtain ⟨j, e1, rfl⟩ := Option.map_eq_some_iff.mp e
      exact findIx_get (N := r) e1
def visK : Option NameKind → Bool
  | some .local => true
  | some .cell => true
  | some .free => true
  | _ => false
def slotOf (N : List Str) (sc : Scope) (x : Str) : Option Nat := if visK (sc.names.lookup x) && !(x == ("__debug__" : Str)) && !(x == ("__classdict__" : Str)) then findIx N x else none
def isGl (sc : Scope) (x : Str) : Bool := decide (sc.names.lookup x = some .globalImplicit) && !(x == ("__debug__" : Str))
def locK : Option NameKind → Bool
  | some .local => true
  | some .cell => true
  | _ => false
def evA (ev : Expr → ME) : List Expr → MA
  | [] => aNil
  | e :: es => aCons (ev e) (evA ev es)
def evK (ev : Expr → ME) : List Keyword → MA
  | [] => aNil
  | ⟨_, e, _⟩ :: es => aCons (ev e) (evK ev es)
def evAnd (ev : Expr → ME) : List Expr → ME
  | [] => eBad
  | [a] => ev a
  | a :: b :: r => eAnd (ev a) (evAnd ev (b :: r))
def evOr (ev : Expr → ME) : List Expr → ME
  | [] => eBad
  | [a] => ev a
  | a :: b :: r => eOr (ev a) (evOr ev (b :: r))
def tBad : MT := fun _ _ => .bad
def evAndT (ev : Expr → MT) : List Expr → MT
  | [] => tBad
  | [a] => ev a
  | a :: b :: r => tAnd (ev a) (evAndT ev (b :: r))
def evOrT (ev : Expr → MT) : List Expr → MT
  | [] => tBad
  | [a] => ev a
  | a :: b :: r => tOr (ev a) (evOrT ev (b :: r))
def iBad : MI := fun _ _ => .bad
def isSlice : Expr → Bool
  | .Slice _ _ _ _ => true
  | _ => false
def isSetE : Expr → Bool
  | .Set _ _ _ => true
  | _ => false
def isTupE : Expr → Bool
  | .Tuple _ _ _ => true
  | _ => false
def baseOk : Expr → Bool
  | .Call (.Name _ _) [] [] _ => false
  | _ => true
/-- the target of a for, of a comprehension, of an assignment: names and tuples of them -/
def tgOf (N : List Str) (sc : Scope) : Nat → Expr → Option Tg
  | 0, _ => none
  | n + 1, e => match e with
    | .Name x _ => if locK (sc.names.lookup x) then (findIx N x).map .nm else none
    | .Tuple es _ _ => (go n es).map .tp
    | _ => none
where go (n : Nat) : List Expr → Option (List Tg)
    | [] => some []
    | e :: es => if noStar e then (match tgOf N sc n e, go n es with
      | some t, some ts => some (t :: ts)
      | _, _ => none) else none
def tyNamesOf : List Expr → Option (List (Str × String))
  | [] => some []
  | .Name x _ :: r => match tyNames.lookup x, tyNamesOf r with
    | some T, some l => some ((x, T) :: l)
    | _, _ => none
  | _ :: _ => none
def evO (ev : Expr → ME) : Option Expr → MO
  | none => oNone
  | some e => oSome (ev e)
def ownOf (N : List Str) (scope : Scope) : List (Str × Nat) := scope.names.filterMap fun p => if locK (some p.2) then (findIx N p.1).map fun i => (p.1, i) else none
def natIn (xs ys : List Nat) : Bool := xs.all fun x => ys.contains x
section
variable (Γ : Pg) (call : CallT) (N : List Str)
def evIsi (ev : Expr → ME) (sc : Scope) (args : List Expr) : ME := match args with
  | [a, .Name x _] => if noStar a && isGl sc x then (match tyNames.lookup x with
    | some T => eIsi [T] (ev a)
    | none => eBad) else eBad
  | [a, .Tuple es _ _] => match tyNamesOf es with
    | some xs => if noStar a && xs.all (fun q => isGl sc q.1) && decide (xs.length ≤ sizeLine) then eIsi (xs.map (·.2)) (ev a) else eBad
    | none => eBad
  | _ => eBad
def evBlt (ev : Expr → ME) (sc : Scope) (x : Str) (args : List Expr) : ME :=
  if x = "isinstance" then evIsi ev sc args else match biOf x, args with
    | some b, a :: es => eBi b (evA ev (a :: es))
    | _, _ => eBad
def evListR (ev : Expr → ME) (sc : Scope) (x : Str) (args : List Expr) : ME := match args with
  | [.Call (.Name y _) [a] [] _] => if x = "list" && decide (y = ("range" : Str)) && isGl sc "range" then (if noStar a then eListR1 (ev a) else eBad) else evBlt ev sc x args
  | [.Call (.Name y _) [a, b] [] _] => if x = "list" && decide (y = ("range" : Str)) && isGl sc "range" then (if noStar a && noStar b then eListR2 (ev a) (ev b) else eBad) else evBlt ev sc x args
  | _ => evBlt ev sc x args
def evLenS (ev : Expr → ME) (sc : Scope) (x : Str) (args : List Expr) : ME := match args with
  | [.Call (.Name y _) [a] [] _] => if x = "len" && decide (y = ("set" : Str)) && isGl sc "set" then (if noStar a then eLenSet (ev a) else eBad) else if x = "sorted" && decide (y = ("set" : Str)) && isGl sc "set" then (if noStar a then eSortSet (ev a) else eBad) else evListR ev sc x args
  | _ => evListR ev sc x args
def kwNames (kws : List Keyword) : List Str := kws.filterMap (·.arg)
def evCall (ev : Expr → ME) (sc : Scope) (x : Str) (args : List Expr) (kws : List Keyword) : ME :=
  if isGl sc x && args.all noStar && kws.all (·.arg.isSome) then
    (if Γ.tops.contains x then (match Γ.fns.lookup x with
      | some D => if decide ((x, args.length, kwNames kws) ∈ Γ.shapes) then
          (if kws.isEmpty && decide (args.length = D.ps.length) then eCall (call x) (evA ev args) else (match bindV D args.length (kwNames kws) with
            | some sel => eCallS (call x) sel (evA ev args) (evK ev kws)
            | none => eBad)) else eBad
      | none => eBad)
    else match Γ.cls.lookup x with
      | some C => (match Γ.fns.lookup C.init with
        | some D => if decide ((C.init, args.length + 1, kwNames kws) ∈ Γ.shapes) then (match bindV D (args.length + 1) (kwNames kws) with
            | some sel => eMake (call C.init) x sel (evA ev args) (evK ev kws)
            | none => eBad) else eBad
        | none => eBad)
      | none => if kws.isEmpty then evLenS ev sc x args else eBad)
  else eBad
def evMeth (ev : Expr → ME) (o : Expr) (m : Str) (apos : Pos) (args : List Expr) (kws : List Keyword) (pos : Pos) : ME :=
  if baseOk o && args.all noStar && kws.all (·.arg.isSome) && decide (args.length + kws.length + 1 < 30) && (apos.endLine == pos.line) then eMeth Γ call m args.length (kwNames kws) (ev o) (evA ev args) (evK ev kws) else eBad
def evI (ev : Expr → ME) (sc : Scope) (tg iter : Expr) : MI := match iter with
  | .Call (.Name x _) [a] [] _ => if isGl sc x && decide (x = ("range" : Str)) then (if noStar a then iRng1 (ev a) else iBad) else if isGl sc x && decide (x = ("enumerate" : Str)) then (if noStar a && isTupE tg then iEnum (ev a) else iBad) else iVal (ev iter)
  | .Call (.Name x _) [a, b] [] _ => if isGl sc x && decide (x = ("range" : Str)) then (if noStar a && noStar b then iRng2 (ev a) (ev b) else iBad) else if isGl sc x && decide (x = ("zip" : Str)) then (if noStar a && noStar b && isTupE tg then iZip (ev a) (ev b) else iBad) else iVal (ev iter)
  | _ => if isSetE iter then iBad else iVal (ev iter)
def evIfs (ev : Expr → MT) : List Expr → MT
  | [] => tYesM
  | [c] => ev c
  | _ => tBad
def nameSlot (N : List Str) (sc : Scope) (iter : Expr) : Option Nat := match iter with
  | .Name x _ => slotOf N sc x
  | _ => none
def lcBy (o : Option Nat) (vs : List Nat) (t : Tg) (mi : MI) (c : MT) (elt : ME) : ME := match o with
  | some i => eLcN i vs t c elt
  | none => eLc vs t mi c elt
def evLc (ev : Scope → Expr → ME × MT) (sc : Scope) (elt : Expr) (gens : List Comprehension) (scope : Scope) : ME := match gens with
  | [⟨tg, iter, ifs, is_async⟩] => (match tgOf N scope 5 tg with
    | some t => if decide (is_async = 0) && blkC N sc scope (ownOf N scope) && natIn (tgS t) ((ownOf N scope).map (·.2)) && decide (ifs.length ≤ 1) then
        lcBy (nameSlot N sc iter) ((ownOf N scope).map (·.2)) t (evI (fun e => (ev sc e).1) sc tg iter) (evIfs (fun e => (ev (relS scope sc) e).2) ifs) (ev (relS scope sc) elt).1 else eBad
    | none => eBad)
  | _ => eBad
def evDc (ev : Scope → Expr → ME × MT) (sc : Scope) (kx vx : Expr) (gens : List Comprehension) (scope : Scope) : ME := match gens with
  | [⟨tg, iter, ifs, is_async⟩] => (match tgOf N scope 5 tg with
    | some t => if decide (is_async = 0) && blkC N sc scope (ownOf N scope) && natIn (tgS t) ((ownOf N scope).map (·.2)) && decide (ifs.length ≤ 1) then
        eDc ((ownOf N scope).map (·.2)) t (evI (fun e => (ev sc e).1) sc tg iter) (evIfs (fun e => (ev (relS scope sc) e).2) ifs) (ev (relS scope sc) kx).1 (ev (relS scope sc) vx).1 else eBad
    | none => eBad)
  | _ => eBad
def evCmp (ev : Expr → ME) (a : Expr) (ops : List CmpOp) (bs : List Expr) : ME := match ops, bs with
  | [op], [b] => if behindInMarks op b then eBad else (match op with
    | .In => eIn Γ call false (ev a) (ev b)
    | .NotIn => eIn Γ call true (ev a) (ev b)
    | op => eCmp op (ev a) (ev b))
  | [op, op'], [b, c] => if lastMarks [op, op'] [b, c] then eBad else eChain op op' (ev a) (ev b) (ev c)
  | _, _ => eBad
def evRev (ev : Expr → ME) (a : Expr) (lo hi : Option Expr) (s : Expr) : ME := match lo, hi, s with
  | none, none, .UnaryOp .USub (.Constant (.int 1) _ _) _ => eRev (ev a)
  | _, _, _ => eBad
def evSub (ev : Expr → ME) (a b : Expr) : ME := match b with
  | .Slice lo hi st _ => match st with
    | none => eSlice (ev a) (evO ev lo) (evO ev hi)
    | some s => evRev ev a lo hi s
  | b => eIdx (ev a) (ev b)
def evConst : Const → ME
  | .none => eC .non
  | .bool b => eC (.bl b)
  | .int i => eC (.int i)
  | .str x => eC (.str x)
  | _ => eBad
def evName (sc : Scope) (x : Str) : ME := match slotOf N sc x with
  | some i => eVar i
  | none => if isGl sc x then (match Γ.glob.lookup x with
    | some v => eC v
    | none => if Γ.tops.contains x && (Γ.fns.lookup x).isSome then eC (.fn x) else eBad) else eBad
def evCl (ev : Expr → ME) (sc : Scope) (f : Expr) (args : List Expr) (kws : List Keyword) (pos : Pos) : ME := match f with
  | .Name x _ => evCall Γ call ev sc x args kws
  | .Attribute o m apos => evMeth Γ call ev o m apos args kws pos
  | _ => eBad
def evUn (ev : Expr → ME) (op : UnaryOp) (a : Expr) : ME := match op with
  | .USub => eNeg (ev a)
  | .Not => eNot (ev a)
  | _ => eBad
def ev1 (self : Scope → Expr → ME × MT) (sc : Scope) (e : Expr) : ME := match e with
  | .Constant c _ _ => evConst c
  | .Name x _ => evName Γ N sc x
  | .BinOp a op b _ => eBin op (self sc a).1 (self sc b).1
  | .UnaryOp op a _ => evUn (fun e => (self sc e).1) op a
  | .BoolOp op vs _ => (match op with
    | .And => evAnd (fun e => (self sc e).1) vs
    | .Or => evOr (fun e => (self sc e).1) vs)
  | .Compare a ops bs _ => evCmp Γ call (fun e => (self sc e).1) a ops bs
  | .IfExp c a b _ => eIf (self sc c).2 (self sc a).1 (self sc b).1
  | .Tuple es _ _ => if es.all noStar then eTup (evA (fun e => (self sc e).1) es) else eBad
  | .List es _ => if es.all noStar then eLst (evA (fun e => (self sc e).1) es) else eBad
  | .Subscript a b _ => evSub (fun e => (self sc e).1) a b
  | .Attribute a x _ => if baseOk a then eAttr Γ call x (self sc a).1 else eBad
  | .ListComp elt gens scope _ => evLc N self sc elt gens scope
  | .DictComp kx vx gens scope _ => evDc N self sc kx vx gens scope
  | .Call f args kws pos => evCl Γ call (fun e => (self sc e).1) sc f args kws pos
  | .Dict ks vs _ => (match ks, vs with
    | [], [] => eDic0
    | _, _ => eBad)
  | _ => eBad
def evT1 (self : Scope → Expr → ME × MT) (sc : Scope) (e : Expr) : MT := match e with
  | .UnaryOp op a pos => (match op with
    | .Not => tNot (self sc a).2
    | op => tE (ev1 Γ call N self sc (.UnaryOp op a pos)))
  | .BoolOp op vs _ => (match op with
    | .And => evAndT (fun e => (self sc e).2) vs
    | .Or => evOrT (fun e => (self sc e).2) vs)
  | .IfExp _ _ _ _ => tBad
  | e => tE (ev1 Γ call N self sc e)
def ev : Nat → Scope → Expr → ME × MT
  | 0, _, _ => (eBad, tBad)
  | n + 1, sc, e => (ev1 Γ call N (ev n) sc e, evT1 Γ call N (ev n) sc e)
end
/-! ### contexts -/
def bltNames : List Str := (["range", "enumerate", "zip", "isinstance", "set"] : List Str) ++ biTab.map (·.1) ++ tyNames.map (·.1)
structure XOk (Γ : Pg) (L : Lk) (call : CallT) (k : Nat) (N : List Str) (sc : Scope) (X : Cx) : Prop where
  hN : X.N = N
  nd : N.Nodup
  hsc : X.env.scope = sc
  calm : X.calm = true
  room : Room (k + 1) X.A
  fn : ∀ g D, Γ.fns.lookup g = some D → FnF L X.prog X.w X.K X.mg X.base k Γ call g D
  top : ∀ g, Γ.tops.contains g = true → X.mg g = some (.ref (L.F g))
  cls : ∀ c C, Γ.cls.lookup c = some C → ClF L X.K c C
  clg : ∀ c C, Γ.cls.lookup c = some C → X.mg c = some (.ref (L.C c))
  glob : ∀ x v, Γ.glob.lookup x = some v → ∃ v' u, X.mg x = some u ∧ RelV v' u ∧ ∀ f H, RV L X.K f H v v'
  blt : ∀ x ∈ bltNames, Γ.tops.contains x = false → Γ.cls.lookup x = none → Γ.glob.lookup x = none → X.mg x = none
  nob : ∀ x ∈ bltNames, Γ.tops.contains x = false ∧ Γ.cls.lookup x = none ∧ Γ.glob.lookup x = none
  prop : ∀ c C x g, Γ.cls.lookup c = some C → C.props.lookup x = some g → ∃ D, Γ.fns.lookup g = some D ∧ D.ps.length = 1 ∧ (g, 1, []) ∈ Γ.shapes ∧ ∃ sel, bindV D 1 [] = some sel
section
variable {Γ : Pg} {L : Lk} {call : CallT} {k : Nat} {N : List Str} {sc : Scope} {X : Cx} {W : WX} {pos : Pos}
theorem XOk.gl (ok : XOk Γ L call k N sc X) {x : Str} (h : isGl sc x = true) : Gl X x ∧ (x == ("__debug__" : Str)) = false := by
  unfold isGl at h
  rw [Bool.and_eq_true] at h
  refine ⟨?_, by simpa using h.2⟩
  show X.env.scope.names.lookup x = _
  rw [ok.hsc]
  exact of_decide_eq_true h.1
theorem XOk.no (ok : XOk Γ L call k N sc X) {x : Str} (h : x ∈ bltNames) : X.mg x = none := by
  obtain ⟨h1, h2, h3⟩ := ok.nob x h
  exact ok.blt x h h1 h2 h3
theorem XOk.units (ok : XOk Γ L call k N sc X) : X.A.units + 65 < cLine := by
  have := ok.room.un
  omega
theorem XOk.slot (ok : XOk Γ L call k N sc X) {x : Str} {i : Nat} (h : slotOf N sc x = some i) : X.N[i]? = some x ∧ Vis X.env.scope x ∧ (x == ("__debug__" : Str)) = false ∧ (x == ("__classdict__" : Str)) = false := by
  unfold slotOf at h
  split at h
  · rename_i hc
    simp only [Bool.and_eq_true, Bool.not_eq_true'] at hc
    refine ⟨by rw [ok.hN]; exact findIx_get h, ?_, hc.1.2, hc.2⟩
    have hv := hc.1.1
    rw [← ok.hsc] at hv
    unfold Vis
    revert hv
    cases X.env.scope.names.lookup x with
    | none => intro hv; simp [visK] at hv
    | some kd => cases kd <;> simp [visK]
  · cases h
theorem evA_len {ev : Expr → ME} : ∀ {es : List Expr} {ρ : Env} {h : Mem} {us : List Val} {h' : Mem}, evA ev es ρ h = .ok us h' → us.length = es.length
  | [], ρ, h, us, h', e => by cases e; rfl
  | a :: es, ρ, h, us, h', e => by
    simp only [evA, aCons] at e
    cases q : ev a ρ h with
    | bad => rw [q] at e; cases e
    | exc _ _ _ => rw [q] at e; cases e
    | ok v h1 =>
      rw [q, Res.bind_ok] at e
      cases q2 : evA ev es ρ h1 with
      | bad => rw [q2] at e; cases e
      | exc _ _ _ => rw [q2] at e; cases e
      | ok vs h2 =>
        rw [q2] at e
        cases e
        rw [List.length_cons, List.length_cons, evA_len q2]
theorem evK_len {ev : Expr → ME} : ∀ {es : List Keyword} {ρ : Env} {h : Mem} {us : List Val} {h' : Mem}, evK ev es ρ h = .ok us h' → us.length = es.length
  | [], ρ, h, us, h', e => by cases e; rfl
  | ⟨_, a, _⟩ :: es, ρ, h, us, h', e => by
    simp only [evK, aCons] at e
    cases q : ev a ρ h with
    | bad => rw [q] at e; cases e
    | exc _ _ _ => rw [q] at e; cases e
    | ok v h1 =>
      rw [q, Res.bind_ok] at e
      cases q2 : evK ev es ρ h1 with
      | bad => rw [q2] at e; cases e
      | exc _ _ _ => rw [q2] at e; cases e
      | ok vs h2 =>
        rw [q2] at e
        cases e
        rw [List.length_cons, List.length_cons, evK_len q2]
theorem kwNames_len : ∀ {kws : List Keyword}, kws.all (·.arg.isSome) = true → (kws.filterMap (·.arg)).length = kws.length
  | [], _ => rfl
  | ⟨nm, e, p⟩ :: kws, h => by
    simp only [List.all_cons, Bool.and_eq_true] at h
    cases nm with
    | none => simp at h
    | some x =>
      show (x :: kws.filterMap (·.arg)).length = _
      rw [List.length_cons, List.length_cons, kwNames_len h.2]
theorem peBad {e : Expr} : PE X e (GoodE L X.K W eBad) := peNo (good_no fun _ _ => rfl)
theorem ptBad {e : Expr} : PT X e (GoodT L X.K W tBad) := ptNo (good_noT fun _ _ => rfl)
theorem piBad {tg e : Expr} : PI X tg e (GoodI L X.K W iBad) := ⟨fun pins s σ H R I ⟨f, ρ, h, _, _, p⟩ => absurd p id⟩
variable {fe : Expr → ME} {ft : Expr → MT}
theorem paL (h : ∀ e, PE X e (GoodE L X.K W (fe e))) : ∀ es : List Expr, es.all noStar = true → PA X es (GoodA L X.K W (evA fe es))
  | [], _ => a_nil
  | e :: es, hs => by
    simp only [List.all_cons, Bool.and_eq_true] at hs
    exact a_cons (h e) (paL h es hs.2) (star_cons hs.1)
theorem pkL (h : ∀ e, PE X e (GoodE L X.K W (fe e))) : ∀ es : List Keyword, PK X es (GoodA L X.K W (evK fe es))
  | [] => k_nil
  | ⟨_, e, _⟩ :: es => k_cons (h e) (pkL h es)
theorem andL (h : ∀ e, PE X e (GoodE L X.K W (fe e))) : ∀ vs : List Expr, PE X (.BoolOp .And vs pos) (GoodE L X.K W (evAnd fe vs))
  | [] => peBad
  | [a] => pe_one (h a)
  | a :: b :: r => s_and (h a) (andL h (b :: r))
theorem orL (h : ∀ e, PE X e (GoodE L X.K W (fe e))) : ∀ vs : List Expr, PE X (.BoolOp .Or vs pos) (GoodE L X.K W (evOr fe vs))
  | [] => peBad
  | [a] => pe_one (h a)
  | a :: b :: r => s_or (h a) (orL h (b :: r))
theorem andLT (h : ∀ e, PT X e (GoodT L X.K W (ft e))) : ∀ vs : List Expr, PW X (.BoolOp .And vs pos) (GoodT L X.K W (evAndT ft vs))
  | [] => ⟨fun _ pins s σ H Q I ⟨f, ρ, h, _, _, p⟩ => absurd p id⟩
  | [a] => pw_and1 (h a)
  | a :: b :: r => t_and (h a) (andLT h (b :: r))
theorem orLT (h : ∀ e, PT X e (GoodT L X.K W (ft e))) : ∀ vs : List Expr, PW X (.BoolOp .Or vs pos) (GoodT L X.K W (evOrT ft vs))
  | [] => ⟨fun _ pins s σ H Q I ⟨f, ρ, h, _, _, p⟩ => absurd p id⟩
  | [a] => pw_or1 (h a)
  | a :: b :: r => t_or (h a) (orLT h (b :: r))
theorem locK_of {kd : Option NameKind} {x : Str} {sc : Scope} (e : sc.names.lookup x = kd) (h : locK kd = true) : L2.Loc sc x := by
  unfold L2.Loc
  rw [e]
  cases kd with
  | none => simp [locK] at h
  | some q => cases q <;> simp [locK] at h ⊢
/-- targets -/
theorem tg_ok (hN : X.N = N) (nd : N.Nodup) (hc : X.calm = true) (hf : ∀ x, locK (sc.names.lookup x) = true → L2.Loc X.env.scope x ∧ (X.fn x = true ∨ X.env.scope.names.lookup x = some .local)) : ∀ (n : Nat) (e : Expr) (t : Tg), tgOf N sc n e = some t → PG X e (GoodG L X.K t)
  | 0, e, t, q => by simp [tgOf] at q
  | n + 1, e, t, q => by
    cases e with
    | Name x p =>
      simp only [tgOf] at q
      split at q
      · rename_i hl
        obtain ⟨i, e1, rfl⟩ := Option.map_eq_some_iff.mp q
        exact tg_name (by rw [hN]; exact nd) (by rw [hN]; exact findIx_get e1) (hf x hl).1 (hf x hl).2
      · cases q
    | Tuple es kk p =>
      simp only [tgOf] at q
      obtain ⟨ts, e1, rfl⟩ := Option.map_eq_some_iff.mp q
      have all : ∀ (es : List Expr) (ts : List Tg), tgOf.go N sc n es = some ts → PGs X es (GoodGs L X.K ts) ∧ (assignEach es X.env).length = ts.length ∧ (assignEach es X.env).findIdx? (·.1) = none := by
        intro es
        induction es with
        | nil =>
          intro ts e
          simp only [tgOf.go] at e
          cases e
          exact ⟨tg_nil, rfl, rfl⟩
        | cons e es ih =>
          intro ts q
          simp only [tgOf.go] at q
          split at q
          · rename_i hs
            split at q
            · rename_i t ts' e1 e2
              cases q
              obtain ⟨i1, i2, i3⟩ := ih ts' e2
              have ea : assignEach (e :: es) X.env = (false, assign e X.env) :: assignEach es X.env := by
                cases e <;> first | rfl | (simp [noStar] at hs)
              refine ⟨tg_cons (tg_ok hN nd hc hf n e t e1) i1 (by rw [ea]; rfl), by rw [ea, List.length_cons, List.length_cons, i2], ?_⟩
              rw [ea, List.findIdx?_cons]
              simp [i3]
            · cases q
          · cases q
      obtain ⟨a1, a2, a3⟩ := all es ts e1
      exact tg_tup hc a1 a2 a3
    | _ => simp [tgOf] at q
end
end Mp
set_option Elab.async false
set_option linter.all false
set_option maxRecDepth 100000
set_option maxHeartbeats 2000000
namespace Mp
open PySem PySem.Spec PyProof.Rows L2
section
variable {Γ : Pg} {L : Lk} {call : CallT} {k : Nat} {N : List Str} {sc : Scope} {X : Cx} {W : WX} {pos : Pos} {fe : Expr → ME} {ft : Expr → MT}
theorem XOk.blk (ok : XOk Γ L call k N sc X) (s : Shared) (H : Hp) (scope : Scope) (cl : List (Str × Addr)) (C : Addr) (fp : List Addr) : XOk Γ L call k N (relS scope sc) (X.blk s H scope (compEnvC scope cl C X.env) fp) where
  hN := ok.hN
  nd := ok.nd
  hsc := by rw [← ok.hsc]; rfl
  calm := ok.calm
  room := ok.room
  fn := ok.fn
  top := ok.top
  cls := ok.cls
  clg := ok.clg
  glob := ok.glob
  blt := ok.blt
  nob := ok.nob
  prop := ok.prop
theorem folded_ok {iter : Expr} (h : isSetE iter = false) : ∀ x, foldedSetIterable iter X.env x = pure x := by
  intro x
  cases iter <;> first | rfl | (simp [isSetE] at h)
theorem plain_ix {b : Expr} (h : isSlice b = false) : PlainIx b := by
  intro o i
  cases b <;> first | rfl | (simp [isSlice] at h)
theorem e_name (ok : XOk Γ L call k N sc X) (x : Str) : PE X (.Name x pos) (GoodE L X.K W (evName Γ N sc x)) := by
  unfold evName
  cases hs : slotOf N sc x with
  | some i =>
    obtain ⟨h1, h2, h3, h4⟩ := ok.slot hs
    exact s_var h1 h2 h3 h4
  | none =>
    dsimp only
    split
    · rename_i hg
      obtain ⟨g1, g2⟩ := ok.gl hg
      split
      · rename_i v e
        obtain ⟨v', u, h1, h2, h3⟩ := ok.glob x v e
        exact s_glob g1 h1 h2 h3 g2
      · split
        · rename_i ht
          rw [Bool.and_eq_true] at ht
          exact s_glob (v' := .ref (L.F x)) g1 (ok.top x ht.1) rfl (fun f H => by unfold RV; rfl) g2
        · exact peBad
    · exact peBad
theorem e_isi (ok : XOk Γ L call k N sc X) (h : ∀ e, PE X e (GoodE L X.K W (fe e))) {p : Pos} (hg : isGl sc "isinstance" = true) (args : List Expr) : PE X (.Call (.Name "isinstance" p) args [] pos) (GoodE L X.K W (evIsi fe sc args)) := by
  obtain ⟨g1, g2⟩ := ok.gl hg
  have m1 := ok.no (x := "isinstance") (by decide +kernel)
  have inT : ∀ {x : Str} {T : String}, tyNames.lookup x = some T → (x, T) ∈ tyNames ∧ X.mg x = none := fun {x T} e => by
    have mm := PySem.mem_of_lookup e
    refine ⟨mm, ok.no ?_⟩
    unfold bltNames
    exact List.mem_append_right _ (List.mem_map.mpr ⟨_, mm, rfl⟩)
  unfold evIsi
  split
  · rename_i a x p1
    split
    · rename_i hc
      rw [Bool.and_eq_true] at hc
      split
      · rename_i T e
        obtain ⟨t1, t2⟩ := inT e
        exact s_isi1 g1 m1 t1 (ok.gl hc.2).1 t2 (h a) hc.1
      · exact peBad
    · exact peBad
  · rename_i a es kk p1
    split
    · rename_i xs e
      split
      · rename_i hc
        simp only [Bool.and_eq_true] at hc
        have all : ∀ (es : List Expr) (xs : List (Str × String)), tyNamesOf es = some xs → es.map (fun e => match e with | .Name x _ => some x | _ => none) = xs.map (fun q => some q.1) ∧ ∀ q ∈ xs, q ∈ tyNames ∧ X.mg q.1 = none := by
          intro es
          induction es with
          | nil => intro xs e; simp [tyNamesOf] at e; subst e; exact ⟨rfl, fun q hq => by cases hq⟩
          | cons a es ih =>
            intro xs e
            cases a with
            | Name x p =>
              simp only [tyNamesOf] at e
              split at e
              · rename_i T l e1 e2
                cases e
                obtain ⟨i1, i2⟩ := ih l e2
                obtain ⟨t1, t2⟩ := inT e1
                refine ⟨by simp [i1], fun q hq => ?_⟩
                rcases List.mem_cons.mp hq with z | z
                · subst z; exact ⟨t1, t2⟩
                · exact i2 q z
              · cases e
            | _ => simp [tyNamesOf] at e
        obtain ⟨a1, a2⟩ := all es xs e
        refine s_isiT g1 m1 a1 (fun q hq => ⟨(a2 q hq).1, ?_, (a2 q hq).2⟩) (h a) hc.1.1 (of_decide_eq_true hc.2)
        exact (ok.gl (List.all_eq_true.mp hc.1.2 q hq)).1
      · exact peBad
    · exact peBad
  · exact peBad
theorem e_blt (ok : XOk Γ L call k N sc X) (h : ∀ e, PE X e (GoodE L X.K W (fe e))) {p : Pos} {x : Str} (hg : isGl sc x = true) (args : List Expr) (hst : args.all noStar = true) : PE X (.Call (.Name x p) args [] pos) (GoodE L X.K W (evBlt fe sc x args)) := by
  unfold evBlt
  split
  · rename_i e
    subst e
    exact e_isi ok h hg args
  · split
    · rename_i b a es e
      have hb : x ∈ bltNames := by
        unfold bltNames
        exact List.mem_append_left _ (List.mem_append_right _ (List.mem_map.mpr ⟨_, PySem.mem_of_lookup e, rfl⟩))
      have hst' := hst
      simp only [List.all_cons, Bool.and_eq_true] at hst'
      exact s_bi ok.calm ok.units e (ok.gl hg).1 (ok.no hb) (paL h (a :: es) hst) (star_cons hst'.1) (star_any hst'.2)
    · exact peBad
theorem e_listR (ok : XOk Γ L call k N sc X) (h : ∀ e, PE X e (GoodE L X.K W (fe e))) {p : Pos} {x : Str} (hg : isGl sc x = true) (args : List Expr) (hst : args.all noStar = true) : PE X (.Call (.Name x p) args [] pos) (GoodE L X.K W (evListR fe sc x args)) := by
  have mL := ok.no (x := "list") (by decide +kernel)
  have mR := ok.no (x := "range") (by decide +kernel)
  unfold evListR
  split
  · rename_i y p1 a p2
    split
    · rename_i hc
      simp only [Bool.and_eq_true, decide_eq_true_eq] at hc
      obtain ⟨⟨rfl, rfl⟩, hr⟩ := hc
      split
      · rename_i hs
        exact s_listR1 ok.calm (ok.gl hg).1 mL (ok.gl hr).1 mR (h a) hs
      · exact peBad
    · exact e_blt ok h hg _ hst
  · rename_i y p1 a b p2
    split
    · rename_i hc
      simp only [Bool.and_eq_true, decide_eq_true_eq] at hc
      obtain ⟨⟨rfl, rfl⟩, hr⟩ := hc
      split
      · rename_i hs
        rw [Bool.and_eq_true] at hs
        exact s_listR2 ok.calm (ok.gl hg).1 mL (ok.gl hr).1 mR (h a) (h b) hs.1 hs.2
      · exact peBad
    · exact e_blt ok h hg _ hst
  · exact e_blt ok h hg _ hst
theorem e_lenS (ok : XOk Γ L call k N sc X) (h : ∀ e, PE X e (GoodE L X.K W (fe e))) {p : Pos} {x : Str} (hg : isGl sc x = true) (args : List Expr) (hst : args.all noStar = true) : PE X (.Call (.Name x p) args [] pos) (GoodE L X.K W (evLenS fe sc x args)) := by
  have mL := ok.no (x := "len") (by decide +kernel)
  have mR := ok.no (x := "set") (by decide +kernel)
  have mS := ok.no (x := "sorted") (by decide +kernel)
  unfold evLenS
  split
  · rename_i y p1 a p2
    split
    · rename_i hc
      simp only [Bool.and_eq_true, decide_eq_true_eq] at hc
      obtain ⟨⟨rfl, rfl⟩, hr⟩ := hc
      split
      · rename_i hs
        exact s_lenSet ok.calm (ok.gl hg).1 mL (ok.gl hr).1 mR (h a) hs
      · exact peBad
    · split
      · rename_i hc
        simp only [Bool.and_eq_true, decide_eq_true_eq] at hc
        obtain ⟨⟨rfl, rfl⟩, hr⟩ := hc
        split
        · rename_i hs
          exact s_sortSet ok.calm (ok.gl hg).1 mS (ok.gl hr).1 mR (h a) hs
        · exact peBad
      · exact e_listR ok h hg _ hst
  · exact e_listR ok h hg _ hst
theorem e_call (ok : XOk Γ L call k N sc X) (tk : Takes X W) (h : ∀ e, PE X e (GoodE L X.K W (fe e))) {p : Pos} (x : Str) (args : List Expr) (kws : List Keyword) : PE X (.Call (.Name x p) args kws pos) (GoodE L X.K W (evCall Γ call fe sc x args kws)) := by
  unfold evCall
  split
  · rename_i hc
    simp only [Bool.and_eq_true] at hc
    obtain ⟨⟨hg, hst⟩, hnm⟩ := hc
    obtain ⟨g1, g2⟩ := ok.gl hg
    have hr : Room k X.A := ok.room.mono (Nat.le_succ k)
    split
    · rename_i ht
      split
      · rename_i D eD
        have F := ok.fn x D eD
        split
        · rename_i hsh
          have hsh := of_decide_eq_true hsh
          split
          · rename_i hk
            rw [Bool.and_eq_true] at hk
            have hk0 : kws = [] := by cases kws with | nil => rfl | cons _ _ => simp at hk
            subst hk0
            exact s_call tk F hr g1 (ok.top x ht) g2 (paL h args hst) hst (fun e => by rw [e]; rfl) (fun ρ h us h' e => evA_len e) hsh (of_decide_eq_true hk.2)
          · split
            · rename_i sel hb
              exact s_callS tk F hr g1 (ok.top x ht) g2 (paL h args hst) (pkL h kws) hst hnm (fun e => by rw [e]; rfl) (fun e => by rw [e]; rfl) (fun ρ h us h' e => evA_len e) (fun ρ h us h' e => evK_len e) hsh hb (kwNames_len hnm)
            · exact peBad
        · exact peBad
      · exact peBad
    · split
      · rename_i C eC
        split
        · rename_i D eD
          split
          · rename_i hsh
            have hsh := of_decide_eq_true hsh
            split
            · rename_i sel hb
              exact s_make tk (ok.cls x C eC) (ok.fn C.init D eD) ok.room g1 (ok.clg x C eC) g2 (paL h args hst) (pkL h kws) hst hnm (fun e => by rw [e]; rfl) (fun e => by rw [e]; rfl) (fun ρ h us h' e => evA_len e) (fun ρ h us h' e => evK_len e) hsh hb (kwNames_len hnm)
            · exact peBad
          · exact peBad
        · exact peBad
      · split
        · rename_i hk
          have hk0 : kws = [] := by cases kws with | nil => rfl | cons _ _ => simp at hk
          subst hk0
          exact e_lenS ok h hg args hst
        · exact peBad
  · exact peBad
theorem base_of {o : Expr} {x : Str} (h : baseOk o = true) : attributeBase o x X.env (eval o X.env) = eval o X.env := by
  apply base_ok
  unfold baseOk at h
  exact h
theorem e_meth (ok : XOk Γ L call k N sc X) (tk : Takes X W) (h : ∀ e, PE X e (GoodE L X.K W (fe e))) {apos : Pos} (o : Expr) (m : Str) (args : List Expr) (kws : List Keyword) : PE X (.Call (.Attribute o m apos) args kws pos) (GoodE L X.K W (evMeth Γ call fe o m apos args kws pos)) := by
  unfold evMeth
  split
  · rename_i hc
    simp only [Bool.and_eq_true] at hc
    obtain ⟨⟨⟨⟨hb, hst⟩, hnm⟩, hn⟩, hl⟩ := hc
    exact s_meth tk ok.cls ok.fn (ok.room.mono (Nat.le_succ k)) (h o) (paL h args hst) (pkL h kws) hst hnm (fun e => by rw [e]; rfl) (fun e => by rw [e]; rfl) (fun ρ h us h' e => evA_len e) (fun ρ h us h' e => evK_len e) (kwNames_len hnm) (base_of hb) (of_decide_eq_true hn) hl
  · exact peBad
theorem i_iter (ok : XOk Γ L call k N sc X) (h : ∀ e, PE X e (GoodE L X.K W (fe e))) (tg iter : Expr) : PI X tg iter (GoodI L X.K W (evI fe sc tg iter)) ∧ (isSetE iter = true → evI fe sc tg iter = iBad) := by
  have mR := ok.no (x := "range") (by decide +kernel)
  have mE := ok.no (x := "enumerate") (by decide +kernel)
  have mZ := ok.no (x := "zip") (by decide +kernel)
  unfold evI
  split
  · rename_i x p a p2
    refine ⟨?_, fun e => by simp [isSetE] at e⟩
    split
    · rename_i hc
      simp only [Bool.and_eq_true, decide_eq_true_eq] at hc
      obtain ⟨hg, rfl⟩ := hc
      split
      · rename_i hs; exact i_rng1 (ok.gl hg).1 mR (h a) (star_cons hs)
      · exact piBad
    · split
      · rename_i hc
        simp only [Bool.and_eq_true, decide_eq_true_eq] at hc
        obtain ⟨hg, rfl⟩ := hc
        split
        · rename_i hs
          rw [Bool.and_eq_true] at hs
          cases tg with
          | Tuple elts kk tp => exact i_enum (ok.gl hg).1 mE (h a) (star_cons hs.1)
          | _ => simp [isTupE] at hs
        · exact piBad
      · exact i_val (h _)
  · rename_i x p a b p2
    refine ⟨?_, fun e => by simp [isSetE] at e⟩
    split
    · rename_i hc
      simp only [Bool.and_eq_true, decide_eq_true_eq] at hc
      obtain ⟨hg, rfl⟩ := hc
      split
      · rename_i hs
        rw [Bool.and_eq_true] at hs
        exact i_rng2 (ok.gl hg).1 mR (h a) (h b) (by rw [star_cons hs.1, star_cons hs.2]; rfl) (star_cons hs.2)
      · exact piBad
    · split
      · rename_i hc
        simp only [Bool.and_eq_true, decide_eq_true_eq] at hc
        obtain ⟨hg, rfl⟩ := hc
        split
        · rename_i hs
          simp only [Bool.and_eq_true] at hs
          obtain ⟨⟨h1, h2⟩, h3⟩ := hs
          cases tg with
          | Tuple elts kk tp => exact i_zip (ok.gl hg).1 mZ (h a) (h b) (star_cons h1) (star_cons h2) (star_any (es := [b]) (by simp [h2]))
          | _ => simp [isTupE] at h3
        · exact piBad
      · exact i_val (h _)
  · split
    · exact ⟨piBad, fun _ => rfl⟩
    · rename_i hs
      exact ⟨i_val (h _), fun e => absurd e hs⟩
theorem e_cmp (ok : XOk Γ L call k N sc X) (tk : Takes X W) (h : ∀ e, PE X e (GoodE L X.K W (fe e))) (a : Expr) (ops : List CmpOp) (bs : List Expr) : PE X (.Compare a ops bs pos) (GoodE L X.K W (evCmp Γ call fe a ops bs)) ∧ PT X (.Compare a ops bs pos) (GoodT L X.K W (tE (evCmp Γ call fe a ops bs))) := by
  have bad : ∀ {e : Expr}, PT X e (GoodT L X.K W (tE eBad)) := fun {e} => ptNo fun σ H Q ⟨f, ρ, h, _, _, p⟩ => p
  unfold evCmp
  split
  · rename_i op b
    split
    · exact ⟨peBad, bad⟩
    · rename_i hm
      have hm : behindInMarks op b = false := by simpa using hm
      split
      · exact ⟨s_in ok.units false tk ok.cls ok.fn (ok.room.mono (Nat.le_succ k)) (h a) (h b) hm, t_in ok.units false tk ok.cls ok.fn (ok.room.mono (Nat.le_succ k)) (h a) (h b) hm⟩
      · exact ⟨s_in ok.units true tk ok.cls ok.fn (ok.room.mono (Nat.le_succ k)) (h a) (h b) hm, t_in ok.units true tk ok.cls ok.fn (ok.room.mono (Nat.le_succ k)) (h a) (h b) hm⟩
      · exact ⟨s_cmp ok.units (h a) (h b) hm, t_cmp ok.units (h a) (h b) hm⟩
  · rename_i op op' b c
    split
    · exact ⟨peBad, bad⟩
    · rename_i hm
      have hm : lastMarks [op, op'] [b, c] = false := by simpa using hm
      refine ⟨s_chain ok.units (h a) (h b) (h c) hm, ?_⟩
      refine t_of_val (pt_chain (scmp (L := L) ok.units op) (scmp (L := L) ok.units op') (h a) (h b) (h c) hm) (fun σ H Q G => ?_) (fun ρ h x h1 e => chain_bl e)
      -- the value's own reading
      obtain ⟨f, ρ, hh, S, E, p⟩ := G
      refine ⟨f, ρ, hh, S, E, (PostG.bind (R := RV L X.K) p).imp fun x' H1 ⟨f1, x, h1, e1, X1, S1, R1, p1⟩ => ?_⟩
      refine ⟨f1, ρ, h1, S1, E.mono S X1, (PostG.bind (R := RV L X.K) p1).imp fun y' H2 ⟨f2, y, h2, e2, X2, S2, R2, p2⟩ => ?_⟩
      refine ⟨f2, h2, x, y, S2, R1.mono S1 X2, R2, ((PostG.bind (R := RV L X.K) p2).nox (cmpR_nox _ _ _ _)).imp fun z' H3 ⟨f3, z, h3, e3, X3, S3, R3, p3⟩ => ?_⟩
      obtain ⟨kk, rfl⟩ := cmpR_bl e3
      obtain rfl := rv_bl R3
      refine ⟨kk, rfl, ?_⟩
      cases kk with
      | true =>
        rw [if_pos rfl]
        refine ⟨f3, ρ, h3, S3, ((E.mono S X1).mono S1 X2).mono S2 X3, (PostG.bind (R := RV L X.K) p3).imp fun w' H4 ⟨f4, w, h4, e4, X4, S4, R4, p4⟩ => ?_⟩
        exact ⟨f4, h4, y, w, S4, (R2.mono S2 X3).mono S3 X4, R4, p4.nox (cmpR_nox _ _ _ _)⟩
      | false =>
        rw [if_neg Bool.false_ne_true]
        exact now S3 (mk_bl _) p3
  · exact ⟨peBad, bad⟩
theorem e_sub (hu : X.A.units + 65 < cLine) (h : ∀ e, PE X e (GoodE L X.K W (fe e))) (a b : Expr) : PE X (.Subscript a b pos) (GoodE L X.K W (evSub fe a b)) := by
  have po : ∀ o : Option Expr, PO X o (GoodO L X.K W (evO fe o)) := fun o => by
    cases o with
    | none => exact o_none
    | some e => exact o_some (h e)
  cases b with
  | Slice lo hi st p =>
    cases st with
    | none => exact s_slice (h a) (po lo) (po hi)
    | some s =>
      show PE X _ (GoodE L X.K W (evRev fe a lo hi s))
      unfold evRev
      split
      · exact s_rev (h a)
      · exact peBad
  | _ => exact s_idx hu (h a) (h _) (plain_ix rfl)
theorem e_lc (ok : XOk Γ L call k N sc X) (n : Nat) (ih : ∀ (sc : Scope) (X : Cx), XOk Γ L call k N sc X → ∀ W, Takes X W → ∀ e, PE X e (GoodE L X.K W (ev Γ call N n sc e).1) ∧ PT X e (GoodT L X.K W (ev Γ call N n sc e).2)) (tk : Takes X W)
    (elt : Expr) (gens : List Comprehension) (scope : Scope) : PE X (.ListComp elt gens scope pos) (GoodE L X.K W (evLc N (ev Γ call N n) sc elt gens scope)) ∧
      ∀ {i : Nat} {y : Str} {py spos : Pos}, X.N[i]? = some y → X.env.scope.names.lookup y = some .local → swapsWith (.ListComp elt gens scope pos) (some (.Name y py)) spos.line X.env = pure true →
        PS X (.Assign [.Name y py] (.ListComp elt gens scope pos) spos) (GoodS L X.K W (sSet i (evLc N (ev Γ call N n) sc elt gens scope))) := by
  have badS : ∀ {st : Stmt} {i : Nat}, PS X st (GoodS L X.K W (sSet i eBad)) := fun {st i} => psNo fun D σ H ⟨f, ρ, h, _, _, p⟩ => p
  unfold evLc
  split
  · rename_i tg iter ifs isa
    split
    · rename_i t et
      split
      · rename_i hc
        simp only [Bool.and_eq_true, decide_eq_true_eq] at hc
        obtain ⟨⟨⟨rfl, hb⟩, hv⟩, hl⟩ := hc
        have hN := ok.hN
        have hi := i_iter ok (fun e => (ih sc X ok W tk e).1) tg iter
        have bo : BlkOk X.N X.env.scope scope (ownOf N scope) := by rw [ok.hN, ok.hsc]; exact blkOk_by hb
        have hvs : ∀ j ∈ tgS t, j ∈ (ownOf N scope).map (·.2) := fun j hj => by
          have := List.all_eq_true.mp hv j hj
          simpa using this
        have hg : ∀ (s : Shared) (H : Hp) (C : Addr) (cl : List (Str × Addr)) (fp : List Addr), PG (X.blk s H scope (compEnvC scope cl C X.env) fp) tg (GoodG L X.K t) := fun s H C cl fp => by
          refine tg_ok (X := X.blk s H scope (compEnvC scope cl C X.env) fp) (sc := scope) ok.hN ok.nd ok.calm (fun x hx => ?_) 5 tg t et
          have keep : ∀ kd, kd ≠ NameKind.free → scope.names.lookup x = some kd → (compEnvC scope cl C X.env).scope.names.lookup x = some kd := fun kd nf e => lookup_relS_keep (sc := X.env.scope) nf e
          cases e : scope.names.lookup x with
          | none => rw [e] at hx; simp [locK] at hx
          | some kd =>
            rw [e] at hx
            cases kd with
            | «local» => exact ⟨.inl (keep _ (by decide) e), .inr (keep _ (by decide) e)⟩
            | cell => exact ⟨.inr (keep _ (by decide) e), .inl (by show (scope.names.lookup x == some NameKind.cell) = true; rw [e]; rfl)⟩
            | free => simp [locK] at hx
            | globalExplicit => simp [locK] at hx
            | globalImplicit => simp [locK] at hx
        have hE := fun (s : Shared) (H : Hp) (C : Addr) (cl : List (Str × Addr)) (fp : List Addr) (e : Expr) => ih (relS scope sc) (X.blk s H scope (compEnvC scope cl C X.env) fp) (ok.blk s H scope cl C fp) WF takes0 e
        have ht : ∀ (s : Shared) (H : Hp) (C : Addr) (cl : List (Str × Addr)) (fp : List Addr), PTs (X.blk s H scope (compEnvC scope cl C X.env) fp) ifs (GoodT L X.K WF (evIfs (fun e => (ev Γ call N n (relS scope sc) e).2) ifs)) := fun s H C cl fp => by
          match ifs, hl with
          | [], _ => exact ts_nil
          | [c], _ => exact ts_one (hE s H C cl fp c).2
          | _ :: _ :: _, hl => simp at hl
        have he := fun (s : Shared) (H : Hp) (C : Addr) (cl : List (Str × Addr)) (fp : List Addr) => (hE s H C cl fp elt).1
        cases hsl : nameSlot N sc iter with
        | some j =>
          have hnm : ∃ x p, iter = .Name x p ∧ slotOf N sc x = some j := by
            cases iter with
            | Name x p => exact ⟨x, p, rfl, hsl⟩
            | _ => cases hsl
          obtain ⟨x, p, rfl, hj⟩ := hnm
          obtain ⟨v1, v2, v3, v4⟩ := ok.slot hj
          have pv : PE X (.Name x p) (GoodE L X.K W (eVar j)) := s_var v1 v2 v3 v4
          refine ⟨s_lcN (s_lc ok.calm (by rw [hN]; exact ok.nd) (i_key pv) bo hvs hg ht he (folded_ok rfl)) (s_lc ok.calm (by rw [hN]; exact ok.nd) (i_val pv) bo hvs hg ht he (folded_ok rfl)), fun hy hyl hsw => ?_⟩
          exact st_lcN (st_setLc ok.calm (by rw [hN]; exact ok.nd) hy hyl hsw (i_key pv) bo hvs hg ht he (folded_ok rfl)) (st_setLc ok.calm (by rw [hN]; exact ok.nd) hy hyl hsw (i_val pv) bo hvs hg ht he (folded_ok rfl))
        | none =>
        show _ ∧ _
        unfold lcBy
        dsimp only
        cases hset : isSetE iter with
        | true =>
          have eb := hi.2 hset
          rw [eb]
          refine ⟨peNo fun σ H Q ⟨f, ρ, h, _, _, p⟩ => p, fun _ _ _ => psNo fun D σ H ⟨f, ρ, h, _, _, p⟩ => p⟩
        | false =>
          refine ⟨s_lc ok.calm (by rw [hN]; exact ok.nd) hi.1 bo hvs hg ht he (folded_ok hset), fun hy hyl hsw => ?_⟩
          exact st_setLc ok.calm (by rw [hN]; exact ok.nd) hy hyl hsw hi.1 bo hvs hg ht he (folded_ok hset)
      · exact ⟨peBad, fun _ _ _ => badS⟩
    · exact ⟨peBad, fun _ _ _ => badS⟩
  · exact ⟨peBad, fun _ _ _ => badS⟩
theorem e_dc (ok : XOk Γ L call k N sc X) (n : Nat) (ih : ∀ (sc : Scope) (X : Cx), XOk Γ L call k N sc X → ∀ W, Takes X W → ∀ e, PE X e (GoodE L X.K W (ev Γ call N n sc e).1) ∧ PT X e (GoodT L X.K W (ev Γ call N n sc e).2)) (tk : Takes X W)
    (kx vx : Expr) (gens : List Comprehension) (scope : Scope) : PE X (.DictComp kx vx gens scope pos) (GoodE L X.K W (evDc N (ev Γ call N n) sc kx vx gens scope)) ∧
      ∀ {i : Nat} {y : Str} {py spos : Pos}, X.N[i]? = some y → X.env.scope.names.lookup y = some .local → swapsWith (.DictComp kx vx gens scope pos) (some (.Name y py)) spos.line X.env = pure true →
        PS X (.Assign [.Name y py] (.DictComp kx vx gens scope pos) spos) (GoodS L X.K W (sSet i (evDc N (ev Γ call N n) sc kx vx gens scope))) := by
  have badS : ∀ {st : Stmt} {i : Nat}, PS X st (GoodS L X.K W (sSet i eBad)) := fun {st i} => psNo fun D σ H ⟨f, ρ, h, _, _, p⟩ => p
  unfold evDc
  split
  · rename_i tg iter ifs isa
    split
    · rename_i t et
      split
      · rename_i hc
        simp only [Bool.and_eq_true, decide_eq_true_eq] at hc
        obtain ⟨⟨⟨rfl, hb⟩, hv⟩, hl⟩ := hc
        have hN := ok.hN
        have hi := i_iter ok (fun e => (ih sc X ok W tk e).1) tg iter
        have bo : BlkOk X.N X.env.scope scope (ownOf N scope) := by rw [ok.hN, ok.hsc]; exact blkOk_by hb
        have hvs : ∀ j ∈ tgS t, j ∈ (ownOf N scope).map (·.2) := fun j hj => by
          have := List.all_eq_true.mp hv j hj
          simpa using this
        have hg : ∀ (s : Shared) (H : Hp) (C : Addr) (cl : List (Str × Addr)) (fp : List Addr), PG (X.blk s H scope (compEnvC scope cl C X.env) fp) tg (GoodG L X.K t) := fun s H C cl fp => by
          refine tg_ok (X := X.blk s H scope (compEnvC scope cl C X.env) fp) (sc := scope) ok.hN ok.nd ok.calm (fun x hx => ?_) 5 tg t et
          have keep : ∀ kd, kd ≠ NameKind.free → scope.names.lookup x = some kd → (compEnvC scope cl C X.env).scope.names.lookup x = some kd := fun kd nf e => lookup_relS_keep (sc := X.env.scope) nf e
          cases e : scope.names.lookup x with
          | none => rw [e] at hx; simp [locK] at hx
          | some kd =>
            rw [e] at hx
            cases kd with
            | «local» => exact ⟨.inl (keep _ (by decide) e), .inr (keep _ (by decide) e)⟩
            | cell => exact ⟨.inr (keep _ (by decide) e), .inl (by show (scope.names.lookup x == some NameKind.cell) = true; rw [e]; rfl)⟩
            | free => simp [locK] at hx
            | globalExplicit => simp [locK] at hx
            | globalImplicit => simp [locK] at hx
        have hE := fun (s : Shared) (H : Hp) (C : Addr) (cl : List (Str × Addr)) (fp : List Addr) (e : Expr) => ih (relS scope sc) (X.blk s H scope (compEnvC scope cl C X.env) fp) (ok.blk s H scope cl C fp) WF takes0 e
        have ht : ∀ (s : Shared) (H : Hp) (C : Addr) (cl : List (Str × Addr)) (fp : List Addr), PTs (X.blk s H scope (compEnvC scope cl C X.env) fp) ifs (GoodT L X.K WF (evIfs (fun e => (ev Γ call N n (relS scope sc) e).2) ifs)) := fun s H C cl fp => by
          match ifs, hl with
          | [], _ => exact ts_nil
          | [c], _ => exact ts_one (hE s H C cl fp c).2
          | _ :: _ :: _, hl => simp at hl
        have hk := fun (s : Shared) (H : Hp) (C : Addr) (cl : List (Str × Addr)) (fp : List Addr) => (hE s H C cl fp kx).1
        have he := fun (s : Shared) (H : Hp) (C : Addr) (cl : List (Str × Addr)) (fp : List Addr) => (hE s H C cl fp vx).1
        cases hset : isSetE iter with
        | true =>
          have eb := hi.2 hset
          rw [eb]
          refine ⟨peNo fun σ H Q ⟨f, ρ, h, _, _, p⟩ => p, fun _ _ _ => psNo fun D σ H ⟨f, ρ, h, _, _, p⟩ => p⟩
        | false =>
          refine ⟨s_dc ok.calm (by rw [hN]; exact ok.nd) hi.1 bo hvs hg ht hk he (folded_ok hset), fun hy hyl hsw => ?_⟩
          exact st_setDc ok.calm (by rw [hN]; exact ok.nd) hy hyl hsw hi.1 bo hvs hg ht hk he (folded_ok hset)
      · exact ⟨peBad, fun _ _ _ => badS⟩
    · exact ⟨peBad, fun _ _ _ => badS⟩
  · exact ⟨peBad, fun _ _ _ => badS⟩
/-- THE EXPRESSIONS -/
theorem sE : ∀ (n : Nat) (sc : Scope) (X : Cx), XOk Γ L call k N sc X → ∀ W, Takes X W → ∀ e, PE X e (GoodE L X.K W (ev Γ call N n sc e).1) ∧ PT X e (GoodT L X.K W (ev Γ call N n sc e).2)
  | 0, sc, X, ok, W, tk, e => ⟨peBad, ptBad⟩
  | n + 1, sc, X, ok, W, tk, e => by
    have ih := sE n
    have h : ∀ e, PE X e (GoodE L X.K W (ev Γ call N n sc e).1) := fun e => (ih sc X ok W tk e).1
    have ht : ∀ e, PT X e (GoodT L X.K W (ev Γ call N n sc e).2) := fun e => (ih sc X ok W tk e).2
    have v : PE X e (GoodE L X.K W (ev1 Γ call N (ev Γ call N n) sc e)) := by
      cases e with
      | Constant c j p =>
        cases c with
        | none => exact s_non
        | bool b => exact s_bl
        | int i => exact s_int
        | str x => exact s_str
        | _ => exact peBad
      | Name x p => exact e_name ok x
      | BinOp a op b p => exact s_bin (h a) (h b)
      | UnaryOp op a p =>
        cases op with
        | USub => exact s_neg (h a)
        | Not => exact s_not (h a)
        | _ => exact peBad
      | BoolOp op vs p =>
        cases op with
        | And => exact andL h vs
        | Or => exact orL h vs
      | Compare a ops bs p => exact (e_cmp ok tk h a ops bs).1
      | IfExp c a b p => exact s_if (ht c) (h a) (h b)
      | Tuple es kk p =>
        simp only [ev1]
        split
        · rename_i hs; exact s_tup (paL h es hs)
        · exact peBad
      | List es p =>
        simp only [ev1]
        split
        · rename_i hs; exact s_lst (paL h es hs)
        · exact peBad
      | Subscript a b p => exact e_sub ok.units h a b
      | Dict ks vs p =>
        simp only [ev1]
        split
        · exact s_dic0
        · exact peBad
      | Attribute a x p =>
        simp only [ev1]
        split
        · rename_i hs
          refine s_attr (h a) ok.cls (fun c C g ec ep => ?_) ok.room (base_of hs)
          obtain ⟨D, d1, d2, d3, d4⟩ := ok.prop c C x g ec ep
          exact ⟨D, ok.fn g D d1, d2, d3, d4⟩
        · exact peBad
      | ListComp elt gens scope p => exact (e_lc ok n ih tk elt gens scope).1
      | DictComp kx vx gens scope p => exact (e_dc ok n ih tk kx vx gens scope).1
      | Call f args kws p =>
        cases f with
        | Name x p1 => exact e_call ok tk h x args kws
        | Attribute o m apos => exact e_meth ok tk h o m args kws
        | _ => exact peBad
      | _ => exact peBad
    refine ⟨v, ?_⟩
    show PT X e (GoodT L X.K W (evT1 Γ call N (ev Γ call N n) sc e))
    cases e with
    | UnaryOp op a p =>
      cases op with
      | Not => exact t_not (ht a)
      | USub => exact t_val v (fun _ => rfl)
      | UAdd => exact t_val v (fun _ => rfl)
      | Invert => exact t_val v (fun _ => rfl)
    | BoolOp op vs p =>
      cases op with
      | And => exact (andLT ht vs).pt
      | Or => exact (orLT ht vs).pt
    | IfExp c a b p => exact ptBad
    | Compare a ops bs p => exact (e_cmp ok tk h a ops bs).2
    | _ => exact t_val v (fun _ => rfl)
end
end Mp
set_option Elab.async false
set_option linter.all false
set_option maxRecDepth 100000
set_option maxHeartbeats 2000000
namespace Mp
open PySem PySem.Spec PyProof.Rows L2
/-! ### statements read off the syntax -/
def isCompE : Expr → Bool
  | .ListComp _ _ _ _ => true
  | .SetComp _ _ _ _ => true
  | .DictComp _ _ _ _ _ => true
  | _ => false
def isListCompE : Expr → Bool
  | .ListComp _ _ _ _ => true
  | .DictComp _ _ _ _ _ => true
  | _ => false
def evSs (self : Stmt → MS) : List Stmt → MS
  | [] => sSkip
  | s :: r => match r with
    | [] => self s
    | _ => sSeq (self s) (evSs self r)
def parOk (sc : Scope) (x y : Str) (px py : Pos) (a b : Expr) : Bool := decide (sc.names.lookup x = some .local) && decide (sc.names.lookup y = some .local) && !(decide (x = y)) && (py.line == px.line) && noStar a && noStar b && !([a, b].all (foldedForSure 8)) && !([a, b].all (constantsAlone 8)) && decide (sc.kind = .function)
/-- how deep expressions are read; how many turns a while may take -/
def eFuel : Nat := 40
def wFuel : Nat := 100000
section
variable (Γ : Pg) (call : CallT) (N : List Str) (sc : Scope)
def evX (e : Expr) : ME := (ev Γ call N (eFuel + 1) sc e).1
def evXT (e : Expr) : MT := (ev Γ call N (eFuel + 1) sc e).2
def evTup (ts : List Expr) (value : Expr) (tg : Expr) : MS := match ts, value with
  | [.Name x px, .Name y py], .Tuple [a, b] _ _ => if parOk sc x y px py a b then (match findIx N x, findIx N y with
    | some i, some j => sPar i j (evA (evX Γ call N sc) [a, b])
    | _, _ => sBad) else sBad
  | _, value => if isTupE value || isCompE value then sBad else (match tgOf N sc 5 tg with
    | some t => sAsg t (evX Γ call N sc value)
    | none => sBad)
def evAsg (t value : Expr) : MS := match t with
  | .Name x _ => if locK (sc.names.lookup x) && (isListCompE value || !isCompE value) then (match findIx N x with
    | some i => sSet i (evX Γ call N sc value)
    | none => sBad) else sBad
  | .Attribute o x _ => sSetAttr Γ x (evX Γ call N sc o) (evX Γ call N sc value)
  | .Subscript a b _ => if isSlice b then sBad else sSetIdx (evX Γ call N sc a) (evX Γ call N sc b) (evX Γ call N sc value)
  | .Tuple ts _ _ => evTup Γ call N sc ts value t
  | _ => sBad
def evAug (t : Expr) (op : Operator) (value : Expr) : MS := match t with
  | .Name x _ => if locK (sc.names.lookup x) then (match findIx N x with
    | some i => sAug i op (evX Γ call N sc value)
    | none => sBad) else sBad
  | .Attribute o x _ => sAugAttr Γ x (evX Γ call N sc o) op (evX Γ call N sc value)
  | .Subscript a b _ => if isSlice b then sBad else sAugIdx (evX Γ call N sc a) (evX Γ call N sc b) op (evX Γ call N sc value)
  | _ => sBad
def evS1 (self : Stmt → MS) (st : Stmt) : MS := match st with
  | .Pass _ => sSkip
  | .Break _ => sBrk
  | .Continue _ => sCnt
  | .Return o _ => (match o with
    | none => sRetN
    | some e => sRet (evX Γ call N sc e))
  | .Expr e _ => if isCompE e then sBad else sExpr (evX Γ call N sc e)
  | .If c a b _ => sIf (evXT Γ call N sc c) (evSs self a) (evSs self b)
  | .Assign ts value _ => (match ts with
    | [t] => evAsg Γ call N sc t value
    | _ => sBad)
  | .AugAssign t op value _ => evAug Γ call N sc t op value
  | .For tg iter body els _ => if isSetE iter then sBad else (match tgOf N sc 5 tg with
    | some t => sFor t (evI (evX Γ call N sc) sc tg iter) (evSs self body) (evSs self els)
    | none => sBad)
  | .Delete ts _ => (match ts with
    | [.Subscript a b _] => if isSlice b then sBad else sDelIdx (evX Γ call N sc a) (evX Γ call N sc b)
    | _ => sBad)
  | .While c body els _ => sWhile wFuel (evXT Γ call N sc c) (evSs self body) (evSs self els)
  | _ => sBad
def evS : Nat → Stmt → MS
  | 0 => fun _ => sBad
  | n + 1 => evS1 Γ call N sc (evS n)
end
def fin (r : Res Fl) : Res Val := match r with
  | .ok (.nx _) h => .ok .non h
  | .ok (.rt v) h => .ok v h
  | .ok (.xc _ c fs) h => .exc c fs h
  | _ => .bad
@[simp] theorem fin_rt (v : Val) (h : Mem) : fin (.ok (.rt v) h) = .ok v h := rfl
@[simp] theorem fin_nx (ρ : Env) (h : Mem) : fin (.ok (.nx ρ) h) = .ok .non h := rfl
def startE (N : List Str) (vs : List Val) : Env := vs.map some ++ List.replicate (N.length - vs.length) none
def sFuel : Nat := 20
def runD (Γ : Pg) (call : CallT) (D : FnD) (args : List Val) (h : Mem) : Res Val :=
  if args.length = D.ps.length then fin (evSs (evS Γ call D.N D.sc sFuel) D.body (startE D.N args) h) else .bad
def callF (Γ : Pg) : Nat → CallT
  | 0 => fun _ _ _ => .bad
  | d + 1 => fun g args h => match Γ.fns.lookup g with
    | none => .bad
    | some D => runD Γ (callF Γ d) D args h
section
variable {Γ : Pg} {L : Lk} {call : CallT} {k : Nat} {N : List Str} {sc : Scope} {X : Cx} {W : WX} {pos : Pos}
theorem psBad {st : Stmt} : PS X st (GoodS L X.K W sBad) := psNo fun D σ H ⟨f, ρ, h, _, _, p⟩ => p
theorem ssL {self : Stmt → MS} (h : ∀ st, PS X st (GoodS L X.K W (self st))) : ∀ sts : List Stmt, PSs X sts (GoodS L X.K W (evSs self sts))
  | [] => ss_nil
  | [s] => ss_one (h s)
  | s :: t :: r => ss_cons (h s) (ssL h (t :: r))
theorem sw_name {e : Expr} {t : Str} {p : Pos} {l : Nat} (h : isCompE e = false) : swapsWith e (some (.Name t p)) l X.env = pure false := by
  cases e <;> first | rfl | (simp [isCompE] at h)
theorem sw_none {e : Expr} {l : Nat} (h : isCompE e = false) : swapsWith e none l X.env = pure false := by
  cases e <;> first | rfl | (simp [isCompE] at h)
theorem sw_attr {e o : Expr} {x : Str} {p : Pos} {l : Nat} : swapsWith e (some (.Attribute o x p)) l X.env = pure false := by
  cases e <;> rfl
theorem sw_sub {e a b : Expr} {p : Pos} {l : Nat} : swapsWithSole [.Subscript a b p] e l X.env = pure false := by
  show swapsWith e (some (.Subscript a b p)) l X.env = pure false
  cases e <;> rfl
theorem sw_tup {e : Expr} {ts : List Expr} {kk : Nat} {p : Pos} {l : Nat} : swapsWithSole [.Tuple ts kk p] e l X.env = pure false := by
  show swapsWith e (some (.Tuple ts kk p)) l X.env = pure false
  cases e <;> rfl
theorem ss_none {e : Expr} {ts : List Expr} {kk : Nat} {p : Pos} (h : isTupE e = false) : swappedStores [.Tuple ts kk p] e X.env = pure none := by
  cases e <;> first | rfl | (simp [isTupE] at h)
theorem ss_sub {e a b : Expr} {p : Pos} : swappedStores [.Subscript a b p] e X.env = pure none := by
  cases e <;> rfl
theorem loc_hf (hsc : X.env.scope = sc) (hfn : ∀ x, X.fn x = true) : ∀ x, locK (sc.names.lookup x) = true → L2.Loc X.env.scope x ∧ (X.fn x = true ∨ X.env.scope.names.lookup x = some .local) := fun x h =>
  ⟨by rw [hsc]; exact locK_of rfl h, .inl (hfn x)⟩
theorem swap2 {env : PySem.Env} {x y : Str} {px py p pt : Pos} {a b : Expr} {kk k2 : Nat} (kx : env.kindOf x = some .local) (ky : env.kindOf y = some .local) (bk : env.blockKind = .function) (na : noStar a = true) (nb : noStar b = true) (hxy : ¬ x = y) (hl : (py.line == px.line) = true) (hf : [a, b].all (foldedForSure 8) = false) (hk : [a, b].all (constantsAlone 8) = false) :
    swappedStores [.Tuple [.Name x px, .Name y py] kk p] (.Tuple [a, b] k2 pt) env = pure (some [x, y]) := by
  have ns : ([a, b].any fun | .Starred .. => true | _ => false) = false := by
    have e : ∀ e : Expr, noStar e = true → (match e with | .Starred .. => true | _ => false) = false := fun e he => by
      cases e <;> first | rfl | (simp [noStar] at he)
    simp only [List.any_cons, List.any_nil, e a na, e b nb]
    rfl
  have hfm : ([Expr.Name x px, Expr.Name y py].filterMap fun
      | .Name id pos => if env.kindOf id == some .local && pos.line == px.line then some id else none
      | _ => none) = [x, y] := by
    simp [kx, ky, beq_iff_eq.mp hl]
  have hed : ([x, y] : List Str).eraseDups.length = 2 := by
    have : (y == x) = false := by simpa using fun e => hxy e.symm
    simp [List.eraseDups_cons, this]
  unfold swappedStores
  simp only [bk, List.length_cons, List.length_nil, hf, hk]
  refine (if_neg (by decide)).trans ((if_neg (fun hh => Bool.noConfusion (ns.symm.trans hh))).trans ((if_neg (fun hh => ?_)).trans ?_))
  · have h2 : (([x, y] : List Str).length != 0 + 1 + 1 || ([x, y] : List Str).eraseDups.length != ([x, y] : List Str).length) = true := hfm ▸ hh
    rw [hed] at h2
    simp at h2
  · exact congrArg (fun l => (pure (some l) : Sem (Option (List Str)))) hfm
theorem st_assign (ok : XOk Γ L call k N sc X) (tk : Takes X W) (hfn : ∀ x, X.fn x = true) (t value : Expr) : PS X (.Assign [t] value pos) (GoodS L X.K W (evAsg Γ call N sc t value)) := by
  have h : ∀ e, PE X e (GoodE L X.K W (evX Γ call N sc e)) := fun e => (sE (eFuel + 1) sc X ok W tk e).1
  have nd : X.N.Nodup := by rw [ok.hN]; exact ok.nd
  have hf := loc_hf ok.hsc hfn
  cases t with
  | Name x p =>
    simp only [evAsg]
    split
    · rename_i hc
      rw [Bool.and_eq_true] at hc
      split
      · rename_i i hi
        have hi' : X.N[i]? = some x := by rw [ok.hN]; exact findIx_get hi
        have go : ∀ {e : Expr}, swapsWith e (some (.Name x p)) pos.line X.env = pure false → PS X (.Assign [.Name x p] e pos) (GoodS L X.K W (sSet i (evX Γ call N sc e))) := fun {e} hs => st_set nd hi' (hf x hc.1).1 (h e) hs (hf x hc.1).2
        by_cases hv : isCompE value = false
        · exact go (sw_name hv)
        · cases value with
          | ListComp elt gens scope vp =>
            have sw : swapsWith (.ListComp elt gens scope vp) (some (.Name x p)) pos.line X.env = pure (X.env.blockKind == .function && X.env.kindOf x == some .local && p.line == vp.line && !(scope.names.any fun (n, k) => n == x && (k == .local || k == .cell))) := rfl
            cases hb : (X.env.blockKind == .function && X.env.kindOf x == some .local && p.line == vp.line && !(scope.names.any fun (n, k) => n == x && (k == .local || k == .cell))) with
            | false => rw [hb] at sw; exact go sw
            | true =>
              rw [hb] at sw
              simp only [Bool.and_eq_true] at hb
              have hl : X.env.scope.names.lookup x = some .local := by
                have := hb.1.1.2
                exact beq_iff_eq.mp this
              exact (e_lc ok eFuel (sE eFuel) tk elt gens scope).2 hi' hl sw
          | DictComp kx vx gens scope vp =>
            have sw : swapsWith (.DictComp kx vx gens scope vp) (some (.Name x p)) pos.line X.env = pure (X.env.blockKind == .function && X.env.kindOf x == some .local && p.line == vp.line && !(scope.names.any fun (n, k) => n == x && (k == .local || k == .cell))) := rfl
            cases hb : (X.env.blockKind == .function && X.env.kindOf x == some .local && p.line == vp.line && !(scope.names.any fun (n, k) => n == x && (k == .local || k == .cell))) with
            | false => rw [hb] at sw; exact go sw
            | true =>
              rw [hb] at sw
              simp only [Bool.and_eq_true] at hb
              have hl : X.env.scope.names.lookup x = some .local := by
                have := hb.1.1.2
                exact beq_iff_eq.mp this
              exact (e_dc ok eFuel (sE eFuel) tk kx vx gens scope).2 hi' hl sw
          | _ => simp [isCompE, isListCompE] at hv hc
      · exact psBad
    · exact psBad
  | Attribute o x p => exact st_setAttr ok.cls (h o) (h value) sw_attr
  | Subscript a b p =>
    simp only [evAsg]
    split
    · exact psBad
    · rename_i hs
      have hs : isSlice b = false := by simpa using hs
      refine st_setIdx ok.units (h a) (h b) (h value) sw_sub ss_sub ?_
      intro v
      cases b <;> first | rfl | (simp [isSlice] at hs)
  | Tuple ts kk p =>
    simp only [evAsg, evTup]
    split
    · rename_i x px y py a b k2 pt2
      split
      · rename_i hp
        split
        · rename_i i j hi hj
          unfold parOk at hp
          simp only [Bool.and_eq_true, decide_eq_true_eq, Bool.not_eq_true', decide_eq_false_iff_not] at hp
          obtain ⟨⟨⟨⟨⟨⟨⟨⟨h1, h2⟩, h3⟩, h4⟩, h5⟩, h6⟩, h7⟩, h8⟩, h9⟩ := hp
          have hi' : X.N[i]? = some x := by rw [ok.hN]; exact findIx_get hi
          have hj' : X.N[j]? = some y := by rw [ok.hN]; exact findIx_get hj
          have hij : i ≠ j := fun e => by
            subst e
            rw [hi'] at hj'
            cases hj'
            exact h3 rfl
          refine st_par ok.calm nd hi' hj' hij (by rw [ok.hsc]; exact h1) (by rw [ok.hsc]; exact h2) (paL h [a, b] (by simp [h5, h6])) ?_
          have kx : X.env.kindOf x = some .local := by show X.env.scope.names.lookup x = _; rw [ok.hsc]; exact h1
          have ky : X.env.kindOf y = some .local := by show X.env.scope.names.lookup y = _; rw [ok.hsc]; exact h2
          have bk : X.env.blockKind = .function := by
            unfold Env.blockKind
            rw [ok.hsc, h9]
            rfl
          exact swap2 kx ky bk h5 h6 h3 h4 h7 h8
        · exact psBad
      · exact psBad
    · split
      · exact psBad
      · rename_i hv
        have hv : isTupE value = false ∧ isCompE value = false := by simpa using hv
        split
        · rename_i t et
          exact st_asg (h value) (tg_ok ok.hN ok.nd ok.calm hf 5 _ t et) sw_tup (ss_none hv.1) rfl
        · exact psBad
  | _ => exact psBad
theorem st_augS (ok : XOk Γ L call k N sc X) (tk : Takes X W) (hfn : ∀ x, X.fn x = true) (t : Expr) (op : Operator) (value : Expr) : PS X (.AugAssign t op value pos) (GoodS L X.K W (evAug Γ call N sc t op value)) := by
  have h : ∀ e, PE X e (GoodE L X.K W (evX Γ call N sc e)) := fun e => (sE (eFuel + 1) sc X ok W tk e).1
  have nd : X.N.Nodup := by rw [ok.hN]; exact ok.nd
  have hf := loc_hf ok.hsc hfn
  cases t with
  | Name x p =>
    simp only [evAug]
    split
    · rename_i hc
      split
      · rename_i i hi
        exact st_aug nd (by rw [ok.hN]; exact findIx_get hi) (hf x hc).1 (h value) (hf x hc).2
      · exact psBad
    · exact psBad
  | Attribute o x p => exact st_augAttr ok.cls (h o) (h value)
  | Subscript a b p =>
    simp only [evAug]
    split
    · exact psBad
    · rename_i hs
      have hs : isSlice b = false := by simpa using hs
      refine st_augIdx ok.units (h a) (h b) (h value) ?_
      intro ov iv new
      cases b <;> first | rfl | (simp [isSlice] at hs)
  | _ => exact psBad
/-- THE STATEMENTS -/
theorem sS (ok : XOk Γ L call k N sc X) (tk : Takes X W) (hp : PassesOwn (model X.prog X.w) X.A X.env X.xe) (hfn : ∀ x, X.fn x = true) : ∀ (n : Nat) (st : Stmt), PS X st (GoodS L X.K W (evS Γ call N sc n st))
  | 0, st => psBad
  | n + 1, st => by
    have h : ∀ e, PE X e (GoodE L X.K W (evX Γ call N sc e)) := fun e => (sE (eFuel + 1) sc X ok W tk e).1
    have ht : ∀ e, PT X e (GoodT L X.K W (evXT Γ call N sc e)) := fun e => (sE (eFuel + 1) sc X ok W tk e).2
    have ih := ssL (sS ok tk hp hfn n)
    show PS X st (GoodS L X.K W (evS1 Γ call N sc (evS Γ call N sc n) st))
    cases st with
    | Pass p => exact st_pass
    | Break p => exact st_brk
    | Continue p => exact st_cnt
    | Return o p =>
      cases o with
      | none => exact st_retN
      | some e => exact st_ret (h e)
    | Expr e p =>
      simp only [evS1]
      split
      · exact psBad
      · rename_i hc
        exact st_expr (h e) (sw_none (by simpa using hc))
    | If c a b p => exact st_if (ht c) (ih a) (ih b)
    | Assign ts value p =>
      match ts with
      | [t] => exact st_assign ok tk hfn t value
      | [] => exact psBad
      | _ :: _ :: _ => exact psBad
    | AugAssign t op value p => exact st_augS ok tk hfn t op value
    | For tg iter body els p =>
      simp only [evS1]
      split
      · exact psBad
      · rename_i hs
        have hs : isSetE iter = false := by simpa using hs
        split
        · rename_i t et
          exact st_for hp ok.calm (i_iter ok h tg iter).1 (tg_ok ok.hN ok.nd ok.calm (loc_hf ok.hsc hfn) 5 tg t et) (ih body) (ih els) (folded_ok hs)
        · exact psBad
    | Delete ts p =>
      match ts with
      | [] => exact psBad
      | t1 :: _ :: _ => cases t1 <;> exact psBad
      | [t] =>
        cases t with
        | Subscript a b tp =>
          simp only [evS1]
          split
          · exact psBad
          · exact st_del (h a) (h b)
        | _ => exact psBad
    | While c body els p => exact st_while hp (ht c) (ih body) (ih els)
    | _ => exact psBad
end
end Mp
set_option Elab.async false
set_option linter.all false
set_option maxRecDepth 100000
set_option maxHeartbeats 2000000
namespace Mp
open PySem PySem.Spec PyProof.Rows L2
/-! ### the defs, all levels -/
structure DefF (L : Lk) (K : PySem.W.Frag) (Γ : Pg) (g : Str) (D : FnD) : Prop where
  ex : ∃ (x qual : Str) (params : Arguments) (dvs : List V) (kws : List (Str × V)) (fd : FuncData), FunD K x qual params D.body D.sc dvs kws (L.F g) fd ∧ ∀ n ks sel, (g, n, ks) ∈ Γ.shapes → bindV D n ks = some sel → ShpOk L K fd D.ps n ks sel ∧ (ks = [] → n = D.ps.length → Binds K fd D.ps [])
  sc : C8.scC D.N D.ps D.sc = true
structure PgOk (Γ : Pg) (L : Lk) (K : PySem.W.Frag) (mg : Str → Option Value) : Prop where
  df : ∀ g D, Γ.fns.lookup g = some D → DefF L K Γ g D
  top : ∀ g, Γ.tops.contains g = true → mg g = some (.ref (L.F g))
  cls : ∀ c C, Γ.cls.lookup c = some C → ClF L K c C
  clg : ∀ c C, Γ.cls.lookup c = some C → mg c = some (.ref (L.C c))
  glob : ∀ x v, Γ.glob.lookup x = some v → ∃ v' u, mg x = some u ∧ RelV v' u ∧ ∀ f H, RV L K f H v v'
  blt : ∀ x ∈ bltNames, Γ.tops.contains x = false → Γ.cls.lookup x = none → Γ.glob.lookup x = none → mg x = none
  nob : ∀ x ∈ bltNames, Γ.tops.contains x = false ∧ Γ.cls.lookup x = none ∧ Γ.glob.lookup x = none
  prop : ∀ c C x g, Γ.cls.lookup c = some C → C.props.lookup x = some g → ∃ D, Γ.fns.lookup g = some D ∧ D.ps.length = 1 ∧ (g, 1, []) ∈ Γ.shapes ∧ ∃ sel, bindV D 1 [] = some sel
section
variable {Γ : Pg} {L : Lk} {P : Program} {w : World} {K : PySem.W.Frag} {mg : Str → Option Value} {base : Heap}
theorem spF_bad {n : Nat} {vs : List V} {H : Hp} {Q : VK} {E : XK} {m : List Val → Mem → Res Val} (hm : ∀ ts h, m ts h = .bad) (h : spF L K n m vs H Q E) : False := by
  obtain ⟨_, f, hh, ts, _, _, p⟩ := h
  rw [hm] at p
  exact p
theorem envR_none {f : Nm} {H : Hp} (n : Nat) : EnvR L K f H (List.replicate n none) (List.replicate n none) :=
  ⟨by simp, fun i v e => by
    rw [List.getElem?_replicate] at e
    split at e <;> cases e⟩
theorem envR_cons {f : Nm} {H : Hp} {ρ : Mp.Env} {σ : L2.St} {v : Val} {v' : V} (r : RV L K f H v v') (E : EnvR L K f H ρ σ) : EnvR L K f H (some v :: ρ) (some v' :: σ) :=
  ⟨by simp [E.len], fun i w e => by
    cases i with
    | zero => cases e; exact ⟨v', rfl, r⟩
    | succ i => exact E.at_ i w e⟩
theorem envR_start {f : Nm} {H : Hp} {ρ0 : Mp.Env} {σ0 : L2.St} (h0 : EnvR L K f H ρ0 σ0) : ∀ {ts : List Val} {vs : List V}, RVs L K f H ts vs → EnvR L K f H (ts.map some ++ ρ0) (vs.map some ++ σ0)
  | [], vs, r => by
    unfold RVs at r
    subst r
    exact h0
  | t :: ts, vs, r => by
    unfold RVs at r
    obtain ⟨v, r', rfl, h1, h2⟩ := r
    exact envR_cons h1 (envR_start h0 h2)
theorem fnStep {d : Nat} {g : Str} {D : FnD} {x qual : Str} {params : Arguments} {dvs : List V} {kws : List (Str × V)} {fd : FuncData} (pg : PgOk Γ L K mg) (ih : ∀ g' D', Γ.fns.lookup g' = some D' → FnF L P w K mg base (2 * d) Γ (callF Γ d) g' D') (hg : Γ.fns.lookup g = some D)
    (F : FunD K x qual params D.body D.sc dvs kws (L.F g) fd) : FnOk P w K mg base (L2.CX P w) (2 * (d + 1)) (L.F g) fd D.ps (spF L K D.ps.length (callF Γ (d + 1) g)) := by
    have sc := C8.fnScope_by (pg.df g D hg).sc
    refine FunD.ok (k := 2 * d + 1) F sc (fun vs H Q E h => h.1) ?_
    intro cdv A outer s H vs Q E hr hsp
    obtain ⟨hl, f, h, ts, S, R, p⟩ := hsp
    have ok : XOk Γ L (callF Γ d) (2 * d) D.N D.sc (cxOf (L2.CX P w) P w K mg base D.N qual D.sc (L.F g) cdv A outer s H E) :=
      ⟨rfl, sc.nd, rfl, rfl, hr, ih, pg.top, pg.cls, pg.clg, pg.glob, pg.blt, pg.nob, pg.prop⟩
    have tk : Takes (cxOf (L2.CX P w) P w K mg base D.N qual D.sc (L.F g) cdv A outer s H E) (fun cls d _ H => E cls d H) := takes_of rfl rfl rfl rfl
    refine ⟨_, ssL (sS (L := L) ok tk (passes_of rfl) (fun x => rfl) sFuel) D.body, ?_⟩
    refine ⟨f, startE D.N ts, h, S, ?_, ?_⟩
    · unfold startE L2.start
      rw [R.length]
      exact envR_start (envR_none _) R
    · have e : callF Γ (d + 1) g ts h = fin (evSs (evS Γ (callF Γ d) D.N D.sc sFuel) D.body (startE D.N ts) h) := by
        have e0 : callF Γ (d + 1) g ts h = runD Γ (callF Γ d) D ts h := by
          conv => lhs; unfold callF
          simp only [hg]
        rw [e0]
        unfold runD
        exact if_pos (by rw [R.length]; exact hl)
      rw [e] at p
      cases e2 : evSs (evS Γ (callF Γ d) D.N D.sc sFuel) D.body (startE D.N ts) h with
      | bad => rw [e2] at p; exact p
      | exc c fs h' => rw [e2] at p; exact p
      | ok fl h' =>
        rw [e2] at p
        cases fl with
        | nx ρ => exact fun f' H' σ' x S' E' => p f' H' .non x S' (by unfold RV; rfl)
        | rt v => exact p
        | bk ρ => exact absurd p id
        | ct ρ => exact absurd p id
        | xc ρ c fs => exact fun f' H' σ' cls d x S' E' rx => p f' H' cls d x S' rx
theorem fnF (pg : PgOk Γ L K mg) : ∀ (d : Nat) (g : Str) (D : FnD), Γ.fns.lookup g = some D → FnF L P w K mg base (2 * d) Γ (callF Γ d) g D
  | 0, g, D, hg => by
    obtain ⟨x, qual, params, dvs, kws, fd, F, Sh⟩ := (pg.df g D hg).ex
    exact ⟨⟨fd, ⟨fun vs H Q E h => (spF_bad (fun _ _ => rfl) h).elim, fun A outer s H args us vs Q E _ _ _ _ h => (spF_bad (fun _ _ => rfl) h).elim⟩, Sh⟩, F.kp⟩
  | d + 1, g, D, hg => by
    obtain ⟨x, qual, params, dvs, kws, fd, F, Sh⟩ := (pg.df g D hg).ex
    exact ⟨⟨fd, fnStep pg (fun g' D' h' => fnF pg d g' D' h') hg F, Sh⟩, F.kp⟩
end
end Mp
set_option Elab.async false
set_option linter.all false
set_option maxRecDepth 100000
set_option maxHeartbeats 2000000
namespace Mp
open PySem PySem.Spec PyProof.Rows L2
/-! ### the text's data -/
inductive SrcI where
  | ps (i : Nat) | kw (j : Nat) | df (i : Nat) | kd (i : Nat)
deriving DecidableEq
def toS (dfl : List Val) (kwd : List (Str × Val)) : SrcI → Src
  | .ps i => .ps i
  | .kw j => .kw j
  | .df i => .df (dfl.getD i .non)
  | .kd i => .df ((kwd.map (·.2)).getD i .non)
structure Dd where
  g : Str
  at_ : Str × Option Str
  name : Str
  qual : Str
  params : Arguments
  ps : List Str
  dfl : List Val
  N : List Str
  sc : Scope
  body : List Stmt
  prop : Bool := false
  kwd : List (Str × Val) := []
/-- keyword-only parameters stand last -/
def Dd.fn (d : Dd) : FnD := ⟨d.ps, ((d.ps.drop (d.ps.length - d.kwd.length - d.dfl.length)).zip d.dfl) ++ d.kwd, d.N, d.sc, d.body⟩
/-- where a def stands; a property's getter too -/
def Dd.ad (d : Dd) (K : PySem.W.Frag) : Addr := if d.prop then (match PySem.W.findIn K (.ref (He.ga K d.at_.1)) (d.at_.2.getD "") with
  | some (some (.ref p)) => (match PySem.W.recIn K p "property" with
    | some (.ref g :: _) => g
    | _ => 0)
  | _ => 0) else He.fAd K d.at_
/-- the i-th default, an object -/
def dfAd (K : PySem.W.Frag) (a : Addr) (i : Nat) : Addr := match K.lookup a with
  | some ⟨_, _, .func y, _⟩ => (match y.defaults with
    | .ref T => (match K.lookup T with
      | some ⟨_, _, .seq zs _, _⟩ => (match zs.toList[i]? with
        | some (.ref b) => b
        | _ => 0)
      | _ => 0)
    | _ => 0)
  | _ => 0
/-- a default as the head says it -/
def dvOf (K : PySem.W.Frag) (a : Addr) (i : Nat) : Val → V
  | .non => .non
  | .bl b => .bl b
  | .int i => .int i
  | .str x => .str x
  | _ => .ref (dfAd K a i)
def dvsOf (K : PySem.W.Frag) (a : Addr) : Nat → List Val → List V
  | _, [] => []
  | i, v :: r => dvOf K a i v :: dvsOf K a (i + 1) r
/-- a flat value -/
def fvOf : Val → Option V
  | .non => some .non
  | .bl b => some (.bl b)
  | .int i => some (.int i)
  | .str x => some (.str x)
  | _ => none
def kwsOf : List (Str × Val) → List (Str × V)
  | [] => []
  | (x, v) :: r => (x, (fvOf v).getD .non) :: kwsOf r
theorem kws_rel {L : Lk} {K : PySem.W.Frag} {f : Nm} {H : Hp} : ∀ {l : List (Str × Val)}, (l.all fun q => (fvOf q.2).isSome) = true → RVs L K f H (l.map (·.2)) ((kwsOf l).map (·.2))
  | [], _ => by
    unfold RVs
    rfl
  | (x, v) :: r, h => by
    rw [List.all_cons, Bool.and_eq_true] at h
    have ih := kws_rel (L := L) (K := K) (f := f) (H := H) h.2
    unfold RVs
    refine ⟨_, _, rfl, ?_, ih⟩
    have h1 := h.1
    cases v with
    | non => unfold RV; rfl
    | bl b => unfold RV; rfl
    | int b => unfold RV; rfl
    | str b => unfold RV; rfl
    | tup b => simp [fvOf] at h1
    | ref b => simp [fvOf] at h1
    | fn b => simp [fvOf] at h1
abbrev FnO : Type := Option (Str × Str × Arguments × FuncBody × Scope × Addr × List (Str × Addr) × Addr)
def fnO (K : PySem.W.Frag) (a : Addr) : FnO := match K.lookup a with
  | some ⟨_, _, .func y, _⟩ => some (y.name, y.qualname, y.params, y.body, y.scope, y.globals, y.closure, y.builtins)
  | _ => none
def Dd.val (d : Dd) : FnO := some (d.name, d.qual, d.params, .stmts d.body, d.sc, mainGlobals, [], builtinsNs)
def Dd.ok (K : PySem.W.Frag) (d : Dd) : Bool := PySem.W.keepIn K (.ref (d.ad K)) && (match K.lookup (d.ad K) with
  | some ⟨_, _, .func y, _⟩ => PySem.W.codeIn K y.code d.qual && (He.dflB K y.defaults (dvsOf K (d.ad K) 0 d.dfl) && He.kwdB K y.kwdefaults (kwsOf d.kwd))
  | _ => false)
theorem Dd.fun_ {K : PySem.W.Frag} {d : Dd} (e : fnO K (d.ad K) = d.val) (c : d.ok K = true) : ∃ fd, FunD K d.name d.qual d.params d.body d.sc (dvsOf K (d.ad K) 0 d.dfl) (kwsOf d.kwd) (d.ad K) fd := by
  have c0 := He.ba c
  unfold fnO at e
  cases q : K.lookup (d.ad K) with
  | none => rw [q] at e; cases e
  | some o =>
    rcases o with ⟨o1, o2, o3, o4⟩
    rw [q] at e
    have c1 := c0.2
    rw [q] at c1
    cases o3 with
    | func y =>
      rcases y with ⟨y1, y2, y3, y4, y5, y6, y7, y8, y9, y10, y11, y12, y13, y14, y15⟩
      have e1 : (some (y1, y2, y3, y4, y5, y6, y7, y15) : FnO) = d.val := e
      unfold Dd.val at e1
      simp only [Option.some.injEq, Prod.mk.injEq] at e1
      rcases e1 with ⟨e1, e2, e3, e4, e5, e6, e7, e8⟩
      subst e1 e2 e3 e4 e5 e6 e7 e8
      have c2 := He.ba (show (PySem.W.codeIn K y13 d.qual && (He.dflB K y8 (dvsOf K (d.ad K) 0 d.dfl) && He.kwdB K y9 (kwsOf d.kwd))) = true from c1)
      have c3 := He.ba c2.2
      exact ⟨_, ⟨o1, o2, y8, y9, y10, y11, y12, y13, y14, o4, rfl, q, c2.1, He.dflB_ok c3.1, He.kwdB_ok c3.2⟩, c0.1⟩
    | _ => cases c1
mutual
def relVal (K : PySem.W.Frag) : Val → Value → Bool
  | .non, .none => true
  | .bl b, .bool c => b == c
  | .int i, .int j _ => decide (i = j)
  | .str x, .str y _ => decide (x = y)
  | .tup vs, .ref a => (match K.lookup a with
    | some ⟨.type c, _, .seq its _, _⟩ => decide (c = "tuple") && (decide (its.size ≤ sizeLine) && relVals K vs its.toList)
    | _ => false)
  | _, _ => false
def relVals (K : PySem.W.Frag) : List Val → List Value → Bool
  | [], [] => true
  | v :: vs, u :: us => relVal K v u && relVals K vs us
  | _, _ => false
end
mutual
theorem relVal_ok {K : PySem.W.Frag} (L : Lk) : ∀ (v : Val) (u : Value), relVal K v u = true → ∃ v', RelV v' u ∧ ∀ f H, RV L K f H v v'
  | .non, u, h => by
    cases u <;> simp [relVal] at h
    exact ⟨.non, rfl, fun f H => by unfold RV; rfl⟩
  | .bl b, u, h => by
    cases u <;> simp [relVal] at h
    subst h
    exact ⟨.bl b, rfl, fun f H => by unfold RV; rfl⟩
  | .int i, u, h => by
    cases u <;> simp [relVal] at h
    subst h
    exact ⟨.int i, ⟨_, rfl⟩, fun f H => by unfold RV; rfl⟩
  | .str x, u, h => by
    cases u <;> simp [relVal] at h
    subst h
    exact ⟨.str x, ⟨_, rfl⟩, fun f H => by unfold RV; rfl⟩
  | .ref n, u, h => by cases u <;> simp [relVal] at h
  | .fn g, u, h => by cases u <;> simp [relVal] at h
  | .tup vs, u, h => by
    cases u with
    | ref a =>
      have h0 : (match K.lookup a with
        | some ⟨.type c, _, .seq its _, _⟩ => decide (c = "tuple") && (decide (its.size ≤ sizeLine) && relVals K vs its.toList)
        | _ => false) = true := by
        simpa only [relVal] using h
      cases q : K.lookup a with
      | none => rw [q] at h0; cases h0
      | some o =>
        obtain ⟨oc, od, dt, osl⟩ := o
        rw [q] at h0
        cases oc with
        | type c =>
          cases dt with
          | seq its n =>
            obtain ⟨h1, h2⟩ := He.ba (show (decide (c = "tuple") && (decide (its.size ≤ sizeLine) && relVals K vs its.toList)) = true from h0)
            obtain ⟨h3, h4⟩ := He.ba h2
            obtain ⟨vs', r, rv⟩ := relVals_ok L vs its.toList h4
            refine ⟨.ref a, rfl, fun f H => ?_⟩
            unfold RV
            exact ⟨a, vs', rfl, .inr ⟨_, its, n, q, congrArg Value.type (of_decide_eq_true h1), rfl, of_decide_eq_true h3, r⟩, rv f H⟩
          | _ => cases h0
        | _ => cases dt <;> cases h0
    | _ => simp [relVal] at h
theorem relVals_ok {K : PySem.W.Frag} (L : Lk) : ∀ (vs : List Val) (us : List Value), relVals K vs us = true → ∃ vs', Vals vs' us ∧ ∀ f H, RVs L K f H vs vs'
  | [], us, h => by
    cases us with
    | nil => exact ⟨[], .nil, fun f H => by unfold RVs; rfl⟩
    | cons u us => simp [relVals] at h
  | v :: vs, us, h => by
    cases us with
    | nil => simp [relVals] at h
    | cons u us =>
      have h0 : (relVal K v u && relVals K vs us) = true := by simpa only [relVals] using h
      obtain ⟨h1, h2⟩ := He.ba h0
      obtain ⟨v', r1, q1⟩ := relVal_ok L v u h1
      obtain ⟨vs', r2, q2⟩ := relVals_ok L vs us h2
      exact ⟨v' :: vs', .cons r1 r2, fun f H => by unfold RVs; exact ⟨v', vs', rfl, q1 f H, q2 f H⟩⟩
end
/-! ### what a call binds -/
def pick4 {α : Type} (us ws its ms : List α) : SrcI → Option α
  | .ps i => us[i]?
  | .kw j => ws[j]?
  | .df i => its[i]?
  | .kd i => ms[i]?
def selI {α : Type} (sel : List SrcI) (us ws its ms : List α) : List α := sel.filterMap (pick4 us ws its ms)
def AllL {α : Type} : Nat → (List α → Prop) → Prop
  | 0, p => p []
  | n + 1, p => ∀ x, AllL n fun l => p (x :: l)
theorem AllL.at_ {α : Type} : ∀ {n : Nat} {p : List α → Prop}, AllL n p → ∀ l : List α, l.length = n → p l
  | 0, p, h, l, e => by
    cases l with
    | nil => exact h
    | cons _ _ => cases e
  | n + 1, p, h, l, e => by
    cases l with
    | nil => cases e
    | cons x l => exact AllL.at_ (h x) l (by simpa using e)
/-- the keyword-only defaults that a call leaves to the def -/
def lack (ks names : List Str) (ms : List Value) : List (Str × Value) := (names.zip ms).filter fun q => !ks.contains q.1
structure BindOk (d : Dd) (n : Nat) (ks : List Str) (sel : List SrcI) : Prop where
  bv : bindV d.fn n ks = some (sel.map (toS d.dfl d.kwd))
  idq : (!(ks.isEmpty && n == d.ps.length) || decide (sel = (List.range n).map .ps)) = true
  inb : sel.all (fun s => match s with | .ps i => decide (i < n) | .kw j => decide (j < ks.length) | .df i => decide (i < d.dfl.length) | .kd i => decide (i < d.kwd.length)) = true
  flt : (d.kwd.all fun q => (fvOf q.2).isSome) = true
  no : d.dfl = [] → d.kwd = [] → ∀ (kV doc pm : Value) (an : Option Addr) (cdv ct : Value), AllL n fun us => AllL ks.length fun ws => bindArgs (PySem.W.fnOf d.name d.qual d.params d.body d.sc .none kV doc pm an cdv ct) ⟨us, ks.zip ws⟩ = pure (d.ps.zip (selI sel us ws [] []))
  some_ : d.dfl ≠ [] → d.kwd = [] → ∀ (T : Addr) (kV doc pm : Value) (an : Option Addr) (cdv ct : Value), AllL n fun us => AllL ks.length fun ws => AllL d.dfl.length fun its => ∃ k, bindArgs (PySem.W.fnOf d.name d.qual d.params d.body d.sc (.ref T) kV doc pm an cdv ct) ⟨us, ks.zip ws⟩ = seqItems? (.ref T) >>= k ∧ k (some its.toArray) = pure (d.ps.zip (selI sel us ws its []))
  noK : d.dfl = [] → d.kwd ≠ [] → ∀ (D : Addr) (doc pm : Value) (an : Option Addr) (cdv ct : Value), AllL n fun us => AllL ks.length fun ws => AllL d.kwd.length fun ms => KwChain D (lack ks (d.kwd.map (·.1)) ms) (bindArgs (PySem.W.fnOf d.name d.qual d.params d.body d.sc .none (.ref D) doc pm an cdv ct) ⟨us, ks.zip ws⟩) (d.ps.zip (selI sel us ws [] ms))
  someK : d.dfl ≠ [] → d.kwd ≠ [] → ∀ (T D : Addr) (doc pm : Value) (an : Option Addr) (cdv ct : Value), AllL n fun us => AllL ks.length fun ws => AllL d.dfl.length fun its => AllL d.kwd.length fun ms => ∃ k, bindArgs (PySem.W.fnOf d.name d.qual d.params d.body d.sc (.ref T) (.ref D) doc pm an cdv ct) ⟨us, ks.zip ws⟩ = seqItems? (.ref T) >>= k ∧ KwChain D (lack ks (d.kwd.map (·.1)) ms) (k (some its.toArray)) (d.ps.zip (selI sel us ws its ms))
section
variable {K : PySem.W.Frag}
theorem vals_pick {vs zs ds es : List V} {us ws its ms : List Value} (r1 : Vals vs us) (r2 : Vals zs ws) (r3 : Vals ds its) (r4 : Vals es ms) (s : SrcI) : (pick4 vs zs ds es s = none ∧ pick4 us ws its ms s = none) ∨ ∃ v u, pick4 vs zs ds es s = some v ∧ pick4 us ws its ms s = some u ∧ RelV v u := by
  have key : ∀ {xs : List V} {ys : List Value} (i : Nat), Vals xs ys → (xs[i]? = none ∧ ys[i]? = none) ∨ ∃ v u, xs[i]? = some v ∧ ys[i]? = some u ∧ RelV v u := fun {xs ys} i r => by
    cases e : xs[i]? with
    | none =>
      refine .inl ⟨rfl, ?_⟩
      rw [List.getElem?_eq_none_iff] at e ⊢
      rw [← r.length]
      exact e
    | some v =>
      obtain ⟨u, e2, rv⟩ := r.get e
      exact .inr ⟨v, u, rfl, e2, rv⟩
  cases s with
  | ps i => exact key i r1
  | kw i => exact key i r2
  | df i => exact key i r3
  | kd i => exact key i r4
theorem vals_sel {vs zs ds es : List V} {us ws its ms : List Value} (r1 : Vals vs us) (r2 : Vals zs ws) (r3 : Vals ds its) (r4 : Vals es ms) : ∀ sel : List SrcI, Vals (selI sel vs zs ds es) (selI sel us ws its ms)
  | [] => .nil
  | s :: sel => by
    have ih := vals_sel r1 r2 r3 r4 sel
    unfold selI at ih ⊢
    rcases vals_pick r1 r2 r3 r4 s with ⟨e1, e2⟩ | ⟨v, u, e1, e2, rv⟩
    · rw [List.filterMap_cons, List.filterMap_cons, e1, e2]
      exact ih
    · rw [List.filterMap_cons, List.filterMap_cons, e1, e2]
      exact .cons rv ih
theorem rvs_get {L : Lk} {f : Nm} {H : Hp} : ∀ {ts : List Val} {vs : List V} {i : Nat} {t : Val}, RVs L K f H ts vs → ts[i]? = some t → ∃ v, vs[i]? = some v ∧ RV L K f H t v
  | [], vs, i, t, _, e => by simp at e
  | x :: ts, vs, i, t, r, e => by
    unfold RVs at r
    obtain ⟨v, r', rfl, h1, h2⟩ := r
    cases i with
    | zero => simp at e; subst e; exact ⟨v, rfl, h1⟩
    | succ i => exact rvs_get (i := i) h2 (by simpa using e)
/-- the values picked, of the text and of the model -/
theorem sel_rel {L : Lk} {f : Nm} {H : Hp} {dfl : List Val} {ds : List V} {kwd : List (Str × Val)} {es : List V} (hd : RVs L K f H dfl ds) (he : RVs L K f H (kwd.map (·.2)) es) {ts zs : List Val} {vs ws : List V} (r1 : RVs L K f H ts vs) (r2 : RVs L K f H zs ws) :
    ∀ (sel : List SrcI) (us : List Val), (sel.all fun s => match s with | .ps i => true | .kw j => true | .df i => decide (i < dfl.length) | .kd i => decide (i < kwd.length)) = true → selV ts zs (sel.map (toS dfl kwd)) = some us → RVs L K f H us (selI sel vs ws ds es)
  | [], us, _, e => by
    simp [selV] at e
    subst e
    unfold RVs
    rfl
  | s :: sel, us, hb, e => by
    rw [List.all_cons, Bool.and_eq_true] at hb
    simp only [List.map_cons, selV] at e
    split at e
    · rename_i v rest e1 e2
      cases e
      have ih := sel_rel hd he r1 r2 sel rest hb.2 e2
      have : ∃ v', pick4 vs ws ds es s = some v' ∧ RV L K f H v v' := by
        cases s with
        | ps i => exact rvs_get r1 e1
        | kw j => exact rvs_get r2 e1
        | df i =>
          have hi : i < dfl.length := of_decide_eq_true hb.1
          simp only [toS, pick1, Option.some.injEq] at e1
          rw [List.getD_eq_getElem?_getD, List.getElem?_eq_getElem hi] at e1
          exact rvs_get hd (by rw [List.getElem?_eq_getElem hi]; exact congrArg some e1)
        | kd i =>
          have hi : i < (kwd.map (·.2)).length := by rw [List.length_map]; exact of_decide_eq_true hb.1
          simp only [toS, pick1, Option.some.injEq] at e1
          rw [List.getD_eq_getElem?_getD, List.getElem?_eq_getElem hi] at e1
          exact rvs_get he (by rw [List.getElem?_eq_getElem hi]; exact congrArg some e1)
      obtain ⟨v', e3, rv⟩ := this
      unfold selI at ih ⊢
      rw [List.filterMap_cons, e3]
      unfold RVs
      exact ⟨v', _, rfl, rv, ih⟩
    · cases e
theorem selI_id {α : Type} (us its ms : List α) : selI ((List.range us.length).map .ps) us [] its ms = us := by
  unfold selI
  rw [List.filterMap_map]
  have e : (pick4 us [] its ms ∘ SrcI.ps) = fun i => us[i]? := rfl
  rw [e]
  clear e
  induction us with
  | nil => rfl
  | cons x us ih =>
    rw [List.length_cons, List.range_succ_eq_map, List.filterMap_cons]
    simp only [List.getElem?_cons_zero, List.filterMap_map, Function.comp_def, List.getElem?_cons_succ]
    rw [ih]
/-- a shape of call -/
theorem shp_ok {L : Lk} {d : Dd} {n : Nat} {ks : List Str} {seli : List SrcI} {f : Addr} {fd : FuncData} {dvs : List V} (F : FunD K d.name d.qual d.params d.body d.sc dvs (kwsOf d.kwd) f fd) (hd : ∀ f H, RVs L K f H d.dfl dvs) (b : BindOk d n ks seli) {sel : List Src} (hs : bindV d.fn n ks = some sel) :
    ShpOk L K fd d.ps n ks sel ∧ (ks = [] → n = d.ps.length → Binds K fd d.ps []) := by
  have es : sel = seli.map (toS d.dfl d.kwd) := Option.some.inj (hs.symm.trans b.bv)
  subst es
  obtain ⟨oc, od, dV, kV, doc, pm, an, cdv, ct, osl, rfl, lk, hcd, hD, hK⟩ := F.ex
  have hl : d.dfl.length = dvs.length := (hd (fun _ => none) (fun _ => none)).length
  have hkl : (kwsOf d.kwd).map (·.1) = d.kwd.map (·.1) := by
    have : ∀ l : List (Str × Val), (kwsOf l).map (·.1) = l.map (·.1) := fun l => by
      induction l with
      | nil => rfl
      | cons q r ih => obtain ⟨x, v⟩ := q; simp [kwsOf, ih]
    exact this _
  have hkn : d.kwd.length = (kwsOf d.kwd).length := by
    have := congrArg List.length hkl
    simpa using this.symm
  -- the defaults' values
  have main : ∃ its ms : List Value, Vals dvs its ∧ Vals ((kwsOf d.kwd).map (·.2)) ms ∧ ∀ (s : Shared) (us ws : List Value), K.In s.heap → us.length = n → ws.length = ks.length → BindsTo s (PySem.W.fnOf d.name d.qual d.params d.body d.sc dV kV doc pm an cdv ct) ⟨us, ks.zip ws⟩ (d.ps.zip (selI seli us ws its ms)) := by
    have lacks : ∀ (D : Addr) (ms : List Value), ms.length = (kwsOf d.kwd).length → (∀ q ∈ ((kwsOf d.kwd).map (·.1)).zip ms, PySem.W.nsIn K D q.1 = some (some q.2)) → ∀ q ∈ lack ks (d.kwd.map (·.1)) ms, PySem.W.nsIn K D q.1 = some (some q.2) := fun D ms _ h q hq => h q (by
      rw [hkl]
      exact (List.mem_filter.mp hq).1)
    by_cases hk0 : d.kwd = []
    · have ek : kwsOf d.kwd = [] := by rw [hk0]; rfl
      rcases hD with ⟨e, rfl⟩ | ⟨ne, T, o, its, m, rfl, lT, oT, rT⟩
      · subst e
        refine ⟨[], [], .nil, by rw [ek]; exact .nil, fun s us ws X l1 l2 => .of_eq ?_⟩
        have e0 : d.dfl = [] := List.eq_nil_of_length_eq_zero hl
        exact ((b.no e0 hk0 kV doc pm an cdv ct).at_ us l1).at_ ws l2
      · refine ⟨its, [], rT, by rw [ek]; exact .nil, fun s us ws X l1 l2 => ?_⟩
        have e0 : d.dfl ≠ [] := fun e => by
          rw [e] at hl
          exact ne (List.eq_nil_of_length_eq_zero hl.symm)
        obtain ⟨k, e1, e2⟩ := (((b.some_ e0 hk0 T kV doc pm an cdv ct).at_ us l1).at_ ws l2).at_ its (by rw [hl, rT.length])
        refine BindsTo.of_looks fun M => ?_
        rw [e1]
        exact looks_items X lT oT (.of_pure e2)
    · have ek : kwsOf d.kwd ≠ [] := fun e => hk0 (List.eq_nil_of_length_eq_zero (by rw [hkn, e]; rfl))
      rcases hK with e | ⟨D, rfl, hq⟩
      · exact absurd e ek
      · obtain ⟨ms, hml, rk, hks⟩ := kwd_vals hq
        have hks := lacks D ms hml hks
        have hmn : ms.length = d.kwd.length := hml.trans hkn.symm
        rcases hD with ⟨e, rfl⟩ | ⟨ne, T, o, its, m, rfl, lT, oT, rT⟩
        · subst e
          refine ⟨[], ms, .nil, rk, fun s us ws X l1 l2 => BindsTo.of_looks fun M => ?_⟩
          have e0 : d.dfl = [] := List.eq_nil_of_length_eq_zero hl
          exact KwChain.looks X hks ((((b.noK e0 hk0 D doc pm an cdv ct).at_ us l1).at_ ws l2).at_ ms hmn)
        · refine ⟨its, ms, rT, rk, fun s us ws X l1 l2 => ?_⟩
          have e0 : d.dfl ≠ [] := fun e => by
            rw [e] at hl
            exact ne (List.eq_nil_of_length_eq_zero hl.symm)
          obtain ⟨k, e1, e2⟩ := ((((b.someK e0 hk0 T D doc pm an cdv ct).at_ us l1).at_ ws l2).at_ its (by rw [hl, rT.length])).at_ ms hmn
          refine BindsTo.of_looks fun M => ?_
          rw [e1]
          exact looks_items X lT oT (KwChain.looks X hks e2)
  obtain ⟨its, ms, rT, rM, to⟩ := main
  refine ⟨⟨fun us ws => selI seli us ws its ms, fun vs zs => selI seli vs zs dvs ((kwsOf d.kwd).map (·.2)), ⟨to, fun r1 r2 => vals_sel r1 r2 rT rM seli⟩, ?_⟩, ?_⟩
  · intro f H ts zs vs ws us r1 r2 l1 l2 e
    refine sel_rel (hd f H) (kws_rel b.flt) r1 r2 seli us ?_ e
    have := b.inb
    rw [List.all_eq_true] at this ⊢
    intro x hx
    have := this x hx
    cases x with
    | df i => exact this
    | kd i => exact this
    | _ => rfl
  · intro hk hn s us X hlen
    subst hk hn
    rw [List.append_nil] at hlen ⊢
    have q := b.idq
    rw [Bool.or_eq_true] at q
    rcases q with q | q
    · simp at q
    · have q := of_decide_eq_true q
      have := to s us [] X hlen rfl
      rw [q, ← hlen, selI_id] at this
      exact this
end
/-! ### the program -/
structure Txt where
  dds : List Dd
  tops : List Str
  cls : List (Str × ClD)
  glob : List (Str × Val)
  shapes : List (Str × Nat × List Str)
def Txt.pg (T : Txt) : Pg := ⟨T.dds.map fun d => (d.g, d.fn), T.tops, T.cls, T.glob, T.shapes⟩
def adIn (K : PySem.W.Frag) : List Dd → Str → Addr
  | [], _ => 0
  | d :: r, g => if g == d.g then d.ad K else adIn K r g
def Txt.lk (T : Txt) (K : PySem.W.Frag) : Lk := ⟨fun c => He.ga K c, adIn K T.dds⟩
def adOf (dds : List Dd) (g : Str) : Bool × Str × Option Str := match dds.find? (fun d => g == d.g) with
  | some d => (d.prop, d.at_)
  | none => (true, "", none)
def clFa (c : Str) (C : ClD) : List He.Fa := [.glo c, .cls c, .mkr c] ++ C.flds.map (.noat c) ++ C.meths.map fun m => .meth c m.1
def Txt.fa (T : Txt) : List He.Fa := T.tops.map .glo ++ T.cls.flatMap (fun p => clFa p.1 p.2) ++ bltNames.map .free
def noLst (o : Obj) : Bool := match o.cls with
  | .type c => !decide (c = "list")
  | _ => true
def globB (K : PySem.W.Frag) (p : Str × Val) : Bool := match PySem.W.nsIn K mainGlobals p.1 with
  | some (some u) => relVal K p.2 u
  | _ => false
def dflsB (K : PySem.W.Frag) (d : Dd) : Bool := match K.lookup (d.ad K) with
  | some ⟨_, _, .func fd, _⟩ => (match d.dfl with
    | [] => true
    | _ => (match fd.defaults with
      | .ref T => (match K.lookup T with
        | some ⟨_, _, .seq its _, _⟩ => relVals K d.dfl its.toList
        | _ => false)
      | _ => false))
  | _ => false
def propB (K : PySem.W.Frag) (c x : Str) (g : Addr) : Bool := match PySem.W.findIn K (.ref (He.ga K c)) x with
  | some (some (.ref p)) => He.eqO (PySem.W.specialIn K (.ref p) "__get__") (some (some (.builtin "property.__get__"))) && (decide (PySem.W.takesIn K (.ref p) = some true) && (match PySem.W.recIn K p "property" with
    | some (.ref g' :: _) => decide (g' = g)
    | _ => false))
  | _ => false
def Txt.ex (T : Txt) (K : PySem.W.Frag) : Bool := (K.all fun q => noLst q.2) && (T.glob.all (globB K) && (T.dds.all (dflsB K) && T.cls.all fun p => p.2.props.all fun q => propB K p.1 q.1 (adIn K T.dds q.2)))
/-- the Hook -/
abbrev AlM : Type := Bool × List FnO
def Txt.obs (T : Txt) (K : PySem.W.Frag) : AlM := ((T.fa.all fun f => f.ok K) && (T.dds.all (Dd.ok K) && T.ex K), T.dds.map fun d => fnO K (d.ad K))
def Txt.told (T : Txt) : AlM := (true, T.dds.map Dd.val)
structure Says (T : Txt) (K : PySem.W.Frag) : Prop where
  fa : ∀ f ∈ T.fa, f.ok K = true
  df : ∀ d ∈ T.dds, ∃ fd, FunD K d.name d.qual d.params d.body d.sc (dvsOf K (d.ad K) 0 d.dfl) (kwsOf d.kwd) (d.ad K) fd
  ex : T.ex K = true
theorem says_of {T : Txt} {K : PySem.W.Frag} (e : T.obs K = T.told) : Says T K := by
  have e1 : ((T.fa.all fun f => f.ok K) && (T.dds.all (Dd.ok K) && T.ex K)) = true := congrArg (fun z : AlM => z.1) e
  have e2 : (T.dds.map fun d => fnO K (d.ad K)) = T.dds.map Dd.val := congrArg (fun z : AlM => z.2) e
  have h1 := He.ba e1
  have h2 := He.ba h1.2
  exact ⟨List.all_eq_true.mp h1.1, fun d hd => Dd.fun_ (List.map_inj_left.mp e2 d hd) (List.all_eq_true.mp h2.1 d hd), h2.2⟩
def Txt.obsG (T : Txt) (g : Addr → Option Obj) : AlM := T.obs (He.frT g (He.asD g 6))
def Txt.hook (T : Txt) : PySem.W.Hook where
  α := AlM
  obs := fun s => T.obsG s.heap.get?
  val := fun _ => T.told
  says := fun _ h => ∃ K : PySem.W.Frag, K.In h ∧ Says T K
  of := fun _ _ e => ⟨_, He.frT_in, says_of e⟩
  keeps := fun _ _ _ z k => z.elim fun K y => ⟨K, PySem.W.Frag.In.keeps y.1 k, y.2⟩
theorem obsG_eq {T : Txt} {g : Addr → Option Obj} {s : Shared} (h : ∀ a, g a = s.heap.get? a) : T.obsG g = T.hook.obs s := by
  have : g = s.heap.get? := funext h
  subst this
  rfl
/-- what is to be looked at of the text alone -/
structure TxtOk (T : Txt) : Prop where
  nd : (T.dds.map (·.g)).Nodup
  sc : (T.dds.all fun d => C8.scC d.N d.ps d.sc) = true
  sh : ∀ s ∈ T.shapes, ∃ d ∈ T.dds, d.g = s.1 ∧ ∃ sel, BindOk d s.2.1 s.2.2 sel
  tops : (T.tops.all fun g => decide (adOf T.dds g = (false, g, none)) && (T.dds.any fun d => g == d.g)) = true
  cl : (T.cls.all fun p => decide (adOf T.dds p.2.init = (false, p.1, some ("__init__" : Str))) && (T.dds.any fun d => p.2.init == d.g) && p.2.meths.all fun m => decide (adOf T.dds m.2 = (false, p.1, some m.1)) && (T.dds.any fun d => m.2 == d.g)) = true
  pr : (T.cls.all fun p => p.2.props.all fun q => (match T.pg.fns.lookup q.2 with | some D => decide (D.ps.length = 1) && (T.shapes.any fun s => decide (s = (q.2, 1, []))) && (bindV D 1 []).isSome | none => false)) = true
  nob : (bltNames.all fun x => !(T.tops.contains x) && (T.cls.lookup x).isNone && (T.glob.lookup x).isNone) = true
theorem lookup_map_dd : ∀ {dds : List Dd} {g : Str} {D : FnD}, (dds.map fun d => (d.g, d.fn)).lookup g = some D → ∃ d ∈ dds, d.g = g ∧ d.fn = D
  | [], g, D, h => by cases h
  | d :: r, g, D, h => by
    simp only [List.map_cons, List.lookup_cons] at h
    cases q : g == d.g with
    | true =>
      rw [q] at h
      cases h
      exact ⟨d, List.mem_cons_self, (beq_iff_eq.mp q).symm, rfl⟩
    | false =>
      rw [q] at h
      obtain ⟨d', m, e⟩ := lookup_map_dd h
      exact ⟨d', List.mem_cons_of_mem _ m, e⟩
theorem adIn_at {K : PySem.W.Frag} : ∀ {dds : List Dd} {d : Dd}, (dds.map (·.g)).Nodup → d ∈ dds → adIn K dds d.g = d.ad K
  | [], d, _, h => by cases h
  | x :: r, d, nd, h => by
    rw [List.map_cons, List.nodup_cons] at nd
    unfold adIn
    rcases List.mem_cons.mp h with rfl | h
    · simp
    · have : (d.g == x.g) = false := by
        cases q : d.g == x.g with
        | false => rfl
        | true => exact absurd (by rw [← beq_iff_eq.mp q]; exact List.mem_map_of_mem h) nd.1
      rw [this]
      simpa using adIn_at nd.2 h
theorem adIn_of {K : PySem.W.Frag} {dds : List Dd} {g : Str} {p : Str × Option Str} (h : adOf dds g = (false, p)) (ha : (dds.any fun d => g == d.g) = true) : adIn K dds g = He.fAd K p := by
  unfold adOf at h
  induction dds with
  | nil => cases ha
  | cons d r ih =>
    unfold adIn
    cases q : g == d.g with
    | true =>
      rw [List.find?_cons, q] at h
      simp only [Prod.mk.injEq] at h
      rw [if_pos rfl]
      unfold Dd.ad
      rw [h.1, if_neg (by simp), h.2]
    | false =>
      rw [List.find?_cons, q] at h
      rw [List.any_cons, q, Bool.false_or] at ha
      rw [if_neg (by simp)]
      exact ih h ha
theorem dvs_rel {L : Lk} {K : PySem.W.Frag} {a0 : Addr} {oc : Value} {od : Option Addr} {fd : FuncData} {osl : Array (Option Value)} {T : Addr} {its : Array Value} {oc2 : Value} {od2 : Option Addr} {n2 : Nat} {osl2 : Array (Option Value)} (lk : K.lookup a0 = some ⟨oc, od, .func fd, osl⟩) (ed : fd.defaults = .ref T) (lT : K.lookup T = some ⟨oc2, od2, .seq its n2, osl2⟩) :
    ∀ (vs : List Val) (i : Nat) (us : List Value), its.toList.drop i = us → relVals K vs us = true → ∀ f H, RVs L K f H vs (dvsOf K a0 i vs)
  | [], i, us, _, _, f, H => by
    unfold RVs dvsOf
    rfl
  | v :: vs, i, us, eu, h, f, H => by
    cases us with
    | nil => simp [relVals] at h
    | cons u us =>
      have h0 : (relVal K v u && relVals K vs us) = true := by simpa only [relVals] using h
      obtain ⟨h1, h2⟩ := He.ba h0
      have eu2 : its.toList.drop (i + 1) = us := by
        rw [← List.tail_drop, eu]
        rfl
      have ei : its.toList[i]? = some u := by
        have : (its.toList.drop i)[0]? = some u := by rw [eu]; rfl
        simpa using this
      have ih := dvs_rel (L := L) lk ed lT vs (i + 1) us eu2 h2 f H
      obtain ⟨v', r1, q1⟩ := relVal_ok L v u h1
      have q1 := q1 f H
      have ev : dvOf K a0 i v = v' := by
        cases v with
        | non => unfold RV at q1; subst q1; rfl
        | bl b => unfold RV at q1; subst q1; rfl
        | int b => unfold RV at q1; subst q1; rfl
        | str b => unfold RV at q1; subst q1; rfl
        | ref n => cases u <;> simp [relVal] at h1
        | fn n => cases u <;> simp [relVal] at h1
        | tup xs =>
          unfold RV at q1
          obtain ⟨a, vs', rfl, _⟩ := q1
          obtain rfl : u = Value.ref a := r1
          show V.ref (dfAd K a0 i) = _
          unfold dfAd
          rw [lk]
          simp only [ed, lT, ei]
      unfold RVs
      refine ⟨_, _, rfl, ?_, ih⟩
      rw [ev]
      exact q1
/-- THE FACTS of a text -/
theorem pg_ok {T : Txt} (ok : TxtOk T) {K : PySem.W.Frag} {h : Heap} {mg : Str → Option Value} (X : K.In h) (G : h.Ns mainGlobals mg) (c : Says T K) : PgOk T.pg (T.lk K) K mg := by
  have fact : ∀ f ∈ T.fa, f.ok K = true := c.fa
  obtain ⟨_, more⟩ := He.ba (show ((K.all fun q => noLst q.2) && _) = true from c.ex)
  obtain ⟨hglob, more⟩ := He.ba more
  obtain ⟨hdfl, hprop⟩ := He.ba more
  have fTop : ∀ g ∈ T.tops, mg g = some (.ref (He.ga K g)) := fun g hg => He.glo_ok X G (fact _ (by unfold Txt.fa; simp [hg]))
  have fCls : ∀ c C, T.cls.lookup c = some C → (c, C) ∈ T.cls := fun c C h => by
    obtain ⟨l1, l2, e, _⟩ := List.lookup_eq_some_iff.mp h
    rw [e]
    simp
  have fFa : ∀ c C, T.cls.lookup c = some C → ∀ f ∈ clFa c C, f.ok K = true := fun c C h f hf => fact _ (by
    unfold Txt.fa
    rw [List.mem_append, List.mem_append]
    exact .inl (.inr (List.mem_flatMap.mpr ⟨(c, C), fCls c C h, hf⟩)))
  have fCl : ∀ c C, T.cls.lookup c = some C → (decide (adOf T.dds C.init = (false, c, some ("__init__" : Str))) && (T.dds.any fun d => C.init == d.g) && C.meths.all fun m => decide (adOf T.dds m.2 = (false, c, some m.1)) && (T.dds.any fun d => m.2 == d.g)) = true := fun c C h => List.all_eq_true.mp ok.cl (c, C) (fCls c C h)
  refine ⟨?_, ?_, ?_, ?_, ?_, ?_, ?_, ?_⟩
  · intro g D hg
    obtain ⟨d, hd, rfl, rfl⟩ := lookup_map_dd hg
    obtain ⟨fd, F⟩ := c.df d hd
    have eF : (T.lk K).F d.g = d.ad K := adIn_at ok.nd hd
    refine ⟨⟨d.name, d.qual, d.params, _, _, fd, by rw [eF]; exact F, ?_⟩, List.all_eq_true.mp ok.sc d hd⟩
    intro n ks sel hs hb
    obtain ⟨d', hd', e1, seli, b⟩ := ok.sh _ hs
    have ed : d' = d := by
      have := ok.nd
      have key : ∀ (l : List Dd), (l.map (·.g)).Nodup → d' ∈ l → d ∈ l → d'.g = d.g → d' = d := fun l => by
        induction l with
        | nil => intro _ h; cases h
        | cons x r ih =>
          intro nd h1 h2 e
          rw [List.map_cons, List.nodup_cons] at nd
          rcases List.mem_cons.mp h1 with rfl | h1
          · rcases List.mem_cons.mp h2 with rfl | h2
            · rfl
            · exact absurd (by rw [e]; exact List.mem_map_of_mem h2) nd.1
          · rcases List.mem_cons.mp h2 with rfl | h2
            · exact absurd (by rw [← e]; exact List.mem_map_of_mem ‹d' ∈ r›) nd.1
            · exact ih nd.2 h1 h2 e
      exact key _ this hd' hd e1
    subst ed
    refine shp_ok (d := d') F ?_ b hb
    intro f H
    have hB := List.all_eq_true.mp hdfl d' hd
    unfold dflsB at hB
    show RVs (T.lk K) K f H d'.dfl (dvsOf K (d'.ad K) 0 d'.dfl)
    cases q : K.lookup (d'.ad K) with
    | none => rw [q] at hB; cases hB
    | some o =>
      obtain ⟨oc, od, dt, osl⟩ := o
      rw [q] at hB
      cases dt with
      | func fd' =>
        cases ed : d'.dfl with
        | nil =>
          unfold RVs dvsOf
          rfl
        | cons v vs =>
          simp only [ed] at hB
          cases ez : fd'.defaults with
          | ref T' =>
            rw [ez] at hB
            simp only at hB
            cases q2 : K.lookup T' with
            | none => rw [q2] at hB; cases hB
            | some o2 =>
              obtain ⟨oc2, od2, dt2, osl2⟩ := o2
              rw [q2] at hB
              cases dt2 with
              | seq its n2 => exact dvs_rel q ez q2 (v :: vs) 0 its.toList rfl hB f H
              | _ => cases hB
          | _ => rw [ez] at hB; cases hB
      | _ => cases hB
  · intro g hg
    have hm : g ∈ T.tops := by simpa [Txt.pg] using hg
    have := List.all_eq_true.mp ok.tops g hm
    rw [Bool.and_eq_true] at this
    have e : (T.lk K).F g = He.ga K g := adIn_of (of_decide_eq_true this.1) this.2
    rw [e]
    exact fTop g hm
  · intro cN C hc
    have ff := fFa cN C hc
    have fc := fCl cN C hc
    simp only [Bool.and_eq_true, decide_eq_true_eq, List.all_eq_true] at fc
    obtain ⟨⟨c1, c2⟩, c3⟩ := fc
    have eI : (T.lk K).F C.init = He.ma K (He.ga K cN) "__init__" := adIn_of c1 c2
    refine ⟨He.cls_ok (ff _ (by unfold clFa; simp)), ?_, ?_, ?_, ?_⟩
    · rw [eI]
      exact He.mkr_ok (ff _ (by unfold clFa; simp))
    · intro x hx
      exact He.noat_ok (ff (.noat cN x) (by unfold clFa; simp [hx]))
    · intro p hp
      obtain ⟨m1, m2⟩ := c3 p hp
      have e : (T.lk K).F p.2 = He.ma K (He.ga K cN) p.1 := adIn_of m1 m2
      rw [e]
      exact He.meth_ok (ff (.meth cN p.1) (by unfold clFa; simp; exact ⟨_, hp⟩))
    · intro p hp
      have := List.all_eq_true.mp (List.all_eq_true.mp hprop (cN, C) (fCls cN C hc)) p hp
      unfold propB at this
      show ∃ q, PropOf K (He.ga K cN) p.1 q (adIn K T.dds p.2)
      cases q : PySem.W.findIn K (.ref (He.ga K cN)) p.1 with
      | none => rw [q] at this; cases this
      | some r =>
        rw [q] at this
        cases r with
        | none => cases this
        | some u =>
          cases u with
          | ref pa =>
            obtain ⟨z1, z2⟩ := He.ba this
            obtain ⟨z3, z4⟩ := He.ba z2
            cases qr : PySem.W.recIn K pa "property" with
            | none => rw [qr] at z4; cases z4
            | some l =>
              rw [qr] at z4
              cases l with
              | nil => cases z4
              | cons y rest =>
                cases y with
                | ref g' =>
                  have e : g' = adIn K T.dds p.2 := of_decide_eq_true z4
                  subst e
                  exact ⟨pa, q, He.eqO_ok z1, of_decide_eq_true z3, rest, qr⟩
                | _ => cases z4
          | _ => cases this
  · intro cN C hc
    exact He.glo_ok X G (fFa cN C hc (.glo cN) (by unfold clFa; simp))
  · intro x v hv
    have hm : (x, v) ∈ T.glob := by
      obtain ⟨l1, l2, e, _⟩ := List.lookup_eq_some_iff.mp hv
      have e : T.glob = l1 ++ (x, v) :: l2 := e
      rw [e]
      simp
    have := List.all_eq_true.mp hglob (x, v) hm
    unfold globB at this
    cases q : PySem.W.nsIn K mainGlobals x with
    | none => simp only [q] at this; cases this
    | some r =>
      simp only [q] at this
      cases r with
      | none => cases this
      | some u =>
        obtain ⟨v', r1, r2⟩ := relVal_ok (T.lk K) v u this
        exact ⟨v', u, PySem.W.mg_of X G q, r1, r2⟩
  · intro x hx _ _ _
    exact He.free_ok X G (fact _ (by unfold Txt.fa; simp [hx]))
  · intro x hx
    have := List.all_eq_true.mp ok.nob x hx
    simpa [Txt.pg, and_assoc] using this
  · intro cN C x g hc hp
    have hm : (x, g) ∈ C.props := by
      obtain ⟨l1, l2, e, _⟩ := List.lookup_eq_some_iff.mp hp
      rw [e]
      simp
    have := List.all_eq_true.mp (List.all_eq_true.mp ok.pr (cN, C) (fCls cN C hc)) (x, g) hm
    cases q : T.pg.fns.lookup g with
    | none => simp only [q] at this; cases this
    | some D =>
      simp only [q, Bool.and_eq_true, decide_eq_true_eq] at this
      obtain ⟨⟨p1, p2⟩, p3⟩ := this
      refine ⟨D, rfl, p1, ?_, ?_⟩
      · obtain ⟨s, hs, e⟩ := List.any_eq_true.mp p2
        have := of_decide_eq_true e
        subst this
        exact hs
      · exact Option.isSome_iff_exists.mp p3
/-- the script as the mini interpreter has it -/
def mem0 (ns : List Int) : Mem := [.rol (ns.map .int)]
theorem script_sim {L : Lk} {K : PySem.W.Frag} {H : Hp} {a : Addr} {ns : List Int} (hK : (K.all fun q => noLst q.2) = true) (hO : Only H) (hS : SqL K H a (ns.map V.int)) : Sim L K (fun n => if n = 0 then some a else none) (mem0 ns) H := by
  have hf : ∃ o, H a = some (.frz o (.lst (ns.map V.int))) := by
    rcases hS with (h | ⟨o, h⟩) | ⟨o, its, n, lk, ec, _⟩
    · rcases hO a with z | ⟨o, xs, z⟩
      · rw [h] at z; cases z
      · rw [h] at z; cases z
    · exact ⟨o, h⟩
    · exfalso
      have := List.all_eq_true.mp hK (a, o) (He.lookup_mem lk)
      unfold noLst at this
      rw [ec] at this
      simp at this
  obtain ⟨o, hf⟩ := hf
  refine ⟨?_, ?_, ?_⟩
  · intro n m b e1 e2
    by_cases h1 : n = 0
    · by_cases h2 : m = 0
      · rw [h1, h2]
      · rw [if_neg h2] at e2; cases e2
    · rw [if_neg h1] at e1; cases e1
  · intro n hn
    have : n = 0 := by
      have : n < 1 := hn
      omega
    exact ⟨a, if_pos this⟩
  · intro n b e
    by_cases h1 : n = 0
    · subst h1
      cases e
      refine ⟨_, rfl, o, _, hf, ?_⟩
      have : ∀ ns : List Int, RVs L K (fun n => if n = 0 then some a else none) H (ns.map .int) (ns.map V.int) := fun ns => by
        induction ns with
        | nil => simp only [List.map_nil]; unfold RVs; rfl
        | cons x r ih => simp only [List.map_cons]; unfold RVs; exact ⟨_, _, rfl, by unfold RV; rfl, ih⟩
      exact this ns
    · rw [if_neg h1] at e; cases e
/-- the law's promise off the mini interpreter -/
theorem law_walk {T : Txt} (ok : TxtOk T) {l : PySem.W.OpenLaw} {n dq : Nat} {q : Program} {loose : List Str} {XP : (Str → Option Value) → Heap → Prop} {dl : Dd} {d : DefRec} {x : Str}
    (hn : l.most = some n) (hn2 : n ≤ sizeLine) (hdf : d.params.defaults = []) (hr : Room (2 * (dq + 1)) callerA) (hd : d.name = ("law" : Str)) (hdl : dl ∈ T.dds) (hg : dl.g = ("law" : Str)) (hat : dl.at_ = (("law" : Str), none)) (htop : T.tops.contains "law" = true) (hps : dl.ps = [x]) (hdd : dl.dfl = []) (hkk : dl.kwd = [])
    (hbnd : BindOk dl 1 [] [.ps 0])
    (main : ∀ ns : List Int, ns.length ≤ n → ∃ h', callF T.pg (dq + 1) "law" [.ref 0] (mem0 ns) = .ok (.bl true) h') :
    PySem.W.WalkO q loose XP T.hook.says l.row.toRowW d [] (fun f vs => PySem.call f vs) := by
  refine L2.walk_ofE (l := l) (n := n) (k := 2 * (dq + 1)) (x := x) (CX := fun outer H s E u s' => ∃ w, L2.CX l.prog w outer H s E u s') hn hn2 hdf hr ?_ (fun H s e s' ⟨w, z⟩ => by
    obtain ⟨a, B, H', cls, d, _, _, _, _, _, _, _, z⟩ := z
    exact z)
  intro w mg fa h Y G hmg
  obtain ⟨K, KX, c⟩ := Y
  rw [hd] at hmg
  have pg := pg_ok ok KX G c
  have hl : T.pg.fns.lookup ("law" : Str) = some dl.fn := by
    have key : ∀ (l : List Dd), (l.map (·.g)).Nodup → dl ∈ l → (l.map fun d => (d.g, d.fn)).lookup ("law" : Str) = some dl.fn := fun l => by
      induction l with
      | nil => intro _ h; cases h
      | cons y r ih =>
        intro nd hm
        rw [List.map_cons, List.nodup_cons] at nd
        simp only [List.map_cons, List.lookup_cons]
        rcases List.mem_cons.mp hm with e | hm
        · subst e
          rw [hg]
          simp
        · have : (("law" : Str) == y.g) = false := by
            cases q : (("law" : Str) == y.g) with
            | false => rfl
            | true => exact absurd (by rw [← beq_iff_eq.mp q, ← hg]; exact List.mem_map_of_mem hm) nd.1
          rw [this]
          exact ih nd.2 hm
    exact key T.dds ok.nd hdl
  have eF : (T.lk K).F "law" = fa := by
    have := (pg.top "law" htop).symm.trans hmg
    cases this
    rfl
  obtain ⟨fd, FD⟩ := c.df dl hdl
  have eA : dl.ad K = fa := by
    rw [← eF, ← hg]
    exact (adIn_at ok.nd hdl).symm
  have hK : (K.all fun q => noLst q.2) = true := (He.ba (show ((K.all fun q => noLst q.2) && _) = true from c.ex)).1
  refine ⟨K, fd, spF (T.lk K) K 1 (callF T.pg (dq + 1) "law"), KX, ?_, ?_, ?_⟩
  · intro s u
    have FD' : FunD K dl.name dl.qual dl.params dl.body dl.sc [] [] (dl.ad K) fd := by
      have := FD
      rw [hdd, hkk] at this
      exact this
    have := FunD.bindsA (ps := dl.ps) FD' (fun kV doc pm an cdv ct us hl => by
      rw [hps] at hl
      have := ((hbnd.no hdd hkk kV doc pm an cdv ct).at_ us hl).at_ [] rfl
      match us, hl with
      | [u], _ => exact this) s [u] (by rw [hps]; rfl)
    rw [hps] at this
    exact this
  · intro H a ns hl hO hS
    obtain ⟨h', e⟩ := main ns hl
    refine ⟨rfl, _, _, [.ref 0], script_sim hK hO hS, ?_, ?_⟩
    · unfold RVs
      refine ⟨_, _, rfl, ?_, ?_⟩
      · unfold RV
        exact ⟨a, rfl, rfl⟩
      · unfold RVs
        rfl
    · rw [e]
      intro f' H' v' _ _ rv
      unfold RV at rv
      exact rv
  · intro base hb hN
    have e1 : dl.ps = dl.fn.ps := rfl
    have F1 : FunD K dl.name dl.qual dl.params dl.fn.body dl.fn.sc (dvsOf K (dl.ad K) 0 dl.dfl) (kwsOf dl.kwd) ((T.lk K).F "law") fd := by
      rw [eF, ← eA]
      exact FD
    have Fo := fnStep (P := l.prog) (w := w) (base := base) (d := dq) pg (fun g' D' h' => fnF pg dq g' D' h') hl F1
    rw [← e1, hps, eF] at Fo
    refine ⟨Fo.len, fun A outer s H args us vs Q E r1 r2 r3 r4 r5 => codeAny_mono (Fo.run A outer s H args us vs Q E r1 r2 r3 r4 r5) fun r s' hc => ?_⟩
    cases r with
    | error e => exact ⟨w, hc⟩
    | ok fl =>
      cases fl with
      | ret u => exact hc
      | next => exact hc
      | brk => exact hc
      | cont => exact hc
end Mp
set_option Elab.async false
set_option linter.all false
set_option maxRecDepth 100000
set_option maxHeartbeats 1000000
namespace Mp
open PySem
/-! ### what a run promises -/
abbrev XQ := Str → List (Str × Val) → Mem → Prop
def nX : XQ := fun _ _ _ => False
/-- an option's content -/
def optP {α : Type} (o : Option α) (P : α → Prop) : Prop := match o with
  | some a => P a
  | none => False
@[simp] theorem optP_some {α : Type} (a : α) (P : α → Prop) : optP (some a) P ↔ P a := Iff.rfl
@[simp] theorem optP_none {α : Type} (P : α → Prop) : optP (none : Option α) P ↔ False := Iff.rfl
@[simp] theorem optP_map {α β : Type} (f : α → β) (o : Option α) (P : β → Prop) : optP (o.map f) P ↔ optP o fun a => P (f a) := by cases o <;> rfl
theorem optP_of {α : Type} {o : Option α} {P : α → Prop} {a : α} (e : o = some a) (p : P a) : optP o P := by rw [e]; exact p
def Res.W {α : Type} (r : Res α) (Q : α → Mem → Prop) (X : XQ) : Prop := match r with
  | .ok a h => Q a h
  | .exc c fs h => X c fs h
  | .bad => False
section
variable {α β : Type} {Q Q' : α → Mem → Prop} {X : XQ}
@[simp] theorem W_ok (a : α) (h : Mem) : (Res.ok a h).W Q X ↔ Q a h := Iff.rfl
@[simp] theorem W_exc (c : Str) (fs : List (Str × Val)) (h : Mem) : (Res.exc c fs h : Res α).W Q X ↔ X c fs h := Iff.rfl
@[simp] theorem W_bad : (Res.bad : Res α).W Q X ↔ False := Iff.rfl
@[simp] theorem W_bind {Q : β → Mem → Prop} (r : Res α) (k : α → Mem → Res β) : (r.bind k).W Q X ↔ r.W (fun a h => (k a h).W Q X) X := by
  cases r <;> rfl
@[simp] theorem W_opt (o : Option α) (h : Mem) : (Res.opt o h).W Q X ↔ optP o fun a => Q a h := by
  cases o <;> simp [Res.opt]
@[simp] theorem W_shut (r : Res α) : r.shut.W Q X ↔ r.W Q nX := by
  cases r <;> simp [Res.shut, nX]
theorem W_ite {c : Prop} [Decidable c] (a b : Res α) : (if c then a else b).W Q X ↔ (c → a.W Q X) ∧ (¬ c → b.W Q X) := by
  by_cases h : c <;> simp [h]
theorem Res.W.imp {r : Res α} {X' : XQ} (w : r.W Q X) (i : ∀ a h, Q a h → Q' a h) (j : ∀ c fs h, X c fs h → X' c fs h) : r.W Q' X' := by
  cases r with
  | ok a h => exact i _ _ w
  | exc c fs h => exact j _ _ _ w
  | bad => exact w
theorem Res.W.mono {r : Res α} (w : r.W Q nX) (i : ∀ a h, Q a h → Q' a h) : r.W Q' X := w.imp i fun _ _ _ z => z.elim
end
theorem W_eq {α : Type} {r : Res α} {v : α} {h : Mem} (w : r.W (fun a h' => a = v ∧ h' = h) nX) : r = .ok v h := by
  cases r with
  | ok a h' => obtain ⟨rfl, rfl⟩ := w; rfl
  | exc c fs h' => exact w.elim
  | bad => exact w.elim
/-- how a suite may end -/
structure Po where
  nx : Env → Mem → Prop
  rt : Val → Mem → Prop
  bk : Env → Mem → Prop := fun _ _ => False
  ct : Env → Mem → Prop := fun _ _ => False
  xc : Env → XQ := fun _ => nX
def Fw (r : Res Fl) (P : Po) : Prop := match r with
  | .ok (.nx ρ) h => P.nx ρ h
  | .ok (.rt v) h => P.rt v h
  | .ok (.bk ρ) h => P.bk ρ h
  | .ok (.ct ρ) h => P.ct ρ h
  | .ok (.xc ρ c fs) h => P.xc ρ c fs h
  | .exc _ _ _ => False
  | .bad => False
section
variable {P : Po} {ρ : Env} {h : Mem}
@[simp] theorem Fw_nx : Fw (.ok (.nx ρ) h) P ↔ P.nx ρ h := Iff.rfl
@[simp] theorem Fw_rt (v : Val) : Fw (.ok (.rt v) h) P ↔ P.rt v h := Iff.rfl
@[simp] theorem Fw_bk : Fw (.ok (.bk ρ) h) P ↔ P.bk ρ h := Iff.rfl
@[simp] theorem Fw_ct : Fw (.ok (.ct ρ) h) P ↔ P.ct ρ h := Iff.rfl
@[simp] theorem Fw_xc (c : Str) (fs : List (Str × Val)) : Fw (.ok (.xc ρ c fs) h) P ↔ P.xc ρ c fs h := Iff.rfl
@[simp] theorem Fw_bad : Fw .bad P ↔ False := Iff.rfl
@[simp] theorem Fw_onE {α : Type} (r : Res α) (k : α → Mem → Res Fl) : Fw (onE r ρ k) P ↔ r.W (fun v h => Fw (k v h) P) (P.xc ρ) := by
  cases r <;> rfl
@[simp] theorem Fw_then (r : Res Fl) (k : Env → Mem → Res Fl) : Fw (thenF r k) P ↔ Fw r { P with nx := fun ρ h => Fw (k ρ h) P } := by
  cases r with
  | ok f h => cases f <;> rfl
  | _ => rfl
theorem Fw_ite {c : Prop} [Decidable c] (a b : Res Fl) : Fw (if c then a else b) P ↔ (c → Fw a P) ∧ (¬ c → Fw b P) := by
  by_cases h : c <;> simp [h]
theorem Fw.imp {r : Res Fl} {P' : Po} (w : Fw r P) (i1 : ∀ ρ h, P.nx ρ h → P'.nx ρ h) (i2 : ∀ v h, P.rt v h → P'.rt v h) (i3 : ∀ ρ h, P.bk ρ h → P'.bk ρ h) (i4 : ∀ ρ h, P.ct ρ h → P'.ct ρ h) (i5 : ∀ ρ c fs h, P.xc ρ c fs h → P'.xc ρ c fs h) : Fw r P' := by
  cases r with
  | ok f h =>
    cases f with
    | nx ρ => exact i1 _ _ w
    | rt v => exact i2 _ _ w
    | bk ρ => exact i3 _ _ w
    | ct ρ => exact i4 _ _ w
    | xc ρ c fs => exact i5 _ _ _ _ w
  | _ => exact w
theorem W_fin {Q : Val → Mem → Prop} {X : XQ} (r : Res Fl) : (fin r).W Q X ↔ Fw r ⟨fun _ h => Q .non h, Q, fun _ _ => False, fun _ _ => False, fun _ => X⟩ := by
  cases r with
  | ok f h => cases f <;> rfl
  | _ => rfl
end
/-! ### turns -/
section
variable {w : Wk} {t : Tg} {body els : MS} {P : Po}
/-- a for: I holds ahead of turn i -/
theorem for_wk (n : Nat) (I : Nat → Env → Mem → Prop)
    (turn : ∀ i ρ h, i < n → I i ρ h → ∃ v ρ1, w.at_ i h = some (some v) ∧ put1 t v ρ = some ρ1 ∧ Fw (body ρ1 h) ⟨I (i + 1), P.rt, P.nx, I (i + 1), P.xc⟩)
    (stop : ∀ ρ h, I n ρ h → w.at_ n h = some none ∧ Fw (els ρ h) P) : ∀ (k i fuel : Nat) (ρ : Env) (h : Mem), n - i = k → i ≤ n → n - i ≤ fuel → I i ρ h → Fw (forF w t body els fuel i ρ h) P := by
  intro k
  induction k with
  | zero =>
    intro i fuel ρ h hk hi hf hI
    have e : i = n := by omega
    subst e
    obtain ⟨e1, e2⟩ := stop ρ h hI
    unfold forF
    rw [e1]
    exact e2
  | succ k ih =>
    intro i fuel ρ h hk hi hf hI
    obtain ⟨v, ρ1, e1, e2, e3⟩ := turn i ρ h (by omega) hI
    unfold forF
    rw [e1]
    cases fuel with
    | zero => omega
    | succ fuel =>
      simp only [e2]
      cases e : body ρ1 h with
      | ok f h2 =>
        rw [e] at e3
        cases f with
        | nx ρ2 => exact ih (i + 1) fuel ρ2 h2 (by omega) (by omega) (by omega) e3
        | ct ρ2 => exact ih (i + 1) fuel ρ2 h2 (by omega) (by omega) (by omega) e3
        | bk ρ2 => exact e3
        | rt v => exact e3
        | xc ρ c fs => exact e3
      | exc c fs h2 => rw [e] at e3; exact e3
      | bad => rw [e] at e3; exact e3
/-- for k in range(n) -/
theorem for_rng {j : Nat} {lo : Int} {n : Nat} {ρ : Env} {h : Mem} (I : Nat → Env → Mem → Prop) (h0 : I 0 ρ h)
    (turn : ∀ i ρ h, i < n → I i ρ h → Fw (body (ρ.set j (some (.int (lo + i)))) h) ⟨I (i + 1), P.rt, P.nx, I (i + 1), P.xc⟩)
    (stop : ∀ ρ h, I n ρ h → Fw (els ρ h) P) : Fw (forF (wkR lo n) (.nm j) body els (wkR lo n).fuel 0 ρ h) P := by
  refine for_wk n I (fun i ρ h hi hI => ⟨_, _, by simp [wkR, hi], rfl, turn i ρ h hi hI⟩) (fun ρ h hI => ⟨by simp [wkR], stop ρ h hI⟩) n 0 _ ρ h rfl (Nat.zero_le _) (Nat.le_refl _) h0
/-- for x in a list that keeps its items -/
theorem for_lst {j a : Nat} {xs : List Val} {ρ : Env} {h : Mem} (I : Nat → Env → Mem → Prop) (h0 : I 0 ρ h) (keep : ∀ i ρ h, i ≤ xs.length → I i ρ h → h[a]? = some (.lst xs))
    (turn : ∀ i x ρ h, xs[i]? = some x → I i ρ h → Fw (body (ρ.set j (some x)) h) ⟨I (i + 1), P.rt, P.nx, I (i + 1), P.xc⟩)
    (stop : ∀ ρ h, I xs.length ρ h → Fw (els ρ h) P) : Fw (forF (wkL a xs.length) (.nm j) body els (wkL a xs.length).fuel 0 ρ h) P := by
  refine for_wk xs.length I (fun i ρ h hi hI => ⟨xs[i], _, by simp [wkL, keep i ρ h (by omega) hI, hi], rfl, turn i _ ρ h (by simp [hi]) hI⟩) (fun ρ h hI => ⟨by simp [wkL, keep _ ρ h (Nat.le_refl _) hI], stop ρ h hI⟩) xs.length 0 _ ρ h rfl (Nat.zero_le _) (Nat.le_refl _) h0
theorem for_rol {j a : Nat} {xs : List Val} {ρ : Env} {h : Mem} (I : Nat → Env → Mem → Prop) (h0 : I 0 ρ h) (keep : ∀ i ρ h, i ≤ xs.length → I i ρ h → h[a]? = some (.rol xs))
    (turn : ∀ i x ρ h, xs[i]? = some x → I i ρ h → Fw (body (ρ.set j (some x)) h) ⟨I (i + 1), P.rt, P.nx, I (i + 1), P.xc⟩)
    (stop : ∀ ρ h, I xs.length ρ h → Fw (els ρ h) P) : Fw (forF (wkL a xs.length) (.nm j) body els (wkL a xs.length).fuel 0 ρ h) P := by
  refine for_wk xs.length I (fun i ρ h hi hI => ⟨xs[i], _, by simp [wkL, keep i ρ h (by omega) hI, hi], rfl, turn i _ ρ h (by simp [hi]) hI⟩) (fun ρ h hI => ⟨by simp [wkL, keep _ ρ h (Nat.le_refl _) hI], stop ρ h hI⟩) xs.length 0 _ ρ h rfl (Nat.zero_le _) (Nat.le_refl _) h0
/-- for i, x in enumerate(a list that keeps its items) -/
theorem for_enum {j k a : Nat} {xs : List Val} {ρ : Env} {h : Mem} (I : Nat → Env → Mem → Prop) (h0 : I 0 ρ h) (keep : ∀ i ρ h, i ≤ xs.length → I i ρ h → h[a]? = some (.lst xs))
    (turn : ∀ i x ρ h, xs[i]? = some x → I i ρ h → Fw (body ((ρ.set j (some (.int i))).set k (some x)) h) ⟨I (i + 1), P.rt, P.nx, I (i + 1), P.xc⟩)
    (stop : ∀ ρ h, I xs.length ρ h → Fw (els ρ h) P) : Fw (forF (wkE (wkL a xs.length)) (.tp [.nm j, .nm k]) body els (wkE (wkL a xs.length)).fuel 0 ρ h) P := by
  refine for_wk xs.length I (fun i ρ h hi hI => ⟨.tup [.int i, xs[i]], _, by simp [wkE, wkL, keep i ρ h (by omega) hI, hi], rfl, turn i _ ρ h (by simp [hi]) hI⟩) (fun ρ h hI => ⟨by simp [wkE, wkL, keep _ ρ h (Nat.le_refl _) hI], stop ρ h hI⟩) xs.length 0 _ ρ h rfl (Nat.zero_le _) (Nat.le_refl _) h0
/-- for x in a tuple -/
theorem for_tup {j : Nat} {xs : List Val} {ρ : Env} {h : Mem} (I : Nat → Env → Mem → Prop) (h0 : I 0 ρ h)
    (turn : ∀ i x ρ h, xs[i]? = some x → I i ρ h → Fw (body (ρ.set j (some x)) h) ⟨I (i + 1), P.rt, P.nx, I (i + 1), P.xc⟩)
    (stop : ∀ ρ h, I xs.length ρ h → Fw (els ρ h) P) : Fw (forF (wkT xs) (.nm j) body els (wkT xs).fuel 0 ρ h) P := by
  refine for_wk xs.length I (fun i ρ h hi hI => ⟨xs[i], _, by simp [wkT, hi], rfl, turn i _ ρ h (by simp [hi]) hI⟩) (fun ρ h hI => ⟨by simp [wkT], stop ρ h hI⟩) xs.length 0 _ ρ h rfl (Nat.zero_le _) (Nat.le_refl _) h0
/-- a comprehension -/
theorem lc_wk {c : MT} {elt : ME} {ρ : Env} {Q : List Val → Mem → Prop} (n : Nat) (I : Nat → List Val → Mem → Prop)
    (turn : ∀ i acc h, i < n → I i acc h → ∃ v ρ1, w.at_ i h = some (some v) ∧ put1 t v ρ = some ρ1 ∧ (c ρ1 h).W (fun k h2 => if k = true then (elt ρ1 h2).W (fun y h3 => acc.length < sizeLine ∧ I (i + 1) (acc ++ [y]) h3) nX else I (i + 1) acc h2) nX)
    (stop : ∀ acc h, I n acc h → w.at_ n h = some none ∧ Q acc h) {X : XQ} : ∀ (k i fuel : Nat) (acc : List Val) (h : Mem), n - i = k → i ≤ n → n - i ≤ fuel → I i acc h → (lcF w t c elt ρ fuel i acc h).W Q X := by
  intro k
  induction k with
  | zero =>
    intro i fuel acc h hk hi hf hI
    have e : i = n := by omega
    subst e
    obtain ⟨e1, e2⟩ := stop acc h hI
    unfold lcF
    rw [e1]
    exact e2
  | succ k ih =>
    intro i fuel acc h hk hi hf hI
    obtain ⟨v, ρ1, e1, e2, e3⟩ := turn i acc h (by omega) hI
    unfold lcF
    rw [e1]
    cases fuel with
    | zero => omega
    | succ fuel =>
      simp only [e2]
      cases e : c ρ1 h with
      | ok b h2 =>
        rw [e] at e3
        cases b with
        | false => exact ih (i + 1) fuel acc h2 (by omega) (by omega) (by omega) (by simpa using e3)
        | true =>
          have e3 : (elt ρ1 h2).W (fun y h3 => acc.length < sizeLine ∧ I (i + 1) (acc ++ [y]) h3) nX := by simpa using e3
          cases e4 : elt ρ1 h2 with
          | ok y h3 =>
            rw [e4] at e3
            simp only [e4]
            rw [if_pos e3.1]
            exact ih (i + 1) fuel _ h3 (by omega) (by omega) (by omega) e3.2
          | exc c fs h3 => rw [e4] at e3; exact (show False from e3).elim
          | bad => rw [e4] at e3; exact (show False from e3).elim
      | exc c fs h2 => rw [e] at e3; exact e3.elim
      | bad => rw [e] at e3; exact e3.elim
theorem lc_rng {j : Nat} {lo : Int} {n : Nat} {c : MT} {elt : ME} {ρ : Env} {h : Mem} {Q : List Val → Mem → Prop} {X : XQ} (I : Nat → List Val → Mem → Prop) (h0 : I 0 [] h)
    (turn : ∀ i acc h, i < n → I i acc h → (c (ρ.set j (some (.int (lo + i)))) h).W (fun k h2 => if k = true then (elt (ρ.set j (some (.int (lo + i)))) h2).W (fun y h3 => acc.length < sizeLine ∧ I (i + 1) (acc ++ [y]) h3) nX else I (i + 1) acc h2) nX)
    (stop : ∀ acc h, I n acc h → Q acc h) : (lcF (wkR lo n) (.nm j) c elt ρ (wkR lo n).fuel 0 [] h).W Q X :=
  lc_wk n I (fun i acc h hi hI => ⟨_, _, by simp [wkR, hi], rfl, turn i acc h hi hI⟩) (fun acc h hI => ⟨by simp [wkR], stop acc h hI⟩) n 0 _ [] h rfl (Nat.zero_le _) (Nat.le_refl _) h0
theorem lc_lst {j a : Nat} {xs : List Val} {c : MT} {elt : ME} {ρ : Env} {h : Mem} {Q : List Val → Mem → Prop} {X : XQ} (I : Nat → List Val → Mem → Prop) (h0 : I 0 [] h) (keep : ∀ i acc h, i ≤ xs.length → I i acc h → h[a]? = some (.lst xs))
    (turn : ∀ i x acc h, xs[i]? = some x → I i acc h → (c (ρ.set j (some x)) h).W (fun k h2 => if k = true then (elt (ρ.set j (some x)) h2).W (fun y h3 => acc.length < sizeLine ∧ I (i + 1) (acc ++ [y]) h3) nX else I (i + 1) acc h2) nX)
    (stop : ∀ acc h, I xs.length acc h → Q acc h) : (lcF (wkL a xs.length) (.nm j) c elt ρ (wkL a xs.length).fuel 0 [] h).W Q X :=
  lc_wk xs.length I (fun i acc h hi hI => ⟨xs[i], _, by simp [wkL, keep i acc h (by omega) hI, hi], rfl, turn i _ acc h (by simp [hi]) hI⟩) (fun acc h hI => ⟨by simp [wkL, keep _ acc h (Nat.le_refl _) hI], stop acc h hI⟩) xs.length 0 _ [] h rfl (Nat.zero_le _) (Nat.le_refl _) h0
theorem lc_enum {j k a : Nat} {xs : List Val} {c : MT} {elt : ME} {ρ : Env} {h : Mem} {Q : List Val → Mem → Prop} {X : XQ} (I : Nat → List Val → Mem → Prop) (h0 : I 0 [] h) (keep : ∀ i acc h, i ≤ xs.length → I i acc h → h[a]? = some (.lst xs))
    (turn : ∀ i x acc h, xs[i]? = some x → I i acc h → (c ((ρ.set j (some (.int i))).set k (some x)) h).W (fun b h2 => if b = true then (elt ((ρ.set j (some (.int i))).set k (some x)) h2).W (fun y h3 => acc.length < sizeLine ∧ I (i + 1) (acc ++ [y]) h3) nX else I (i + 1) acc h2) nX)
    (stop : ∀ acc h, I xs.length acc h → Q acc h) : (lcF (wkE (wkL a xs.length)) (.tp [.nm j, .nm k]) c elt ρ (wkE (wkL a xs.length)).fuel 0 [] h).W Q X :=
  lc_wk xs.length I (fun i acc h hi hI => ⟨.tup [.int i, xs[i]], _, by simp [wkE, wkL, keep i acc h (by omega) hI, hi], rfl, turn i _ acc h (by simp [hi]) hI⟩) (fun acc h hI => ⟨by simp [wkE, wkL, keep _ acc h (Nat.le_refl _) hI], stop acc h hI⟩) xs.length 0 _ [] h rfl (Nat.zero_le _) (Nat.le_refl _) h0
theorem lc_tup {j : Nat} {xs : List Val} {c : MT} {elt : ME} {ρ : Env} {h : Mem} {Q : List Val → Mem → Prop} {X : XQ} (I : Nat → List Val → Mem → Prop) (h0 : I 0 [] h)
    (turn : ∀ i x acc h, xs[i]? = some x → I i acc h → (c (ρ.set j (some x)) h).W (fun k h2 => if k = true then (elt (ρ.set j (some x)) h2).W (fun y h3 => acc.length < sizeLine ∧ I (i + 1) (acc ++ [y]) h3) nX else I (i + 1) acc h2) nX)
    (stop : ∀ acc h, I xs.length acc h → Q acc h) : (lcF (wkT xs) (.nm j) c elt ρ (wkT xs).fuel 0 [] h).W Q X :=
  lc_wk xs.length I (fun i acc h hi hI => ⟨xs[i], _, by simp [wkT, hi], rfl, turn i _ acc h (by simp [hi]) hI⟩) (fun acc h hI => ⟨by simp [wkT], stop acc h hI⟩) xs.length 0 _ [] h rfl (Nat.zero_le _) (Nat.le_refl _) h0
/-- the keys of a locked dict -/
theorem lc_key {j a : Nat} {kvs : List (L2.Key × Val)} {c : MT} {elt : ME} {ρ : Env} {h : Mem} {Q : List Val → Mem → Prop} {X : XQ} (I : Nat → List Val → Mem → Prop) (h0 : I 0 [] h) (keep : ∀ i acc h, i ≤ kvs.length → I i acc h → h[a]? = some (.frd kvs))
    (turn : ∀ i kv acc h, kvs[i]? = some kv → I i acc h → (c (ρ.set j (some (keyV kv.1))) h).W (fun k h2 => if k = true then (elt (ρ.set j (some (keyV kv.1))) h2).W (fun y h3 => acc.length < sizeLine ∧ I (i + 1) (acc ++ [y]) h3) nX else I (i + 1) acc h2) nX)
    (stop : ∀ acc h, I kvs.length acc h → Q acc h) : (lcF (wkK a kvs.length) (.nm j) c elt ρ (wkK a kvs.length).fuel 0 [] h).W Q X :=
  lc_wk kvs.length I (fun i acc h hi hI => ⟨keyV kvs[i].1, _, by simp [wkK, keep i acc h (by omega) hI, hi], rfl, turn i _ acc h (by simp [hi]) hI⟩) (fun acc h hI => ⟨by simp [wkK, keep _ acc h (Nat.le_refl _) hI], stop acc h hI⟩) kvs.length 0 _ [] h rfl (Nat.zero_le _) (Nat.le_refl _) h0
/-- a dict comprehension -/
theorem dc_wk {c : MT} {ek ev : ME} {ρ : Env} {Q : List (L2.Key × Val) → Mem → Prop} (n : Nat) (I : Nat → List (L2.Key × Val) → Mem → Prop)
    (turn : ∀ i acc h, i < n → I i acc h → ∃ v ρ1, w.at_ i h = some (some v) ∧ put1 t v ρ = some ρ1 ∧ (c ρ1 h).W (fun k h2 => if k = true then (ek ρ1 h2).W (fun y h3 => (ev ρ1 h3).W (fun z h4 => ∃ kk, keyOf y = some kk ∧ acc.length < sizeLine ∧ I (i + 1) (dPut acc kk z) h4) nX) nX else I (i + 1) acc h2) nX)
    (stop : ∀ acc h, I n acc h → w.at_ n h = some none ∧ Q acc h) {X : XQ} : ∀ (k i fuel : Nat) (acc : List (L2.Key × Val)) (h : Mem), n - i = k → i ≤ n → n - i ≤ fuel → I i acc h → (dcF w t c ek ev ρ fuel i acc h).W Q X := by
  intro k
  induction k with
  | zero =>
    intro i fuel acc h hk hi hf hI
    have e : i = n := by omega
    subst e
    obtain ⟨e1, e2⟩ := stop acc h hI
    unfold dcF
    rw [e1]
    exact e2
  | succ k ih =>
    intro i fuel acc h hk hi hf hI
    obtain ⟨v, ρ1, e1, e2, e3⟩ := turn i acc h (by omega) hI
    unfold dcF
    rw [e1]
    cases fuel with
    | zero => omega
    | succ fuel =>
      simp only [e2]
      cases e : c ρ1 h with
      | ok b h2 =>
        rw [e] at e3
        cases b with
        | false => exact ih (i + 1) fuel acc h2 (by omega) (by omega) (by omega) (by simpa using e3)
        | true =>
          have e3 : (ek ρ1 h2).W (fun y h3 => (ev ρ1 h3).W (fun z h4 => ∃ kk, keyOf y = some kk ∧ acc.length < sizeLine ∧ I (i + 1) (dPut acc kk z) h4) nX) nX := by simpa using e3
          cases e4 : ek ρ1 h2 with
          | ok y h3 =>
            rw [e4] at e3
            simp only [e4]
            have e3 : (ev ρ1 h3).W (fun z h4 => ∃ kk, keyOf y = some kk ∧ acc.length < sizeLine ∧ I (i + 1) (dPut acc kk z) h4) nX := e3
            cases e5 : ev ρ1 h3 with
            | ok z h4 =>
              rw [e5] at e3
              simp only [e5]
              obtain ⟨kk, q1, q2, q3⟩ := e3
              simp only [q1]
              rw [if_pos q2]
              exact ih (i + 1) fuel _ h4 (by omega) (by omega) (by omega) q3
            | exc c fs h4 => rw [e5] at e3; exact (show False from e3).elim
            | bad => rw [e5] at e3; exact (show False from e3).elim
          | exc c fs h3 => rw [e4] at e3; exact (show False from e3).elim
          | bad => rw [e4] at e3; exact (show False from e3).elim
      | exc c fs h2 => rw [e] at e3; exact e3.elim
      | bad => rw [e] at e3; exact e3.elim
/-- {..: .. for x, y in a list of pairs} -/
theorem dc_pair {j k a : Nat} {xs : List (Val × Val)} {c : MT} {ek ev : ME} {ρ : Env} {h : Mem} {Q : List (L2.Key × Val) → Mem → Prop} {X : XQ} (I : Nat → List (L2.Key × Val) → Mem → Prop) (h0 : I 0 [] h) (keep : ∀ i acc h, i ≤ xs.length → I i acc h → h[a]? = some (.lst (xs.map fun p => .tup [p.1, p.2])))
    (turn : ∀ i p acc h, xs[i]? = some p → I i acc h → (c ((ρ.set j (some p.1)).set k (some p.2)) h).W (fun b h2 => if b = true then (ek ((ρ.set j (some p.1)).set k (some p.2)) h2).W (fun y h3 => (ev ((ρ.set j (some p.1)).set k (some p.2)) h3).W (fun z h4 => ∃ kk, keyOf y = some kk ∧ acc.length < sizeLine ∧ I (i + 1) (dPut acc kk z) h4) nX) nX else I (i + 1) acc h2) nX)
    (stop : ∀ acc h, I xs.length acc h → Q acc h) : (dcF (wkL a xs.length) (.tp [.nm j, .nm k]) c ek ev ρ (wkL a xs.length).fuel 0 [] h).W Q X :=
  dc_wk xs.length I (fun i acc h hi hI => ⟨.tup [xs[i].1, xs[i].2], _, by simp [wkL, keep i acc h (by omega) hI, hi], rfl, turn i xs[i] acc h (by simp [hi]) hI⟩) (fun acc h hI => ⟨by simp [wkL, keep _ acc h (Nat.le_refl _) hI], stop acc h hI⟩) xs.length 0 _ [] h rfl (Nat.zero_le _) (Nat.le_refl _) h0
end
/-! ### memories -/
/-- h' is a later memory: the objects out of S are as they were -/
structure Fr (S : List Nat) (h h' : Mem) : Prop where
  len : h.length ≤ h'.length
  keep : ∀ n, n < h.length → n ∉ S → h'[n]? = h[n]?
theorem lt_of_get {h : Mem} {n : Nat} {o : Ob} (e : h[n]? = some o) : n < h.length := (List.getElem?_eq_some_iff.mp e).1
theorem Fr.refl (S : List Nat) (h : Mem) : Fr S h h := ⟨Nat.le_refl _, fun _ _ _ => rfl⟩
theorem Fr.get {S : List Nat} {h h' : Mem} (f : Fr S h h') {n : Nat} {o : Ob} (e : h[n]? = some o) (hn : n ∉ S) : h'[n]? = some o := by
  rw [f.keep n (lt_of_get e) hn, e]
theorem Fr.mono {S S' : List Nat} {h h' : Mem} (f : Fr S h h') (i : ∀ n, n < h.length → n ∈ S → n ∈ S') : Fr S' h h' := ⟨f.len, fun n hn hS => f.keep n hn fun z => hS (i n hn z)⟩
theorem Fr.trans {S : List Nat} {h h' h'' : Mem} (f : Fr S h h') (g : Fr S h' h'') : Fr S h h'' := ⟨Nat.le_trans f.len g.len, fun n hn hS => (g.keep n (Nat.lt_of_lt_of_le hn f.len) hS).trans (f.keep n hn hS)⟩
/-- objects made since h may change too -/
theorem Fr.trans' {S S2 : List Nat} {h h' h'' : Mem} (f : Fr S h h') (g : Fr S2 h' h'') (i : ∀ n, n ∈ S2 → n < h.length → n ∈ S) : Fr S h h'' := ⟨Nat.le_trans f.len g.len, fun n hn hS => (g.keep n (Nat.lt_of_lt_of_le hn f.len) fun z => hS (i n z hn)).trans (f.keep n hn hS)⟩
theorem Fr.app (S : List Nat) (h l : Mem) : Fr S h (h ++ l) := ⟨by simp, fun n hn _ => List.getElem?_append_left hn⟩
theorem Fr.set (h : Mem) (a : Nat) (o : Ob) : Fr [a] h (h.set a o) := ⟨by simp, fun n hn hS => List.getElem?_set_ne fun e => hS (by simp [e])⟩
theorem get_app {h : Mem} {n : Nat} {o : Ob} (l : Mem) (e : h[n]? = some o) : (h ++ l)[n]? = some o := by
  rw [List.getElem?_append_left (lt_of_get e), e]
theorem get_new (h : Mem) (o : Ob) : (h ++ [o])[h.length]? = some o := by simp
theorem get_set {h : Mem} {a : Nat} {o o' : Ob} (e : h[a]? = some o') : (h.set a o)[a]? = some o := by
  simp [List.getElem?_set, lt_of_get e]
theorem get_set_ne {h : Mem} {a b : Nat} {o o' : Ob} (e : h[b]? = some o') (ne : a ≠ b) : (h.set a o)[b]? = some o' := by
  rw [List.getElem?_set_ne ne, e]
end Mp
set_option Elab.async false
set_option linter.all false
set_option maxRecDepth 100000
set_option maxHeartbeats 1000000
namespace Mp
open PySem L2 PySem.W
/-! ### the combinators, read as promises -/
section
variable {α : Type} {Q : Val → Mem → Prop} {B : Bool → Mem → Prop} {R : List Val → Mem → Prop} {X : XQ} {P : Po} {ρ : Env} {h : Mem}
@[simp] theorem W_ite_bad {Q : α → Mem → Prop} {c : Prop} [Decidable c] (r : Res α) : (if c then r else .bad).W Q X ↔ c ∧ r.W Q X := by
  by_cases h : c <;> simp [h]
@[simp] theorem Fw_ite_bad {c : Prop} [Decidable c] (r : Res Fl) : Fw (if c then r else .bad) P ↔ c ∧ Fw r P := by
  by_cases h : c <;> simp [h]
@[simp] theorem w_eC (v : Val) : (eC v ρ h).W Q X ↔ Q v h := Iff.rfl
@[simp] theorem w_eVar (i : Nat) : (eVar i ρ h).W Q X ↔ optP ρ[i]? fun o => optP o fun v => Q v h := by
  unfold eVar
  rcases e : ρ[i]? with _ | _ | v <;> simp
@[simp] theorem w_e1 (f : Val → Mem → Res Val) (a : ME) : (e1 f a ρ h).W Q X ↔ (a ρ h).W (fun x h => (f x h).W Q X) X := by simp [e1]
@[simp] theorem w_e2 (f : Val → Val → Mem → Res Val) (a b : ME) : (e2 f a b ρ h).W Q X ↔ (a ρ h).W (fun x h => (b ρ h).W (fun y h => (f x y h).W Q X) X) X := by simp [e2]
@[simp] theorem w_eBin (op : Operator) (a b : ME) : (eBin op a b ρ h).W Q X ↔ (a ρ h).W (fun x h => (b ρ h).W (fun y h => (binop op x y h).W Q X) X) X := by simp [eBin]
@[simp] theorem w_eCmp (op : CmpOp) (a b : ME) : (eCmp op a b ρ h).W Q X ↔ (a ρ h).W (fun x h => (b ρ h).W (fun y h => optP (cmpop op h x y) fun k => Q (.bl k) h) X) X := by simp [eCmp, cmpR]
@[simp] theorem w_eNeg (a : ME) : (eNeg a ρ h).W Q X ↔ (a ρ h).W (fun x h => ∃ i, x = .int i ∧ Q (.int (-i)) h) X := by
  simp only [eNeg, w_e1]
  refine iff_of_eq (congrArg (fun z => (a ρ h).W z X) (funext fun x => funext fun h => propext ?_))
  cases x <;> simp [negV]
@[simp] theorem w_eNot (a : ME) : (eNot a ρ h).W Q X ↔ (a ρ h).W (fun x h => optP (truthy h x) fun k => Q (.bl (!k)) h) X := by simp [eNot]
@[simp] theorem w_eAnd (a b : ME) : (eAnd a b ρ h).W Q X ↔ (a ρ h).W (fun x h => optP (truthy h x) fun k => (k = true → (b ρ h).W Q X) ∧ (k = false → Q x h)) X := by
  simp [eAnd, W_ite]
@[simp] theorem w_eOr (a b : ME) : (eOr a b ρ h).W Q X ↔ (a ρ h).W (fun x h => optP (truthy h x) fun k => (k = true → Q x h) ∧ (k = false → (b ρ h).W Q X)) X := by
  simp [eOr, W_ite]
@[simp] theorem w_eIf (c : MT) (a b : ME) : (eIf c a b ρ h).W Q X ↔ (c ρ h).W (fun k h => (k = true → (a ρ h).W Q X) ∧ (k = false → (b ρ h).W Q X)) X := by
  simp [eIf, W_ite]
@[simp] theorem w_aNil : (aNil ρ h).W R X ↔ R [] h := Iff.rfl
@[simp] theorem w_aCons (a : ME) (r : MA) : (aCons a r ρ h).W R X ↔ (a ρ h).W (fun x h => (r ρ h).W (fun xs h => R (x :: xs) h) X) X := by simp [aCons]
@[simp] theorem w_eTup (as : MA) : (eTup as ρ h).W Q X ↔ (as ρ h).W (fun xs h => xs.length ≤ sizeLine ∧ Q (.tup xs) h) X := by simp [eTup]
@[simp] theorem w_newL (xs : List Val) : (newL xs h).W Q X ↔ xs.length ≤ sizeLine ∧ Q (.ref h.length) (h ++ [.lst xs]) := by simp [newL]
@[simp] theorem w_eLst (as : MA) : (eLst as ρ h).W Q X ↔ (as ρ h).W (fun xs h => xs.length ≤ sizeLine ∧ Q (.ref h.length) (h ++ [.lst xs])) X := by simp [eLst]
@[simp] theorem w_eIdx (a b : ME) : (eIdx a b ρ h).W Q X ↔ (a ρ h).W (fun x h => (b ρ h).W (fun y h => optP (idx h x y) fun v => Q v h) X) X := by simp [eIdx]
@[simp] theorem w_tE (a : ME) : (tE a ρ h).W B X ↔ (a ρ h).W (fun x h => optP (truthy h x) fun k => B k h) X := by simp [tE]
@[simp] theorem w_tNot (a : MT) : (tNot a ρ h).W B X ↔ (a ρ h).W (fun k h => B (!k) h) X := by simp [tNot]
@[simp] theorem w_tAnd (a b : MT) : (tAnd a b ρ h).W B X ↔ (a ρ h).W (fun k h => (k = true → (b ρ h).W B X) ∧ (k = false → B false h)) X := by simp [tAnd, W_ite]
@[simp] theorem w_tOr (a b : MT) : (tOr a b ρ h).W B X ↔ (a ρ h).W (fun k h => (k = true → B true h) ∧ (k = false → (b ρ h).W B X)) X := by simp [tOr, W_ite]
@[simp] theorem w_tYes : (tYesM ρ h).W B X ↔ B true h := Iff.rfl
@[simp] theorem w_eCall (m : List Val → Mem → Res Val) (as : MA) : (eCall m as ρ h).W Q X ↔ (as ρ h).W (fun vs h => (m vs h).W Q X) X := by simp [eCall]
@[simp] theorem w_eCallS (m : List Val → Mem → Res Val) (sel : List Src) (as ks : MA) : (eCallS m sel as ks ρ h).W Q X ↔ (as ρ h).W (fun us h => (ks ρ h).W (fun ws h => optP (selV us ws sel) fun vs => (m vs h).W Q X) X) X := by simp [eCallS]
theorem w_dropNon (r : Res Val) (v : Val) : (dropNon r v).W Q X ↔ r.W (fun u h => u = .non ∧ Q v h) X := by
  cases r with
  | ok a h => cases a <;> simp [dropNon]
  | _ => simp [dropNon]
@[simp] theorem w_eMake (m : List Val → Mem → Res Val) (c : Str) (sel : List Src) (as ks : MA) : (eMake m c sel as ks ρ h).W Q X ↔ (as ρ h).W (fun us h => (ks ρ h).W (fun ws h => optP (selV (.ref h.length :: us) ws sel) fun vs => (m vs (h ++ [.ins c []])).W (fun u h2 => u = .non ∧ Q (.ref h.length) h2) X) X) X := by
  simp only [eMake, W_bind]
  refine iff_of_eq (congrArg (fun z => (as ρ h).W z X) (funext fun us => funext fun h1 => congrArg (fun z => (ks ρ h1).W z X) (funext fun ws => funext fun h2 => propext ?_)))
  unfold mkI
  cases e : selV (.ref h2.length :: us) ws sel with
  | none => simp
  | some vs => simp [w_dropNon]
@[simp] theorem w_eBi (b : Bi) (as : MA) : (eBi b as ρ h).W Q X ↔ (as ρ h).W (fun vs h => (biRun b vs h).W Q X) X := by simp [eBi]
@[simp] theorem w_eIsi (Ts : List String) (a : ME) : (eIsi Ts a ρ h).W Q X ↔ (a ρ h).W (fun v h => optP (tyOf h v) fun t => Q (.bl (Ts.any (subTy t))) h) X := by
  simp only [eIsi, w_e1]
  refine iff_of_eq (congrArg (fun z => (a ρ h).W z X) (funext fun x => funext fun h => propext ?_))
  unfold isiV
  cases tyOf h x <;> simp
@[simp] theorem w_eRev (a : ME) : (eRev a ρ h).W Q X ↔ (a ρ h).W (fun v h => optP (lstOf h v) fun xs => (newL xs.reverse h).W Q X) X := by simp [eRev]
@[simp] theorem w_eLenSet (a : ME) : (eLenSet a ρ h).W Q X ↔ (a ρ h).W (fun v h => optP ((lstOf h v).bind intsOf) fun ns => (if ns.length ≤ 4000 then (Res.ok (Val.int (lenSet ns)) h : Res Val) else .bad).W Q X) X := by simp [eLenSet]
@[simp] theorem w_eSortSet (a : ME) : (eSortSet a ρ h).W Q X ↔ (a ρ h).W (fun v h => optP ((lstOf h v).bind intsOf) fun ns => (if ns.length ≤ 4000 then newL ((srtSet ns).map .int) h else .bad).W Q X) X := by simp [eSortSet]
@[simp] theorem w_eSlice (a : ME) (lo hi : MO) : (eSlice a lo hi ρ h).W Q X ↔ (a ρ h).W (fun v h => (lo ρ h).W (fun l h => (hi ρ h).W (fun u h => (sliceV v l u h).W Q X) X) X) X := by simp [eSlice]
@[simp] theorem w_oNone {O : Option Int → Mem → Prop} : (oNone ρ h).W O X ↔ O none h := Iff.rfl
@[simp] theorem w_oSome {O : Option Int → Mem → Prop} (e : ME) : (oSome e ρ h).W O X ↔ (e ρ h).W (fun v h => ∃ i, v = .int i ∧ O (some i) h) X := by
  simp only [oSome, W_bind]
  refine iff_of_eq (congrArg (fun z => (e ρ h).W z X) (funext fun x => funext fun h => propext ?_))
  cases x <;> simp
@[simp] theorem w_eLc (vs : List Nat) (t : Tg) (it : MI) (c : MT) (elt : ME) : (eLc vs t it c elt ρ h).W Q X ↔ (it ρ h).W (fun w h => (lcF w t c elt (wipeE ρ vs) w.fuel 0 [] h).W (fun xs h => xs.length ≤ sizeLine ∧ Q (.ref h.length) (h ++ [.lst xs])) X) X := by simp [eLc]
@[simp] theorem dicAt_eq (i : Nat) : dicAt ρ h i = match ρ[i]? with
  | some (some (.ref n)) => (match h[n]? with
    | some (.dic kvs) => some (n, kvs)
    | _ => none)
  | _ => none := rfl
theorem w_unlk (n : Nat) (r : Res Val) : (unlk n r).W Q X ↔ r.W (fun v h => ∃ kvs, h[n]? = some (.frd kvs) ∧ Q v (h.set n (.dic kvs))) nX := by
  cases r with
  | ok v h =>
    simp only [unlk, W_ok]
    cases e : h[n]? with
    | none => simp
    | some o => cases o <;> simp
  | exc c fs h => simp [unlk, nX]
  | bad => simp [unlk]
/-- of a dict, of a list -/
def lcN (o : Option (Nat × List (Key × Val))) (i : Nat) (vs : List Nat) (t : Tg) (c : MT) (elt : ME) (ρ : Env) (h : Mem) (Q : Val → Mem → Prop) (X : XQ) : Prop := match o with
  | some (n, kvs) => (eLc vs t (iKey (eVar i)) c elt ρ (h.set n (.frd kvs))).W (fun v h => ∃ kvs, h[n]? = some (.frd kvs) ∧ Q v (h.set n (.dic kvs))) nX
  | none => (eLc vs t (iVal (eVar i)) c elt ρ h).W Q X
@[simp] theorem lcN_none (i : Nat) (vs : List Nat) (t : Tg) (c : MT) (elt : ME) : lcN none i vs t c elt ρ h Q X ↔ (eLc vs t (iVal (eVar i)) c elt ρ h).W Q X := Iff.rfl
@[simp] theorem lcN_some (n : Nat) (kvs : List (Key × Val)) (i : Nat) (vs : List Nat) (t : Tg) (c : MT) (elt : ME) : lcN (some (n, kvs)) i vs t c elt ρ h Q X ↔ (eLc vs t (iKey (eVar i)) c elt ρ (h.set n (.frd kvs))).W (fun v h => ∃ kvs, h[n]? = some (.frd kvs) ∧ Q v (h.set n (.dic kvs))) nX := Iff.rfl
@[simp] theorem w_eLcN (i : Nat) (vs : List Nat) (t : Tg) (c : MT) (elt : ME) : (eLcN i vs t c elt ρ h).W Q X ↔ lcN (dicAt ρ h i) i vs t c elt ρ h Q X := by
  cases e : dicAt ρ h i with
  | none =>
    have : eLcN i vs t c elt ρ h = eLc vs t (iVal (eVar i)) c elt ρ h := by unfold eLcN; rw [e]
    rw [this, lcN_none]
  | some nk =>
    obtain ⟨n, kvs⟩ := nk
    have : eLcN i vs t c elt ρ h = unlk n (eLc vs t (iKey (eVar i)) c elt ρ (h.set n (.frd kvs))) := by
      unfold eLcN
      rw [e]
      show eLk i _ ρ h = _
      unfold eLk
      rw [e]
    rw [this, w_unlk, lcN_some]
def isKey (v : Val) (h : Mem) (O : Wk → Mem → Prop) : Prop := match v with
  | .ref n => (match h[n]? with
    | some (.frd kvs) => O (wkK n kvs.length) h
    | _ => False)
  | _ => False
@[simp] theorem isKey_ref (n : Nat) (O : Wk → Mem → Prop) : isKey (.ref n) h O ↔ match h[n]? with
    | some (.frd kvs) => O (wkK n kvs.length) h
    | _ => False := Iff.rfl
@[simp] theorem w_iKey {O : Wk → Mem → Prop} (e : ME) : (iKey e ρ h).W O X ↔ (e ρ h).W (fun v h => isKey v h O) X := by
  simp only [iKey, W_bind]
  refine iff_of_eq (congrArg (fun z => (e ρ h).W z X) (funext fun v => funext fun h => propext ?_))
  cases v with
  | ref n =>
    simp only [isKey]
    cases h[n]? with
    | none => simp
    | some o => cases o <;> simp
  | _ => simp [isKey]
@[simp] theorem w_eDc (vs : List Nat) (t : Tg) (it : MI) (c : MT) (ek ev : ME) : (eDc vs t it c ek ev ρ h).W Q X ↔ (it ρ h).W (fun w h => (dcF w t c ek ev (wipeE ρ vs) w.fuel 0 [] h).W (fun kvs h => Q (.ref h.length) (h ++ [.dic kvs])) X) X := by simp [eDc, newD]
@[simp] theorem w_iVal {O : Wk → Mem → Prop} (e : ME) : (iVal e ρ h).W O X ↔ (e ρ h).W (fun v h => optP (wkV h v) fun w => O w h) X := by simp [iVal]
@[simp] theorem w_iRng1 {O : Wk → Mem → Prop} (e : ME) : (iRng1 e ρ h).W O X ↔ (e ρ h).W (fun v h => ∃ j, v = .int j ∧ small62 j = true ∧ O (wkR 0 j.toNat) h) X := by
  simp only [iRng1, W_bind]
  refine iff_of_eq (congrArg (fun z => (e ρ h).W z X) (funext fun x => funext fun h => propext ?_))
  cases x <;> simp
@[simp] theorem w_iEnum {O : Wk → Mem → Prop} (e : ME) : (iEnum e ρ h).W O X ↔ (e ρ h).W (fun v h => optP (lstB h v) fun w => O (wkE w) h) X := by simp [iEnum]
@[simp] theorem lstB_ref' (n : Nat) : lstB h (.ref n) = match h[n]? with
  | some (.lst xs) => some (wkL n xs.length)
  | some (.rol xs) => some (wkL n xs.length)
  | _ => none := rfl
@[simp] theorem w_eAttr (Γ : Pg) (call : CallT) (x : Str) (a : ME) : (eAttr Γ call x a ρ h).W Q X ↔ (a ρ h).W (fun v h => (attrOf Γ call x v h).W Q X) X := by simp [eAttr]
@[simp] theorem w_eMeth (Γ : Pg) (call : CallT) (m : Str) (n : Nat) (ks : List Str) (o : ME) (as kas : MA) : (eMeth Γ call m n ks o as kas ρ h).W Q X ↔ (o ρ h).W (fun v h => (methBy Γ call m n ks as kas ρ v h).W Q X) X := by simp [eMeth]
@[simp] theorem w_eChain (op op' : CmpOp) (a b c : ME) : (eChain op op' a b c ρ h).W Q X ↔ (a ρ h).W (fun x h => (b ρ h).W (fun y h => optP (cmpop op h x y) fun k => (k = true → (c ρ h).W (fun w h => optP (cmpop op' h y w) fun k' => Q (.bl k') h) X) ∧ (k = false → Q (.bl false) h)) X) X := by
  simp only [eChain, W_bind, cmpR, W_opt]
  refine iff_of_eq (congrArg (fun z => (a ρ h).W z X) (funext fun x => funext fun h1 => congrArg (fun z => (b ρ h1).W z X) (funext fun y => funext fun h2 => propext ?_)))
  cases cmpop op h2 x y with
  | none => simp
  | some k => cases k <;> simp
/-! statements -/
@[simp] theorem w_sSeq (a b : MS) : Fw (sSeq a b ρ h) P ↔ Fw (a ρ h) ⟨fun ρ h => Fw (b ρ h) P, P.rt, P.bk, P.ct, P.xc⟩ := by simp [sSeq]
@[simp] theorem w_sSkip : Fw (sSkip ρ h) P ↔ P.nx ρ h := Iff.rfl
@[simp] theorem w_sBad : Fw (sBad ρ h) P ↔ False := Iff.rfl
@[simp] theorem w_sExpr (e : ME) : Fw (sExpr e ρ h) P ↔ (e ρ h).W (fun _ h => P.nx ρ h) (P.xc ρ) := by simp [sExpr]
@[simp] theorem w_sRet (e : ME) : Fw (sRet e ρ h) P ↔ (e ρ h).W P.rt (P.xc ρ) := by simp [sRet]
@[simp] theorem w_sRetN : Fw (sRetN ρ h) P ↔ P.rt .non h := Iff.rfl
@[simp] theorem w_sBrk : Fw (sBrk ρ h) P ↔ P.bk ρ h := Iff.rfl
@[simp] theorem w_sCnt : Fw (sCnt ρ h) P ↔ P.ct ρ h := Iff.rfl
@[simp] theorem w_sIf (t : MT) (a b : MS) : Fw (sIf t a b ρ h) P ↔ (t ρ h).W (fun k h => (k = true → Fw (a ρ h) P) ∧ (k = false → Fw (b ρ h) P)) (P.xc ρ) := by simp [sIf, Fw_ite]
@[simp] theorem w_sSet (i : Nat) (e : ME) : Fw (sSet i e ρ h) P ↔ (e ρ h).W (fun v h => P.nx (ρ.set i (some v)) h) (P.xc ρ) := by simp [sSet]
@[simp] theorem w_sAsg (t : Tg) (e : ME) : Fw (sAsg t e ρ h) P ↔ (e ρ h).W (fun v h => optP (put1 t v ρ) fun ρ1 => P.nx ρ1 h) (P.xc ρ) := by
  simp only [sAsg, Fw_onE]
  refine iff_of_eq (congrArg (fun z => (e ρ h).W z (P.xc ρ)) (funext fun x => funext fun h => propext ?_))
  cases put1 t x ρ <;> simp
@[simp] theorem w_sPar (i j : Nat) (as : MA) : Fw (sPar i j as ρ h) P ↔ (as ρ h).W (fun vs h => ∃ v w, vs = [v, w] ∧ P.nx ((ρ.set i (some v)).set j (some w)) h) (P.xc ρ) := by
  simp only [sPar, Fw_onE]
  refine iff_of_eq (congrArg (fun z => (as ρ h).W z (P.xc ρ)) (funext fun x => funext fun h => propext ?_))
  rcases x with _ | ⟨a, _ | ⟨b, _ | ⟨c, r⟩⟩⟩
  · simp
  · simp
  · constructor
    · exact fun q => ⟨a, b, rfl, q⟩
    · rintro ⟨v, w, e, q⟩
      cases e
      exact q
  · simp
@[simp] theorem w_sSetIdx (o i e : ME) : Fw (sSetIdx o i e ρ h) P ↔ (e ρ h).W (fun v h => (o ρ h).W (fun ov h => (i ρ h).W (fun iv h => (setIdx ov iv v h).W (fun _ h => P.nx ρ h) (P.xc ρ)) (P.xc ρ)) (P.xc ρ)) (P.xc ρ) := by simp [sSetIdx]
@[simp] theorem w_sAug (i : Nat) (op : Operator) (e : ME) : Fw (sAug i op e ρ h) P ↔ optP ρ[i]? fun o => optP o fun x => (e ρ h).W (fun y h => (augop op x y h).W (fun z h => P.nx (ρ.set i (some z)) h) (P.xc ρ)) (P.xc ρ) := by
  unfold sAug
  rcases q : ρ[i]? with _ | _ | v <;> simp
@[simp] theorem w_sAugIdx (o i : ME) (op : Operator) (e : ME) : Fw (sAugIdx o i op e ρ h) P ↔ (o ρ h).W (fun ov h => (i ρ h).W (fun iv h => optP (idxL h ov iv) fun x => (e ρ h).W (fun y h => (augop op x y h).W (fun z h => (setIdx ov iv z h).W (fun _ h => P.nx ρ h) (P.xc ρ)) (P.xc ρ)) (P.xc ρ)) (P.xc ρ)) (P.xc ρ) := by simp [sAugIdx]
@[simp] theorem w_sDelIdx (o i : ME) : Fw (sDelIdx o i ρ h) P ↔ (o ρ h).W (fun ov h => (i ρ h).W (fun iv h => (delIdx ov iv h).W (fun _ h => P.nx ρ h) (P.xc ρ)) (P.xc ρ)) (P.xc ρ) := by simp [sDelIdx]
@[simp] theorem w_eDic0 : (eDic0 ρ h).W Q X ↔ Q (.ref h.length) (h ++ [.dic []]) := Iff.rfl
@[simp] theorem w_eIn (Γ : Pg) (c : CallT) (neg : Bool) (a b : ME) : (eIn Γ c neg a b ρ h).W Q X ↔ (a ρ h).W (fun x h => (b ρ h).W (fun y h => (inM Γ c neg x y h).W Q X) X) X := by simp [eIn]
@[simp] theorem w_sFor (t : Tg) (it : MI) (body els : MS) : Fw (sFor t it body els ρ h) P ↔ (it ρ h).W (fun w h => Fw (forF w t body els w.fuel 0 ρ h) P) (P.xc ρ) := by simp [sFor]
@[simp] theorem w_sSetAttr (Γ : Pg) (x : Str) (o e : ME) : Fw (sSetAttr Γ x o e ρ h) P ↔ (e ρ h).W (fun v h => (o ρ h).W (fun ov h => (setAttrM Γ x ov v h).W (fun _ h => P.nx ρ h) (P.xc ρ)) (P.xc ρ)) (P.xc ρ) := by simp [sSetAttr]
end
/-! ### values -/
section
variable {h : Mem} {i j : Int}
@[simp] theorem bin_add : binop .Add (.int i) (.int j) h = .ok (.int (i + j)) h := rfl
@[simp] theorem bin_sub : binop .Sub (.int i) (.int j) h = .ok (.int (i - j)) h := rfl
@[simp] theorem bin_mul : binop .Mult (.int i) (.int j) h = if mulOk i j then .ok (.int (i * j)) h else .bad := rfl
@[simp] theorem bin_mod : binop .Mod (.int i) (.int j) h = if 0 < j then .ok (.int (i % j)) h else .bad := rfl
@[simp] theorem bin_div : binop .FloorDiv (.int i) (.int j) h = if 0 < j ∧ j < 2 ^ 64 then .ok (.int (i / j)) h else .bad := rfl
@[simp] theorem bin_pow : binop .Pow (.int i) (.int j) h = if 0 ≤ j ∧ j ≤ 1000000 ∧ i.natAbs < 2 ^ 64 then .ok (.int (i ^ j.toNat)) h else .bad := rfl
@[simp] theorem bin_addT (xs ys : List Val) : binop .Add (.tup xs) (.tup ys) h = if xs.length + ys.length ≤ sizeLine then .ok (.tup (xs ++ ys)) h else .bad := rfl
@[simp] theorem bin_mulL (n : Nat) : binop .Mult (.ref n) (.int j) h = match h[n]? with
  | some (.lst xs) => if -(2 ^ 63) ≤ j ∧ j < 2 ^ 63 ∧ xs.length * j.toNat ≤ sizeLine then newL (List.replicate j.toNat xs).flatten h else .bad
  | _ => .bad := rfl
@[simp] theorem bin_addL (n m : Nat) : binop .Add (.ref n) (.ref m) h = match h[n]?, h[m]? with
  | some (.lst xs), some (.lst ys) => newL (xs ++ ys) h
  | _, _ => .bad := rfl
@[simp] theorem aug_addL (n m : Nat) : augop .Add (.ref n) (.ref m) h = match h[n]?, h[m]? with
  | some (.lst xs), some (.lst ys) => if xs.length + ys.length ≤ sizeLine then .ok (.ref n) (h.set n (.lst (xs ++ ys))) else .bad
  | _, _ => .bad := rfl
@[simp] theorem bi_divmod : biRun .divmod [.int i, .int j] h = if 0 < j ∧ j < 1073741824 then .ok (.tup [.int (i / j), .int (i % j)]) h else .bad := rfl
@[simp] theorem aug_add : augop .Add (.int i) (.int j) h = .ok (.int (i + j)) h := rfl
@[simp] theorem aug_sub : augop .Sub (.int i) (.int j) h = .ok (.int (i - j)) h := rfl
@[simp] theorem tru_bl (b : Bool) : truthy h (.bl b) = some b := rfl
@[simp] theorem tru_int : truthy h (.int i) = some (i != 0) := rfl
@[simp] theorem tru_non : truthy h .non = some false := rfl
@[simp] theorem tru_tup (ts : List Val) : truthy h (.tup ts) = some (!ts.isEmpty) := rfl
@[simp] theorem cmp_lt : cmpop .Lt h (.int i) (.int j) = some (decide (i < j)) := rfl
@[simp] theorem cmp_le : cmpop .LtE h (.int i) (.int j) = some (decide (i ≤ j)) := rfl
@[simp] theorem cmp_gt : cmpop .Gt h (.int i) (.int j) = some (decide (j < i)) := rfl
@[simp] theorem cmp_ge : cmpop .GtE h (.int i) (.int j) = some (decide (j ≤ i)) := rfl
@[simp] theorem rdS_int : rdS h (.int i) = some (.int i) := rfl
@[simp] theorem rdS_bl (b : Bool) : rdS h (.bl b) = some (.bool b) := rfl
@[simp] theorem rdS_non : rdS h .non = some .none := rfl
theorem rdS_str {x : Str} (hx : SeqAt.shaped (.str x) = true) : rdS h (.str x) = some (.str x) := by
  show (if SeqAt.shaped (.str x) then some (PyData.str x) else none) = _
  rw [if_pos hx]
@[simp] theorem cmp_eq_int : cmpop .Eq h (.int i) (.int j) = some (decide (i = j)) := by
  rfl
@[simp] theorem cmp_ne_int : cmpop .NotEq h (.int i) (.int j) = some (!decide (i = j)) := by
  rfl
theorem cmp_eq_str {x y : Str} (hx : SeqAt.shaped (.str x) = true) (hy : SeqAt.shaped (.str y) = true) : cmpop .Eq h (.str x) (.str y) = some (x == y) := by
  simp only [cmpop, rdS_str hx, rdS_str hy]
  rfl
theorem cmp_ne_str {x y : Str} (hx : SeqAt.shaped (.str x) = true) (hy : SeqAt.shaped (.str y) = true) : cmpop .NotEq h (.str x) (.str y) = some (!(x == y)) := by
  simp only [cmpop, rdS_str hx, rdS_str hy]
  rfl
@[simp] theorem cmp_eq_bl (x y : Bool) : cmpop .Eq h (.bl x) (.bl y) = some (x == y) := rfl
@[simp] theorem cmp_ne_bl (x y : Bool) : cmpop .NotEq h (.bl x) (.bl y) = some (!(x == y)) := rfl
@[simp] theorem cmp_is (x : Val) : cmpop .Is h x .non = some (isNon x) := by cases x <;> rfl
@[simp] theorem cmp_isNot (x : Val) : cmpop .IsNot h x .non = some (!isNon x) := by cases x <;> rfl
@[simp] theorem isNon_non : isNon .non = true := rfl
@[simp] theorem isNon_int : isNon (.int i) = false := rfl
@[simp] theorem isNon_bl (b : Bool) : isNon (.bl b) = false := rfl
@[simp] theorem isNon_str (x : Str) : isNon (.str x) = false := rfl
@[simp] theorem isNon_tup (x : List Val) : isNon (.tup x) = false := rfl
@[simp] theorem isNon_ref (n : Nat) : isNon (.ref n) = false := rfl
@[simp] theorem ty_non : tyOf h .non = some "NoneType" := rfl
@[simp] theorem ty_int : tyOf h (.int i) = some "int" := rfl
@[simp] theorem ty_bl (b : Bool) : tyOf h (.bl b) = some "bool" := rfl
@[simp] theorem ty_str (x : Str) : tyOf h (.str x) = some "str" := rfl
@[simp] theorem ty_tup (x : List Val) : tyOf h (.tup x) = some "tuple" := rfl
@[simp] theorem ty_ref (n : Nat) : tyOf h (.ref n) = match h[n]? with
  | some (.lst _) => some "list"
  | some (.rol _) => some "list"
  | _ => none := rfl
@[simp] theorem tru_ref (n : Nat) : truthy h (.ref n) = match h[n]? with
  | some (.lst xs) => some (!xs.isEmpty)
  | some (.rol xs) => some (!xs.isEmpty)
  | _ => none := rfl
@[simp] theorem bi_int : biRun .int [.int i] h = .ok (.int i) h := rfl
@[simp] theorem bi_intB (b : Bool) : biRun .int [.bl b] h = .ok (.int (if b then 1 else 0)) h := rfl
@[simp] theorem bi_abs : biRun .abs [.int i] h = .ok (.int (if i < 0 then -i else i)) h := rfl
@[simp] theorem bi_max : biRun .max [.int i, .int j] h = .ok (.int (if j > i then j else i)) h := rfl
@[simp] theorem bi_min : biRun .min [.int i, .int j] h = .ok (.int (if j < i then j else i)) h := rfl
@[simp] theorem bi_lenT (xs : List Val) : biRun .len [.tup xs] h = .ok (.int xs.length) h := rfl
@[simp] theorem seq_ref (n : Nat) : seqOf h (.ref n) = match h[n]? with
  | some (.lst xs) => some xs
  | some (.rol xs) => some xs
  | _ => none := rfl
@[simp] theorem lst_ref (n : Nat) : lstOf h (.ref n) = match h[n]? with
  | some (.lst xs) => some xs
  | some (.rol xs) => some xs
  | _ => none := rfl
@[simp] theorem lenK_ref (n : Nat) : lenK h (.ref n) = match h[n]? with
  | some (.lst xs) => some xs.length
  | some (.rol xs) => some xs.length
  | some (.dic kvs) => some kvs.length
  | _ => none := rfl
@[simp] theorem seqK_ref (n : Nat) : seqK h (.ref n) = match h[n]? with
  | some (.lst xs) => some xs
  | some (.rol xs) => some xs
  | some (.dic kvs) => some (kvs.map fun kv => keyV kv.1)
  | _ => none := rfl
@[simp] theorem sortK_ref (n : Nat) : sortK h (.ref n) = match h[n]? with
  | some (.lst xs) => intsOf xs
  | some (.rol xs) => intsOf xs
  | some (.dic kvs) => if kvs.length < 64 then intsOf (kvs.map fun kv => keyV kv.1) else none
  | _ => none := rfl
@[simp] theorem bi_lenL (n : Nat) : biRun .len [.ref n] h = (Res.opt (lenK h (.ref n)) h).bind fun m h => .ok (.int m) h := rfl
@[simp] theorem bi_listL (n : Nat) : biRun .list [.ref n] h = (Res.opt (seqK h (.ref n)) h).bind newL := rfl
@[simp] theorem bi_sorted (n : Nat) : biRun .sorted [.ref n] h = match sortK h (.ref n) with
  | some ns => newL ((ns.mergeSort (· ≤ ·)).map .int) h
  | none => (Res.opt (sortT h (.ref n)) h).bind newL := rfl
@[simp] theorem bi_any (n : Nat) : biRun .any [.ref n] h = (Res.opt ((lstOf h (.ref n)).bind blsOf) h).bind fun bs h => .ok (.bl (bs.any id)) h := rfl
@[simp] theorem bi_all (n : Nat) : biRun .all [.ref n] h = (Res.opt ((lstOf h (.ref n)).bind blsOf) h).bind fun bs h => .ok (.bl (bs.all id)) h := rfl
@[simp] theorem bi_tupL (n : Nat) : biRun .tuple [.ref n] h = (Res.opt (seqOf h (.ref n)) h).bind fun xs h => .ok (.tup xs) h := rfl
@[simp] theorem bi_listT (xs : List Val) : biRun .list [.tup xs] h = newL xs h := by simp [biRun, seqK]
@[simp] theorem idx_tup (xs : List Val) : idx h (.tup xs) (.int i) = atI xs i := rfl
@[simp] theorem idx_ref (n : Nat) : idx h (.ref n) (.int i) = match h[n]? with
  | some (.lst xs) => atI xs i
  | some (.rol xs) => atI xs i
  | some (.dic kvs) => dGet kvs (.inl i)
  | some (.frd kvs) => dGet kvs (.inl i)
  | _ => none := rfl
@[simp] theorem idx_str (n : Nat) (z : Str) : idx h (.ref n) (.str z) = match h[n]? with
  | some (.dic kvs) => dGet kvs (.inr z)
  | some (.frd kvs) => dGet kvs (.inr z)
  | _ => none := rfl
@[simp] theorem idxL_ref (n : Nat) : idxL h (.ref n) (.int i) = match h[n]? with
  | some (.lst xs) => atI xs i
  | _ => none := rfl
theorem atI_nat {α : Type} (xs : List α) (k : Nat) : atI xs (k : Int) = xs[k]? := by
  unfold atI ixN
  rw [if_pos (by omega)]
  by_cases hk : k < xs.length
  · rw [if_pos (by omega)]
    simp
  · rw [if_neg (by omega)]
    simp at hk
    simp [hk]
theorem atI_pos {α : Type} (xs : List α) (hi : 0 ≤ i) : atI xs i = xs[i.toNat]? := by
  have := atI_nat xs i.toNat
  rwa [Int.toNat_of_nonneg hi] at this
@[simp] theorem atI_0 {α : Type} (xs : List α) : atI xs 0 = xs[0]? := atI_nat xs 0
@[simp] theorem atI_2 {α : Type} (xs : List α) : atI xs 2 = xs[2]? := atI_nat xs 2
@[simp] theorem atI_3 {α : Type} (xs : List α) : atI xs 3 = xs[3]? := atI_nat xs 3
@[simp] theorem atI_4 {α : Type} (xs : List α) : atI xs 4 = xs[4]? := atI_nat xs 4
@[simp] theorem atI_5 {α : Type} (xs : List α) : atI xs 5 = xs[5]? := atI_nat xs 5
@[simp] theorem atI_6 {α : Type} (xs : List α) : atI xs 6 = xs[6]? := atI_nat xs 6
@[simp] theorem atI_7 {α : Type} (xs : List α) : atI xs 7 = xs[7]? := atI_nat xs 7
@[simp] theorem atI_1 {α : Type} (xs : List α) : atI xs 1 = xs[1]? := atI_nat xs 1
theorem ixN_pos {n : Nat} (h0 : 0 ≤ i) (h1 : i < n) : ixN n i = some i.toNat := by
  unfold ixN
  rw [if_pos h0, if_pos h1]
@[simp] theorem setIdx_ref (n : Nat) (v : Val) : setIdx (.ref n) (.int i) v h = match h[n]? with
  | some (.lst xs) => (match ixN xs.length i with
    | some k => .ok .non (h.set n (.lst (xs.set k v)))
    | none => .bad)
  | some (.dic kvs) => if kvs.length < sizeLine then .ok .non (h.set n (.dic (dPut kvs (.inl i) v))) else .bad
  | _ => .bad := rfl
@[simp] theorem setIdx_str (n : Nat) (z : Str) (v : Val) : setIdx (.ref n) (.str z) v h = match h[n]? with
  | some (.dic kvs) => if kvs.length < sizeLine then .ok .non (h.set n (.dic (dPut kvs (.inr z) v))) else .bad
  | _ => .bad := rfl
@[simp] theorem delIdx_ref (n : Nat) (v : Val) : delIdx (.ref n) v h = match h[n]? with
  | some (.dic kvs) => (match keyOf v with
    | some k => if (dGet kvs k).isSome then .ok .non (h.set n (.dic (dDrop kvs k))) else .bad
    | none => .bad)
  | _ => .bad := by
  simp only [delIdx]
  all_goals (rcases h[n]? with _ | o <;> first | rfl | (cases o <;> rfl))
@[simp] theorem keyOf_int : keyOf (.int i) = some (.inl i) := rfl
@[simp] theorem keyOf_str (x : Str) : keyOf (.str x) = some (.inr x) := rfl
/-- x in o -/
def notB (neg : Bool) (r : Res Val) : Res Val := match r with
  | .ok (.bl b) h => .ok (.bl (b != neg)) h
  | _ => .bad
def isB (v : Val) (f : Bool → Prop) : Prop := match v with
  | .bl b => f b
  | _ => False
@[simp] theorem isB_bl (b : Bool) (f : Bool → Prop) : isB (.bl b) f ↔ f b := Iff.rfl
@[simp] theorem w_notB {Q : Val → Mem → Prop} {X : XQ} (neg : Bool) (r : Res Val) : (notB neg r).W Q X ↔ r.W (fun v h => isB v fun b => Q (.bl (b != neg)) h) nX := by
  cases r with
  | ok v h => cases v <;> simp [notB, isB]
  | exc c fs h => simp [notB, nX]
  | bad => simp [notB]
def inIn (Γ : Pg) (call : CallT) (neg : Bool) (c : Str) (x y : Val) (h : Mem) : Res Val := match Γ.cls.lookup c with
  | some C => match C.meths.lookup ("__contains__" : Str) with
    | some g => notB neg (callBy Γ call g 2 [] [y, x] [] h)
    | none => .bad
  | none => .bad
@[simp] theorem inM_ref (Γ : Pg) (call : CallT) (neg : Bool) (x : Val) (n : Nat) : inM Γ call neg x (.ref n) h = match h[n]? with
  | some (.ins c _) => inIn Γ call neg c x (.ref n) h
  | some (.dic kvs) => (Res.opt (keyOf x) h).bind fun k h => .ok (.bl ((dGet kvs k).isSome != neg)) h
  | some (.frd kvs) => (Res.opt (keyOf x) h).bind fun k h => .ok (.bl ((dGet kvs k).isSome != neg)) h
  | _ => (Res.opt (cmpop (if neg then .NotIn else .In) h x (.ref n)) h).bind fun b h => .ok (.bl b) h := by
  simp only [inM]
  cases e : h[n]? with
  | none => rfl
  | some o =>
    cases o with
    | ins c fs =>
      unfold inIn notB
      try dsimp only
      all_goals (rcases Γ.cls.lookup c with _ | C <;> first | rfl | (dsimp only; rcases C.meths.lookup ("__contains__" : Str) with _ | g <;> first | rfl | (dsimp only; rcases callBy Γ call g 2 [] [.ref n, x] [] h with ⟨v, h⟩ | _ | _ <;> first | rfl | (cases v <;> rfl))))
    | dic kvs =>
      have hx : ∀ y : Val, inOp h y (.ref n) = (keyOf y).map fun k => (dGet kvs k).isSome := fun y => by
        cases y <;> simp only [inOp, e]
      cases neg with
      | false =>
        show (Res.opt (cmpop .In h x (.ref n)) h).bind _ = _
        simp only [cmpop, hx]
        cases keyOf x <;> simp
      | true =>
        show (Res.opt (cmpop .NotIn h x (.ref n)) h).bind _ = _
        simp only [cmpop, hx]
        cases keyOf x <;> simp
    | frd kvs =>
      have hx : ∀ y : Val, inOp h y (.ref n) = (keyOf y).map fun k => (dGet kvs k).isSome := fun y => by
        cases y <;> simp only [inOp, e]
      cases neg with
      | false =>
        show (Res.opt (cmpop .In h x (.ref n)) h).bind _ = _
        simp only [cmpop, hx]
        cases keyOf x <;> simp
      | true =>
        show (Res.opt (cmpop .NotIn h x (.ref n)) h).bind _ = _
        simp only [cmpop, hx]
        cases keyOf x <;> simp
    | lst xs => rfl
    | rol xs => rfl
@[simp] theorem inM_tup (Γ : Pg) (call : CallT) (neg : Bool) (x : Val) (ts : List Val) : inM Γ call neg x (.tup ts) h = (Res.opt (cmpop (if neg then .NotIn else .In) h x (.tup ts)) h).bind fun b h => .ok (.bl b) h := rfl
@[simp] theorem inM_strS (Γ : Pg) (call : CallT) (neg : Bool) (x : Val) (z : Str) : inM Γ call neg x (.str z) h = (Res.opt (cmpop (if neg then .NotIn else .In) h x (.str z)) h).bind fun b h => .ok (.bl b) h := rfl
@[simp] theorem wkV_ref (n : Nat) : wkV h (.ref n) = match h[n]? with
  | some (.lst xs) => some (wkL n xs.length)
  | some (.rol xs) => some (wkL n xs.length)
  | _ => none := rfl
theorem ixN_lit (n k : Nat) : ixN n (k : Int) = if k < n then some k else none := by
  unfold ixN
  rw [if_pos (by omega)]
  by_cases hk : k < n
  · rw [if_pos (by omega), if_pos hk]
    simp
  · rw [if_neg (by omega), if_neg hk]
@[simp] theorem ixN_0 (n : Nat) : ixN n 0 = if 0 < n then some 0 else none := ixN_lit n 0
@[simp] theorem ixN_1 (n : Nat) : ixN n 1 = if 1 < n then some 1 else none := ixN_lit n 1
@[simp] theorem ixN_2 (n : Nat) : ixN n 2 = if 2 < n then some 2 else none := ixN_lit n 2
@[simp] theorem ixN_3 (n : Nat) : ixN n 3 = if 3 < n then some 3 else none := ixN_lit n 3
@[simp] theorem ixN_4 (n : Nat) : ixN n 4 = if 4 < n then some 4 else none := ixN_lit n 4
@[simp] theorem wkV_tup (xs : List Val) : wkV h (.tup xs) = some (wkT xs) := rfl
@[simp] theorem selV_nil (us ws : List Val) : selV us ws [] = some [] := rfl
@[simp] theorem selV_ps (us ws : List Val) (i : Nat) (r : List Src) : selV us ws (.ps i :: r) = us[i]?.bind fun v => (selV us ws r).map (v :: ·) := by
  simp only [selV, pick1]
  cases us[i]? <;> cases selV us ws r <;> rfl
@[simp] theorem selV_kw (us ws : List Val) (i : Nat) (r : List Src) : selV us ws (.kw i :: r) = ws[i]?.bind fun v => (selV us ws r).map (v :: ·) := by
  simp only [selV, pick1]
  cases ws[i]? <;> cases selV us ws r <;> rfl
@[simp] theorem selV_df (us ws : List Val) (v : Val) (r : List Src) : selV us ws (.df v :: r) = (selV us ws r).map (v :: ·) := by
  simp only [selV, pick1]
  cases selV us ws r <;> rfl
@[simp] theorem put_nm (i : Nat) (v : Val) (ρ : Env) : put1 (.nm i) v ρ = some (ρ.set i (some v)) := rfl
@[simp] theorem put_2 (i j : Nat) (v w : Val) (ρ : Env) : put1 (.tp [.nm i, .nm j]) (.tup [v, w]) ρ = some ((ρ.set i (some v)).set j (some w)) := rfl
@[simp] theorem put_3 (i j k : Nat) (u v w : Val) (ρ : Env) : put1 (.tp [.nm i, .nm j, .nm k]) (.tup [u, v, w]) ρ = some (((ρ.set i (some u)).set j (some v)).set k (some w)) := rfl
/-- a field -/
def fget (fs : List (Str × Val)) (x : Str) : Option Val := fs.lookup x
/-- an object's attribute, its class known -/
def attrIn (Γ : Pg) (call : CallT) (x c : Str) (fs : List (Str × Val)) (v : Val) (h : Mem) : Res Val := match Γ.cls.lookup c with
  | some C => match C.props.lookup x with
    | some g => (call g [v] h).shut
    | none => if C.flds.contains x then Res.opt (fs.lookup x) h else .bad
  | none => .bad
@[simp] theorem attr_ref (Γ : Pg) (call : CallT) (x : Str) (n : Nat) : attrOf Γ call x (.ref n) h = match h[n]? with
  | some (.ins c fs) => attrIn Γ call x c fs (.ref n) h
  | _ => .bad := by
  simp only [attrOf]
  rcases h[n]? with _ | o
  · rfl
  · cases o <;> rfl
def setIn (Γ : Pg) (x c : Str) (fs : List (Str × Val)) (n : Nat) (v : Val) (h : Mem) : Res Val := match Γ.cls.lookup c with
  | some C => if C.flds.contains x && decide (fs.length < 1000) then .ok .non (h.set n (.ins c (putFd x v fs))) else .bad
  | none => .bad
@[simp] theorem setA_ref (Γ : Pg) (x : Str) (n : Nat) (v : Val) : setAttrM Γ x (.ref n) v h = match h[n]? with
  | some (.ins c fs) => setIn Γ x c fs n v h
  | _ => .bad := by
  simp only [setAttrM]
  rcases h[n]? with _ | o
  · rfl
  · cases o <;> rfl
def methIn (Γ : Pg) (call : CallT) (m : Str) (n : Nat) (ks : List Str) (c : Str) (fs : List (Str × Val)) (as kas : MA) (ρ : Env) (v : Val) (h : Mem) : Res Val := match Γ.cls.lookup c with
  | some C => match C.meths.lookup m with
    | some g => if (fs.lookup m).isNone then (as ρ h).bind fun us h => (kas ρ h).bind fun ws h => callBy Γ call g (n + 1) ks (v :: us) ws h else .bad
    | none => .bad
  | none => .bad
@[simp] theorem meth_ref (Γ : Pg) (call : CallT) (m : Str) (n : Nat) (ks : List Str) (as kas : MA) (ρ : Env) (a : Nat) : methBy Γ call m n ks as kas ρ (.ref a) h = match h[a]? with
  | some (.ins c fs) => methIn Γ call m n ks c fs as kas ρ (.ref a) h
  | some (.lst _) => (match lmOf m, ks with
    | some k, [] => (as ρ h).bind fun us h => lmRun k a us h
    | _, _ => .bad)
  | some (.dic _) => (match ks with
    | [] => if m = "pop" then (as ρ h).bind fun us h => dPop a us h else if m = "get" then (as ρ h).bind fun us h => dGetM a us h else .bad
    | _ => .bad)
  | _ => .bad := by
  simp only [methBy]
  rcases h[a]? with _ | o
  · rfl
  · cases o <;> rfl
@[simp] theorem methBy_str (Γ : Pg) (call : CallT) (n : Nat) (as kas : MA) (z : Str) : methBy Γ call "join" n [] as kas ρ (.str z) h = (as ρ h).bind fun us h => sJoin z us h := by
  simp only [methBy]
  rw [if_pos trivial]
@[simp] theorem sJoin_ref (z : Str) (n : Nat) : sJoin z [.ref n] h = match (lstOf h (.ref n)).bind strsOf with
  | some ys => if (ys.map (·.length)).sum + ys.length * z.length ≤ 16777216 then .ok (.str (Txt.join z ys)) h else .bad
  | none => .bad := rfl
@[simp] theorem lm_append : lmOf "append" = some .append := by kernel_rfl
@[simp] theorem lm_extend : lmOf "extend" = some .extend := by kernel_rfl
@[simp] theorem lm_pop : lmOf "pop" = some .pop := by kernel_rfl
@[simp] theorem lm_clear : lmOf "clear" = some .clear := by kernel_rfl
@[simp] theorem lm_reverse : lmOf "reverse" = some .reverse := by kernel_rfl
@[simp] theorem lm_remove : lmOf "remove" = some .remove := by kernel_rfl
@[simp] theorem lmr_remove (n : Nat) (i : Int) : lmRun .remove n [.int i] h = match h[n]? with
  | some (.lst xs) => (match intsOf xs with
    | some ns => if i ∈ ns then .ok .non (h.set n (.lst ((ns.erase i).map .int))) else .bad
    | none => .bad)
  | _ => .bad := by
  simp only [lmRun]
  all_goals (rcases h[n]? with _ | o <;> first | rfl | (cases o <;> rfl))
@[simp] theorem lm_index : lmOf "index" = some .index := by kernel_rfl
@[simp] theorem lmr_index (n : Nat) (i : Int) : lmRun .index n [.int i] h = match h[n]? with
  | some (.lst xs) => (match intsOf xs with
    | some ns => if i ∈ ns then .ok (.int ((ns.idxOf i : Nat) : Int)) h else .bad
    | none => .bad)
  | _ => .bad := by
  simp only [lmRun]
  all_goals (rcases h[n]? with _ | o <;> first | rfl | (cases o <;> rfl))
@[simp] theorem dGetM_2 (a : Nat) (y d : Val) : dGetM a [y, d] h = match h[a]? with
  | some (.dic kvs) => (match keyOf y with
    | some k => .ok ((dGet kvs k).getD d) h
    | none => .bad)
  | _ => .bad := by
  simp only [dGetM]
  all_goals (rcases h[a]? with _ | o <;> first | rfl | (cases o <;> first | rfl | (dsimp only; cases keyOf y <;> rfl)))
@[simp] theorem lmr_clear (n : Nat) : lmRun .clear n [] h = match h[n]? with
  | some (.lst xs) => .ok .non (h.set n (.lst []))
  | _ => .bad := by
  simp only [lmRun]
  all_goals (rcases h[n]? with _ | o <;> first | rfl | (cases o <;> rfl))
@[simp] theorem lmr_popI (n : Nat) (i : Int) : lmRun .pop n [.int i] h = match h[n]? with
  | some (.lst xs) => (match ixN xs.length i with
    | some k => (match xs[k]? with
      | some y => .ok y (h.set n (.lst (xs.eraseIdx k)))
      | none => .bad)
    | none => .bad)
  | _ => .bad := by
  simp only [lmRun]
  all_goals (rcases h[n]? with _ | o <;> first | rfl | (cases o <;> rfl))
@[simp] theorem lmr_append (n : Nat) (y : Val) : lmRun .append n [y] h = match h[n]? with
  | some (.lst xs) => if xs.length < sizeLine then .ok .non (h.set n (.lst (xs ++ [y]))) else .bad
  | _ => .bad := by
  simp only [lmRun]
  all_goals (rcases h[n]? with _ | o <;> first | rfl | (cases o <;> rfl))
end
end Mp
set_option Elab.async false
set_option linter.all false
set_option maxRecDepth 100000
set_option maxHeartbeats 1000000
namespace Mp
open PySem L2
/-! ### the draws of every law -/
def L_mixed (c : CallT) : MS := (sSeq (sSet 3 (eBin .Mod (eBi .int (aCons (eBin .Add (eBin .Add (eBin .Mult (eBi .int (aCons (eVar 0) aNil)) (eC (.int (48271)))) (eBin .Mult (eBi .int (aCons (eVar 1) aNil)) (eC (.int (1583458089))))) (eC (.int (1013)))) aNil)) (eC (.int (2147483647))))) (sSeq (sSet 4 (eBin .Mod (eBi .int (aCons (eBin .Add (eBin .Add (eBin .Mult (eVar 3) (eVar 3)) (eBin .Mult (eBi .int (aCons (eVar 1) aNil)) (eC (.int (40692))))) (eC (.int (7)))) aNil)) (eC (.int (2147483399))))) (sSeq (sSet 5 (eBin .Mod (eBi .int (aCons (eBin .Add (eBin .Mult (eVar 4) (eVar 4)) (eVar 3)) aNil)) (eC (.int (2147483563))))) (sSeq (sIf (tE (eCmp .Gt (eVar 2) (eC (.int (1000000000))))) (sRet (eBin .Mod (eBi .int (aCons (eBin .Add (eBin .Mult (eVar 4) (eC (.int (2147483563)))) (eVar 5)) aNil)) (eVar 2))) sSkip) (sRet (eBin .Mod (eVar 5) (eVar 2)))))))
def L_store (c : CallT) : MS := (sSeq (sSet 2 (eBin .Add (eBin .Mult (eVar 1) (eC (.int (7919)))) (eBi .len (aCons (eVar 0) aNil)))) (sSeq (sFor (.nm 3) (iVal (eVar 0)) (sSet 2 (eBin .Mod (eBi .int (aCons (eBin .Add (eBin .Add (eBin .Mult (eVar 2) (eC (.int (1000003)))) (eBin .Mod (eBi .int (aCons (eVar 3) aNil)) (eC (.int (2147483629))))) (eC (.int (1)))) aNil)) (eC (.int (2147483647))))) sSkip) (sRet (eLst (aCons (eBi .list (aCons (eVar 0) aNil)) (aCons (eC (.int (0))) (aCons (eC (.int (0))) (aCons (eC (.int (0))) (aCons (eVar 2) aNil)))))))))
def L_take (c : CallT) : MS := (sSeq (sAugIdx (eVar 0) (eC (.int (3))) .Add (eC (.int (1)))) (sSeq (sIf (tE (eCmp .Lt (eVar 1) (eC (.int (2))))) (sRet (eC (.int (0)))) sSkip) (sSeq (sIf (tAnd (tE (eCmp .Eq (eIdx (eVar 0) (eC (.int (2)))) (eC (.int (0))))) (tE (eCmp .Lt (eIdx (eVar 0) (eC (.int (1)))) (eBi .len (aCons (eIdx (eVar 0) (eC (.int (0)))) aNil))))) (sSeq (sSet 2 (eBi .int (aCons (eIdx (eIdx (eVar 0) (eC (.int (0)))) (eIdx (eVar 0) (eC (.int (1))))) aNil))) (sSeq (sAugIdx (eVar 0) (eC (.int (1))) .Add (eC (.int (1)))) (sSeq (sIf (tE (eCmp .Lt (eBi .abs (aCons (eVar 2) aNil)) (eBin .Pow (eC (.int (10))) (eC (.int (18)))))) (sRet (eCall (c "_law_mixed") (aCons (eVar 2) (aCons (eIdx (eVar 0) (eC (.int (3)))) (aCons (eVar 1) aNil))))) sSkip) (sSetIdx (eVar 0) (eC (.int (2))) (eBi .abs (aCons (eVar 2) aNil)))))) sSkip) (sSeq (sIf (tE (eCmp .Eq (eIdx (eVar 0) (eC (.int (2)))) (eC (.int (0))))) (sRet (eCall (c "_law_mixed") (aCons (eIdx (eVar 0) (eC (.int (4)))) (aCons (eIdx (eVar 0) (eC (.int (3)))) (aCons (eVar 1) aNil))))) sSkip) (sSeq (sSet 3 (eBin .Mod (eBi .int (aCons (eIdx (eVar 0) (eC (.int (2)))) aNil)) (eVar 1))) (sSeq (sSetIdx (eVar 0) (eC (.int (2))) (eBin .FloorDiv (eBi .int (aCons (eIdx (eVar 0) (eC (.int (2)))) aNil)) (eVar 1))) (sRet (eVar 3))))))))
def L_pick (c : CallT) : MS := (sRet (eIdx (eVar 1) (eCall (c "_law_take") (aCons (eVar 0) (aCons (eBi .len (aCons (eVar 1) aNil)) aNil)))))
def L_between (c : CallT) : MS := (sSeq (sSet 3 (eBin .Add (eBin .Sub (eVar 2) (eVar 1)) (eC (.int (1))))) (sSeq (sSet 4 (eCall (c "_law_take") (aCons (eVar 0) (aCons (eC (.int (6))) aNil)))) (sSeq (sIf (tE (eCmp .Eq (eVar 4) (eC (.int (0))))) (sRet (eBin .Add (eVar 1) (eCall (c "_law_take") (aCons (eVar 0) (aCons (eBi .min (aCons (eVar 3) (aCons (eC (.int (2))) aNil))) aNil))))) sSkip) (sSeq (sIf (tE (eCmp .Eq (eVar 4) (eC (.int (1))))) (sRet (eBin .Sub (eVar 2) (eCall (c "_law_take") (aCons (eVar 0) (aCons (eBi .min (aCons (eVar 3) (aCons (eC (.int (2))) aNil))) aNil))))) sSkip) (sRet (eBin .Add (eVar 1) (eCall (c "_law_take") (aCons (eVar 0) (aCons (eVar 3) aNil)))))))))
def L_size (c : CallT) : MS := (sSeq (sSet 2 (eCall (c "_law_take") (aCons (eVar 0) (aCons (eC (.int (12))) aNil)))) (sSeq (sIf (tE (eCmp .Eq (eVar 2) (eC (.int (0))))) (sRet (eC (.int (0)))) sSkip) (sSeq (sIf (tE (eCmp .Eq (eVar 2) (eC (.int (1))))) (sRet (eVar 1)) sSkip) (sSeq (sIf (tE (eCmp .Eq (eVar 2) (eC (.int (2))))) (sRet (eBi .max (aCons (eC (.int (0))) (aCons (eBin .Sub (eVar 1) (eC (.int (1)))) aNil)))) sSkip) (sSeq (sIf (tE (eCmp .Eq (eVar 2) (eC (.int (3))))) (sRet (eCall (c "_law_take") (aCons (eVar 0) (aCons (eBin .Add (eVar 1) (eC (.int (1)))) aNil)))) sSkip) (sRet (eCall (c "_law_take") (aCons (eVar 0) (aCons (eBin .Add (eBi .min (aCons (eVar 1) (aCons (eC (.int (5))) aNil))) (eC (.int (1)))) aNil)))))))))
/-- the store: the list at 2, the script's copy at 1 -/
structure St (h : Mem) : Prop where
  ex : ∃ (ns : List Int) (p c t s : Int), h[2]? = some (.lst [.ref 1, .int p, .int c, .int t, .int s]) ∧ h[1]? = some (.lst (ns.map .int)) ∧ 0 ≤ p ∧ 0 ≤ c
/-- a draw: only the store has changed -/
structure Dr (h h' : Mem) : Prop where
  st : St h'
  fr : Fr [2] h h'
  len : h'.length = h.length
theorem Dr.get {h h' : Mem} (d : Dr h h') {n : Nat} {o : Ob} (e : h[n]? = some o) (hn : n ≠ 2) : h'[n]? = some o := d.fr.get e (by simp [hn])
theorem Dr.trans {h h' h'' : Mem} (a : Dr h h') (b : Dr h' h'') : Dr h h'' := ⟨b.st, a.fr.trans b.fr, b.len.trans a.len⟩
def SpMixed (m : List Val → Mem → Res Val) : Prop := ∀ (i t k : Int) (h : Mem), 0 < k → (m [.int i, .int t, .int k] h).W (fun v h' => h' = h ∧ ∃ r, v = .int r ∧ 0 ≤ r ∧ r < k) nX
def SpTake (m : List Val → Mem → Res Val) : Prop := ∀ (k : Int) (h : Mem), St h → k < 2 ^ 63 → (m [.ref 2, .int k] h).W (fun v h' => Dr h h' ∧ ∃ r, v = .int r ∧ 0 ≤ r ∧ (r < k ∨ r = 0)) nX
theorem mul_ok {i j : Int} (h : (-(2 ^ 64) < i ∧ i < 2 ^ 64) ∨ (-(2 ^ 64) < j ∧ j < 2 ^ 64)) : mulOk i j = true := by
  unfold mulOk
  simp only [Bool.or_eq_true, decide_eq_true_eq]
  exact h
theorem mod_lt (a : Int) {b : Int} (h : 0 < b) : 0 ≤ a % b ∧ a % b < b := ⟨Int.emod_nonneg _ (by omega), Int.emod_lt_of_pos _ h⟩
theorem sp_mixed (c : CallT) : SpMixed fun args h => fin (L_mixed c (args.map some ++ [none, none, none]) h) := by
  intro i t k h hk
  simp only [W_fin, L_mixed]
  have m1 := mod_lt (i * 48271 + t * 1583458089 + 1013) (b := 2147483647) (by decide)
  have m2 := mod_lt ((i * 48271 + t * 1583458089 + 1013) % 2147483647 * ((i * 48271 + t * 1583458089 + 1013) % 2147483647) + t * 40692 + 7) (b := 2147483399) (by decide)
  simp
  refine ⟨mul_ok (by omega), mul_ok (by omega), mul_ok (by omega), mul_ok (by omega), mul_ok (by omega), fun h1 => ⟨mul_ok (by omega), hk, mod_lt _ hk⟩, fun h1 => ⟨hk, mod_lt _ hk⟩⟩
theorem sp_take {c : CallT} (hm : SpMixed (c "_law_mixed")) : SpTake fun args h => fin (L_take c (args.map some ++ [none, none]) h) := by
  intro k h ⟨ns, p, q, t, s, e2, e1, hp, hq⟩ hk
  have g2 : ∀ o, (h.set 2 o)[2]? = some o := fun o => get_set e2
  have g1 : ∀ o, (h.set 2 o)[1]? = some (.lst (ns.map .int)) := fun o => get_set_ne e1 (by decide)
  simp only [W_fin, L_take]
  simp [e2, e1, g2, g1]
  have dr : ∀ (p' q' t' s' : Int), 0 ≤ p' → 0 ≤ q' → Dr h (h.set 2 (.lst [.ref 1, .int p', .int q', .int t', .int s'])) := fun p' q' t' s' a b =>
    ⟨⟨ns, p', q', t', s', g2 _, g1 _, a, b⟩, Fr.set _ _ _, by simp⟩
  -- the digits of a large cell
  have digits : ∀ (p' q' t' s' : Int), 0 ≤ p' → 0 ≤ q' → 2 ≤ k → 0 < k ∧ (0 < k ∧ k < 2 ^ 64) ∧ Dr h (h.set 2 (.lst [.ref 1, .int p', .int (q' / k), .int t', .int s'])) ∧ 0 ≤ q' % k ∧ (q' % k < k ∨ q' % k = 0) := fun p' q' t' s' a b hk2 =>
    ⟨by omega, ⟨by omega, by omega⟩, dr _ _ _ _ a (Int.ediv_nonneg b (by omega)), (mod_lt q' (by omega)).1, .inl (mod_lt q' (by omega)).2⟩
  have mixd : ∀ (i t' : Int) (h1 : Mem), 2 ≤ k → Dr h h1 → (c "_law_mixed" [.int i, .int t', .int k] h1).W (fun v h' => Dr h h' ∧ ∃ r, v = Val.int r ∧ 0 ≤ r ∧ (r < k ∨ r = 0)) nX := fun i t' h1 hk2 d =>
    (hm i t' k h1 (by omega)).imp (fun v h' ⟨e, r, ev, r1, r2⟩ => ⟨by rw [e]; exact d, r, ev, r1, .inl r2⟩) fun _ _ _ z => z
  refine ⟨fun hk2 => dr _ _ _ _ hp hq, fun hk2 => ⟨fun q0 => ⟨fun hlt => ?_, fun hge => ?_⟩, fun q0 => ?_⟩⟩
  · rw [atI_pos _ hp]
    have hlt' : p.toNat < ns.length := by omega
    simp [hlt', e2, e1, g2, g1]
    have ha : 0 ≤ if ns[p.toNat] < 0 then -ns[p.toNat] else ns[p.toNat] := by split <;> omega
    exact ⟨fun _ => mixd _ _ _ hk2 (dr _ _ _ _ (by omega) hq), fun _ => ⟨fun _ => mixd _ _ _ hk2 (dr _ _ _ _ (by omega) ha), fun _ => digits _ _ _ _ (by omega) ha hk2⟩⟩
  · exact ⟨fun _ => mixd _ _ _ hk2 (dr _ _ _ _ hp hq), fun _ => digits _ _ _ _ hp hq hk2⟩
  · exact ⟨fun _ => mixd _ _ _ hk2 (dr _ _ _ _ hp hq), fun _ => digits _ _ _ _ hp hq hk2⟩
/-- drawing, then going on -/
theorem take_then {m : List Val → Mem → Res Val} (hm : SpTake m) {k : Int} {h : Mem} {Q : Val → Mem → Prop} {X : XQ} (st : St h) (hk : k < 2 ^ 63) (q : ∀ r h', 0 ≤ r → (r < k ∨ r = 0) → Dr h h' → Q (.int r) h') : (m [.ref 2, .int k] h).W Q X :=
  (hm k h st hk).mono fun v h' ⟨d, r, e, r1, r2⟩ => by rw [e]; exact q r h' r1 r2 d
def SpBetween (m : List Val → Mem → Res Val) : Prop := ∀ (a b : Int) (h : Mem), St h → a ≤ b → b - a < 2 ^ 62 → (m [.ref 2, .int a, .int b] h).W (fun v h' => Dr h h' ∧ ∃ r, v = .int r ∧ a ≤ r ∧ r ≤ b) nX
theorem sp_between {c : CallT} (ht : SpTake (c "_law_take")) : SpBetween fun args h => fin (L_between c (args.map some ++ [none, none]) h) := by
  intro a b h st hab hb
  simp only [W_fin, L_between]
  simp
  refine take_then ht st (by decide) fun r h1 r1 r2 d1 => ?_
  simp
  refine ⟨fun _ => take_then ht d1.st ?_ fun q h2 q1 q2 d2 => ?_, fun _ => ⟨fun _ => take_then ht d1.st ?_ fun q h2 q1 q2 d2 => ?_, fun _ => take_then ht d1.st ?_ fun q h2 q1 q2 d2 => ?_⟩⟩
  · split <;> omega
  · simp
    refine ⟨d1.trans d2, ?_⟩
    split at q2 <;> omega
  · split <;> omega
  · simp
    refine ⟨d1.trans d2, ?_⟩
    split at q2 <;> omega
  · omega
  · simp
    exact ⟨d1.trans d2, by omega⟩
theorem between_then {m : List Val → Mem → Res Val} (hm : SpBetween m) {a b : Int} {h : Mem} {Q : Val → Mem → Prop} {X : XQ} (st : St h) (hab : a ≤ b) (hb : b - a < 2 ^ 62) (q : ∀ r h', a ≤ r → r ≤ b → Dr h h' → Q (.int r) h') : (m [.ref 2, .int a, .int b] h).W Q X :=
  (hm a b h st hab hb).mono fun v h' ⟨d, r, e, r1, r2⟩ => by rw [e]; exact q r h' r1 r2 d
def SpSize (m : List Val → Mem → Res Val) : Prop := ∀ (k : Int) (h : Mem), St h → 0 ≤ k → k < 2 ^ 62 → (m [.ref 2, .int k] h).W (fun v h' => Dr h h' ∧ ∃ r, v = .int r ∧ 0 ≤ r ∧ r ≤ k) nX
theorem sp_size {c : CallT} (ht : SpTake (c "_law_take")) : SpSize fun args h => fin (L_size c (args.map some ++ [none]) h) := by
  intro k h st hk hb
  simp only [W_fin, L_size]
  simp
  refine take_then ht st (by decide) fun r h1 r1 r2 d1 => ?_
  simp
  refine ⟨fun _ => ⟨d1, hk⟩, fun _ => ⟨fun _ => ⟨d1, hk⟩, fun _ => ⟨fun _ => ⟨d1, ?_⟩, fun _ => ⟨fun _ => take_then ht d1.st (by omega) fun q h2 q1 q2 d2 => ?_, fun _ => take_then ht d1.st ?_ fun q h2 q1 q2 d2 => ?_⟩⟩⟩⟩
  · split <;> omega
  · simp
    exact ⟨d1.trans d2, by omega⟩
  · split <;> omega
  · simp
    refine ⟨d1.trans d2, ?_⟩
    split at q2 <;> omega
theorem size_then {m : List Val → Mem → Res Val} (hm : SpSize m) {k : Int} {h : Mem} {Q : Val → Mem → Prop} {X : XQ} (st : St h) (h0 : 0 ≤ k) (hk : k < 2 ^ 62) (q : ∀ r h', 0 ≤ r → r ≤ k → Dr h h' → Q (.int r) h') : (m [.ref 2, .int k] h).W Q X :=
  (hm k h st h0 hk).mono fun v h' ⟨d, r, e, r1, r2⟩ => by rw [e]; exact q r h' r1 r2 d
/-- one of a row -/
def SpPick (m : List Val → Mem → Res Val) : Prop := ∀ (n : Nat) (xs : List Val) (h : Mem), St h → h[n]? = some (.lst xs) → n ≠ 2 → 0 < xs.length → xs.length < 2 ^ 62 → (m [.ref 2, .ref n] h).W (fun v h' => Dr h h' ∧ ∃ i, i < xs.length ∧ xs[i]? = some v) nX
theorem sp_pick {c : CallT} (ht : SpTake (c "_law_take")) : SpPick fun args h => fin (L_pick c (args.map some) h) := by
  intro n xs h st e hn h0 hl
  simp only [W_fin, L_pick]
  simp [e]
  refine take_then ht st (by omega) fun r h1 r1 r2 d1 => ?_
  have hr : r.toNat < xs.length := by omega
  simp [d1.get e hn, atI_pos _ r1, hr]
  exact ⟨d1, r.toNat, hr, by simp [hr]⟩
/-- the store is made -/
theorem sp_store (c : CallT) (ns : List Int) (salt : Int) (hl : ns.length ≤ 63) {Q : Val → Mem → Prop} {X : XQ} (q : ∀ h', h'.length = 3 → St h' → h'[0]? = some (.rol (ns.map .int)) → Q (.ref 2) h') :
    (fin (L_store c ([.ref 0, .int salt].map some ++ [none, none]) [.rol (ns.map .int)])).W Q X := by
  simp only [W_fin, L_store]
  simp
  refine ⟨mul_ok (.inr (by decide)), ?_⟩
  have e : ns.length = (ns.map Val.int).length := by simp
  conv => rw [e]
  refine for_rol (P := _) (xs := ns.map Val.int) (fun i ρ h => h = [Ob.rol (ns.map Val.int)] ∧ ∃ (s : Int) (x : Option Val), ρ = [some (.ref 0), some (.int salt), some (.int s), x]) ⟨rfl, _, _, rfl⟩ (fun i ρ h _ hI => by rw [hI.1]; rfl) ?_ ?_
  · rintro i x ρ h hx ⟨rfl, s, y, rfl⟩
    obtain ⟨j, rfl⟩ : ∃ j, x = .int j := by
      rw [List.getElem?_map] at hx
      cases q : ns[i]? with
      | none => rw [q] at hx; cases hx
      | some j => rw [q] at hx; exact ⟨j, (Option.some.inj hx).symm⟩
    simp
    exact mul_ok (.inr (by decide))
  · rintro ρ h ⟨rfl, s, y, rfl⟩
    simp
    refine ⟨Nat.le_trans hl (by decide), by decide, q _ rfl ⟨ns, 0, 0, 0, s, rfl, rfl, by decide, by decide⟩ rfl⟩
end Mp
set_option Elab.async false
set_option linter.all false
set_option maxRecDepth 100000
set_option maxHeartbeats 1000000
namespace Mp
open PySem L2
/-! ### _law_alike of like data -/
def L_alike (c : CallT) : MS := (sSeq (sIf (tOr (tE (eCmp .Is (eVar 0) (eC (.non)))) (tE (eCmp .Is (eVar 1) (eC (.non))))) (sRet (eAnd (eCmp .Is (eVar 0) (eC (.non))) (eCmp .Is (eVar 1) (eC (.non))))) sSkip) (sSeq (sIf (tOr (tE (eIsi ["bool"] (eVar 0))) (tE (eIsi ["bool"] (eVar 1)))) (sRet (eAnd (eIsi ["bool"] (eVar 0)) (eAnd (eIsi ["bool"] (eVar 1)) (eCmp .Eq (eVar 0) (eVar 1))))) sSkip) (sSeq (sIf (tE (eIsi ["int"] (eVar 0))) (sRet (eAnd (eIsi ["int"] (eVar 1)) (eCmp .Eq (eVar 0) (eVar 1)))) sSkip) (sSeq (sIf (tE (eIsi ["str"] (eVar 0))) (sRet (eAnd (eIsi ["str"] (eVar 1)) (eCmp .Eq (eVar 0) (eVar 1)))) sSkip) (sSeq (sIf (tE (eIsi ["list"] (eVar 0))) (sIf (tNot (tE (eIsi ["list"] (eVar 1)))) (sRet (eC (.bl false))) sSkip) (sIf (tOr (tNot (tE (eIsi ["tuple"] (eVar 0)))) (tNot (tE (eIsi ["tuple"] (eVar 1))))) (sRet (eC (.bl false))) sSkip)) (sSeq (sIf (tE (eCmp .NotEq (eBi .len (aCons (eVar 0) aNil)) (eBi .len (aCons (eVar 1) aNil)))) (sRet (eC (.bl false))) sSkip) (sSeq (sFor (.nm 2) (iRng1 (eBi .len (aCons (eVar 0) aNil))) (sIf (tNot (tE (eCall (c "_law_alike") (aCons (eIdx (eVar 0) (eVar 2)) (aCons (eIdx (eVar 1) (eVar 2)) aNil))))) (sRet (eC (.bl false))) sSkip) sSkip) (sRet (eC (.bl true))))))))))
/-- the same data, to the depth n -/
inductive Alk (h : Mem) : Nat → Val → Val → Prop
  | non {n : Nat} : Alk h n .non .non
  | bl {n : Nat} (b : Bool) : Alk h n (.bl b) (.bl b)
  | int {n : Nat} (i : Int) : Alk h n (.int i) (.int i)
  | str {n : Nat} (x : Str) (hx : SeqAt.shaped (.str x) = true) : Alk h n (.str x) (.str x)
  | tup {n : Nat} (xs ys : List Val) (hl : xs.length = ys.length) (hs : xs.length < 2 ^ 62) (ha : ∀ (i : Nat) (x y : Val), xs[i]? = some x → ys[i]? = some y → Alk h n x y) : Alk h (n + 1) (.tup xs) (.tup ys)
  | lst {n : Nat} (a b : Nat) (xs ys : List Val) (e1 : h[a]? = some (.lst xs)) (e2 : h[b]? = some (.lst ys)) (hl : xs.length = ys.length) (hs : xs.length < 2 ^ 62) (ha : ∀ (i : Nat) (x y : Val), xs[i]? = some x → ys[i]? = some y → Alk h n x y) : Alk h (n + 1) (.ref a) (.ref b)
def SpAlk (n : Nat) (m : List Val → Mem → Res Val) : Prop := ∀ (v w : Val) (h : Mem), Alk h n v w → m [v, w] h = .ok (.bl true) h
theorem sp_alike {c : CallT} {n : Nat} (ih : ∀ k, k < n → SpAlk k (c "_law_alike")) : SpAlk n fun args h => fin (L_alike c (args.map some ++ [none]) h) := by
  intro v w h A
  refine W_eq ?_
  simp only [W_fin, L_alike]
  cases A with
  | non => simp
  | bl b => simp [subTy]
  | int i => simp [subTy]
  | str x hx => simp [subTy, cmp_eq_str hx hx]
  | @tup k xs ys hl hs ha =>
    simp [subTy, hl]
    refine ⟨by unfold small62; simp; omega, ?_⟩
    refine for_rng (fun i ρ h' => h' = h ∧ ∃ z, ρ = [some (.tup xs), some (.tup ys), z]) ⟨rfl, _, rfl⟩ ?_ ?_
    · rintro i ρ h' hi ⟨rfl, z, rfl⟩
      have hi' : i < xs.length := by omega
      have hi2 : i < ys.length := by omega
      have := ih k (by omega) xs[i] ys[i] h' (ha i _ _ (by simp [hi']) (by simp [hi2]))
      simp [Mp.atI_nat, hi', hi2, this]
    · rintro ρ h' ⟨rfl, z, rfl⟩
      simp
  | @lst k a b xs ys e1 e2 hl hs ha =>
    simp [subTy, hl, e1, e2]
    refine ⟨by unfold small62; simp; omega, ?_⟩
    refine for_rng (fun i ρ h' => h' = h ∧ ∃ z, ρ = [some (.ref a), some (.ref b), z]) ⟨rfl, _, rfl⟩ ?_ ?_
    · rintro i ρ h' hi ⟨rfl, z, rfl⟩
      have hi' : i < xs.length := by omega
      have hi2 : i < ys.length := by omega
      have := ih k (by omega) xs[i] ys[i] h' (ha i _ _ (by simp [hi']) (by simp [hi2]))
      simp [Mp.atI_nat, hi', hi2, this, e1, e2]
    · rintro ρ h' ⟨rfl, z, rfl⟩
      simp
end Mp
set_option Elab.async false
set_option linter.all false
set_option maxRecDepth 100000
set_option maxHeartbeats 1000000
namespace Mp
open PySem L2
/-! ### roles of objects -/
section
variable {τ : Type}
/-- later: roles stay, objects out of R stay -/
structure Stp (R : τ → Prop) (o o' : Nat → τ) (h h' : Mem) : Prop where
  len : h.length ≤ h'.length
  own : ∀ x, x < h.length → o' x = o x
  keep : ∀ x, x < h.length → ¬ R (o x) → h'[x]? = h[x]?
theorem Stp.refl (R : τ → Prop) (o : Nat → τ) (h : Mem) : Stp R o o h h := ⟨Nat.le_refl _, fun _ _ => rfl, fun _ _ _ => rfl⟩
theorem Stp.get {R : τ → Prop} {o o' : Nat → τ} {h h' : Mem} (s : Stp R o o' h h') {x : Nat} {b : Ob} (e : h[x]? = some b) {r : τ} (hr : o x = r) (hn : ¬ R r) : h'[x]? = some b := by
  rw [s.keep x (lt_of_get e) (by rw [hr]; exact hn), e]
theorem Stp.role {R : τ → Prop} {o o' : Nat → τ} {h h' : Mem} (s : Stp R o o' h h') {x : Nat} {b : Ob} (e : h[x]? = some b) {r : τ} (hr : o x = r) : o' x = r := (s.own x (lt_of_get e)).trans hr
theorem Stp.trans {R R1 R2 : τ → Prop} {o o1 o2 : Nat → τ} {h h1 h2 : Mem} (a : Stp R1 o o1 h h1) (b : Stp R2 o1 o2 h1 h2) (i1 : ∀ r, R1 r → R r) (i2 : ∀ r, R2 r → R r) : Stp R o o2 h h2 :=
  ⟨Nat.le_trans a.len b.len, fun x hx => (b.own x (Nat.lt_of_lt_of_le hx a.len)).trans (a.own x hx), fun x hx hr => (b.keep x (Nat.lt_of_lt_of_le hx a.len) (fun z => hr (i2 _ (by rw [← a.own x hx]; exact z)))).trans (a.keep x hx fun z => hr (i1 _ z))⟩
theorem Stp.then {R : τ → Prop} {o o1 o2 : Nat → τ} {h h1 h2 : Mem} (a : Stp R o o1 h h1) (b : Stp R o1 o2 h1 h2) : Stp R o o2 h h2 := a.trans b (fun _ z => z) (fun _ z => z)
theorem Stp.mono {R R' : τ → Prop} {o o' : Nat → τ} {h h' : Mem} (a : Stp R o o' h h') (i : ∀ r, R r → R' r) : Stp R' o o' h h' := ⟨a.len, a.own, fun x hx hr => a.keep x hx fun z => hr (i _ z)⟩
theorem Stp.set {o : Nat → τ} {h : Mem} {a : Nat} {r : τ} (b : Ob) (hr : o a = r) : Stp (· = r) o o h (h.set a b) := ⟨by simp, fun _ _ => rfl, fun x hx hn => List.getElem?_set_ne fun e => hn (by rw [← e]; exact hr)⟩
/-- a new object -/
def upO (o : Nat → τ) (a : Nat) (r : τ) : Nat → τ := fun x => if x = a then r else o x
theorem upO_at (o : Nat → τ) (a : Nat) (r : τ) : upO o a r a = r := if_pos rfl
theorem upO_ne (o : Nat → τ) {a x : Nat} (r : τ) (h : x ≠ a) : upO o a r x = o x := if_neg h
theorem Stp.new (R : τ → Prop) (o : Nat → τ) (h : Mem) (b : Ob) (r : τ) : Stp R o (upO o h.length r) h (h ++ [b]) := ⟨by simp, fun x hx => if_neg (by omega), fun x hx _ => List.getElem?_append_left hx⟩
theorem Stp.app (R : τ → Prop) (o : Nat → τ) (h m : Mem) : Stp R o o h (h ++ m) := ⟨by simp, fun _ _ => rfl, fun x hx _ => List.getElem?_append_left hx⟩
theorem Stp.later {R : τ → Prop} {o o' : Nat → τ} {h h' : Mem} (s : Stp R o o' h h') {a : Nat} (ha : h.length ≤ a) (b : Ob) : Stp R o o' h (h'.set a b) := ⟨by rw [List.length_set]; exact s.len, s.own, fun y hy hr => by rw [List.getElem?_set_ne (by omega)]; exact s.keep y hy hr⟩
theorem Stp.draw {o : Nat → τ} {h h' : Mem} {r : τ} (d : Dr h h') (h2 : o 2 = r) : Stp (· = r) o o h h' := ⟨by rw [d.len]; exact Nat.le_refl _, fun _ _ => rfl, fun x hx hn => d.fr.keep x hx fun z => hn (by
  have : x = 2 := by simpa using z
  rw [this]
  exact h2)⟩
theorem Stp.lt {R : τ → Prop} {o o' : Nat → τ} {h h' : Mem} (s : Stp R o o' h h') {x : Nat} (hx : x < h.length) : x < h'.length := Nat.lt_of_lt_of_le hx s.len
end
theorem St.lt {h : Mem} (s : St h) : 3 ≤ h.length := by
  obtain ⟨ns, p, c, t, s, e, _⟩ := s.ex
  exact lt_of_get e
theorem St.stp {τ : Type} {R : τ → Prop} {o o' : Nat → τ} {h h' : Mem} {r2 r1 : τ} (s : St h) (k : Stp R o o' h h') (h2 : o 2 = r2) (h1 : o 1 = r1) (n2 : ¬ R r2) (n1 : ¬ R r1) : St h' := by
  obtain ⟨ns, p, c, t, s, e2, e1, hp, hc⟩ := s.ex
  exact ⟨ns, p, c, t, s, k.get e2 h2 n2, k.get e1 h1 n1, hp, hc⟩
theorem St.app {h : Mem} (s : St h) (m : Mem) : St (h ++ m) := by
  obtain ⟨ns, p, c, t, s, e2, e1, hp, hc⟩ := s.ex
  exact ⟨ns, p, c, t, s, get_app _ e2, get_app _ e1, hp, hc⟩
theorem St.set {h : Mem} (s : St h) {a : Nat} (h2 : a ≠ 2) (h1 : a ≠ 1) (b : Ob) : St (h.set a b) := by
  obtain ⟨ns, p, c, t, s, e2, e1, hp, hc⟩ := s.ex
  exact ⟨ns, p, c, t, s, get_set_ne e2 h2, get_set_ne e1 h1, hp, hc⟩
/-! ### k in a list of ints -/
theorem rds_ints (h : Mem) : ∀ (ns : List Int) (m : Nat), ns.length < m → rds h m (ns.map .int) = some (ns.map .int)
  | [], m + 1, _ => by simp [rds]
  | n :: ns, m + 1, hl => by
    have hm : ns.length < m := by simpa using hl
    obtain ⟨k, rfl⟩ : ∃ k, m = k + 1 := ⟨m - 1, by omega⟩
    simp only [List.map_cons, rds, rds_ints h ns (k + 1) hm, rd]
theorem shaped_ints (ns : List Int) : SeqAt.shaped (.list (ns.map .int)) = true := by
  have h1 : ∀ ns : List Int, PyData.canLayAll0 (ns.map .int) = true := fun ns => by
    induction ns with
    | nil => simp [PyData.canLayAll0]
    | cons n ns ih => simp [PyData.canLayAll0, PyData.canLay0, ih]
  have h2 : ∀ ns : List Int, PyData.depthAll (ns.map .int) = 0 := fun ns => by
    induction ns with
    | nil => simp [PyData.depthAll]
    | cons n ns ih => simp [PyData.depthAll, PyData.depth, ih]
  unfold SeqAt.shaped
  simp [PyData.canLay0, PyData.depth, h1, h2]
theorem rdS_ints {h : Mem} {a : Nat} {ns : List Int} (e : h[a]? = some (.lst (ns.map .int))) (hl : ns.length < 10000) : rdS h (.ref a) = some (.list (ns.map .int)) := by
  have : rd h 20000 (.ref a) = some (.list (ns.map .int)) := by
    show (match h[a]? with | some (.lst xs) => (rds h 19999 xs).map PyData.list | some (.rol xs) => (rds h 19999 xs).map PyData.list | _ => none) = _
    rw [e]
    show (rds h 19999 (ns.map .int)).map PyData.list = _
    rw [rds_ints h ns 19999 (by omega)]
    rfl
  unfold rdS
  rw [this]
  show (if SeqAt.shaped (.list (ns.map .int)) = true then _ else _) = _
  rw [if_pos (shaped_ints ns)]
theorem any_ints (i : Int) : ∀ ns : List Int, ((ns.map PyData.int).any fun z => PyData.eqv z (.int i)) = decide (i ∈ ns)
  | [] => by simp
  | n :: ns => by
    rw [List.map_cons, List.any_cons, any_ints i ns]
    have : PyData.eqv (.int n) (.int i) = decide (n = i) := rfl
    rw [this]
    by_cases h : n = i
    · simp [h]
    · simp [h, Ne.symm h]
theorem in_ints {h : Mem} {a : Nat} {ns : List Int} (i : Int) (e : h[a]? = some (.lst (ns.map .int))) (hl : ns.length < 10000) : cmpop .In h (.int i) (.ref a) = some (decide (i ∈ ns)) := by
  show inOp h (.int i) (.ref a) = _
  simp only [inOp, e, rdS_ints e hl, rdS_int, any_ints]
theorem notin_ints {h : Mem} {a : Nat} {ns : List Int} (i : Int) (e : h[a]? = some (.lst (ns.map .int))) (hl : ns.length < 10000) : cmpop .NotIn h (.int i) (.ref a) = some (!decide (i ∈ ns)) := by
  show (inOp h (.int i) (.ref a)).map _ = _
  rw [show inOp h (.int i) (.ref a) = some (decide (i ∈ ns)) from in_ints i e hl]
  rfl
theorem intsOf_map : ∀ ns : List Int, intsOf (ns.map .int) = some ns
  | [] => rfl
  | n :: ns => by simp [intsOf, intsOf_map ns]
@[simp] theorem cmp_eq_in {h : Mem} (i : Int) : cmpop .Eq h (.int i) .non = some false := rfl
/-! ### the draws, at any depth -/
structure Draws (call : Nat → CallT) : Prop where
  mixed : ∀ d, 1 ≤ d → SpMixed (call d "_law_mixed")
  take : ∀ d, 2 ≤ d → SpTake (call d "_law_take")
/-- made of a list -/
theorem list_get {α : Type} {xs : List α} {i : Nat} {x : α} (h : xs[i]? = some x) : i < xs.length := (List.getElem?_eq_some_iff.mp h).1
theorem map_inv {α β : Type} {f : α → β} {xs : List α} {i : Nat} {y : β} (h : (xs.map f)[i]? = some y) : ∃ x, xs[i]? = some x ∧ y = f x := by
  rw [List.getElem?_map] at h
  cases e : xs[i]? with
  | none => rw [e] at h; cases h
  | some x => rw [e] at h; cases h; exact ⟨x, rfl, rfl⟩
end Mp
set_option Elab.async false
set_option linter.all false
set_option maxRecDepth 100000
set_option maxHeartbeats 2000000
namespace K40
open PySem PySem.Spec PyProof.Rows L2 Mp
def top (i : Nat) : Stmt := PySem.Challenge.pw_wardwork_k40_ring_and_order_part_the_pid.main.body.getD i (.Pass ⟨0, 0, 0, 0⟩)
def d_law : Dd := { g := "law", at_ := ("law", none), name := "law", qual := "law", params := defArgs (top 43), ps := ["_law_script"], dfl := [], N := ["_law_script", "_law_store_here", "_law_waits_here", "_law_found_here", "_law_value"], sc := defScope (top 43), body := defBody (top 43) }
def d__law_judged : Dd := { g := "_law_judged", at_ := ("_law_judged", none), name := "_law_judged", qual := "_law_judged", params := defArgs (top 41), ps := ["_law_value", "_law_waits_here"], dfl := [], N := ["_law_value", "_law_waits_here", "_law_handed", "_law_known", "_law_told"], sc := defScope (top 41), body := defBody (top 41) }
def d__law_values : Dd := { g := "_law_values", at_ := ("_law_values", none), name := "_law_values", qual := "_law_values", params := defArgs (top 42), ps := ["_law_store_here", "_law_ring", "_law_order"], dfl := [], N := ["_law_store_here", "_law_ring", "_law_order", "_law_values_here"], sc := defScope (top 42), body := defBody (top 42) }
def d__law_alike : Dd := { g := "_law_alike", at_ := ("_law_alike", none), name := "_law_alike", qual := "_law_alike", params := defArgs (top 28), ps := ["_law_one", "_law_two"], dfl := [], N := ["_law_one", "_law_two", "_law_k"], sc := defScope (top 28), body := defBody (top 28) }
def d__law_found : Dd := { g := "_law_found", at_ := ("_law_found", none), name := "_law_found", qual := "_law_found", params := defArgs (top 40), ps := ["_law_waits_here"], dfl := [], N := ["_law_waits_here", "_law_handed", "_law_order", "_law_ring", "_law_rest", "_law_x", "_law_found_here"], sc := defScope (top 40), body := defBody (top 40) }
def d__law_wait_list : Dd := { g := "_law_wait_list", at_ := ("_law_wait_list", none), name := "_law_wait_list", qual := "_law_wait_list", params := defArgs (top 34), ps := ["_law_store_here"], dfl := [], N := ["_law_store_here", "_law_waits_here", "_law_wide", "_law_rows", "_law_row", "_law_others", "_law_x"], sc := defScope (top 34), body := defBody (top 34) }
def d__law_store : Dd := { g := "_law_store", at_ := ("_law_store", none), name := "_law_store", qual := "_law_store", params := defArgs (top 13), ps := ["_law_script", "_law_salt"], dfl := [], N := ["_law_script", "_law_salt", "_law_seed", "_law_cell"], sc := defScope (top 13), body := defBody (top 13) }
def d__law_is_going : Dd := { g := "_law_is_going", at_ := ("_law_is_going", none), name := "_law_is_going", qual := "_law_is_going", params := defArgs (top 37), ps := ["_law_value", "_law_waits_here"], dfl := [], N := ["_law_value", "_law_waits_here", "_law_pairs_here", "_law_pids", "_law_k", "_law_others", "_law_x"], sc := defScope (top 37), body := defBody (top 37) }
def d__law_is_ring : Dd := { g := "_law_is_ring", at_ := ("_law_is_ring", none), name := "_law_is_ring", qual := "_law_is_ring", params := defArgs (top 36), ps := ["_law_value", "_law_waits_here"], dfl := [], N := ["_law_value", "_law_waits_here", "_law_pairs_here", "_law_k", "_law_x"], sc := defScope (top 36), body := defBody (top 36) }
def d_is_order : Dd := { g := "is_order", at_ := ("is_order", none), name := "is_order", qual := "is_order", params := defArgs (top 10), ps := ["order", "waits"], dfl := [], N := ["order", "waits", "table", "occurring", "ahead", "pid", "others", "other"], sc := defScope (top 10), body := defBody (top 10) }
def d_is_ring : Dd := { g := "is_ring", at_ := ("is_ring", none), name := "is_ring", qual := "is_ring", params := defArgs (top 8), ps := ["ring", "waits"], dfl := [], N := ["ring", "waits", "table", "pid", "others", "other"], sc := defScope (top 8), body := defBody (top 8) }
def d__law_copy : Dd := { g := "_law_copy", at_ := ("_law_copy", none), name := "_law_copy", qual := "_law_copy", params := defArgs (top 29), ps := ["_law_value"], dfl := [], N := ["_law_value", "_law_x"], sc := defScope (top 29), body := defBody (top 29) }
def d__law_plain : Dd := { g := "_law_plain", at_ := ("_law_plain", none), name := "_law_plain", qual := "_law_plain", params := defArgs (top 23), ps := ["_law_store_here", "_law_deep"], dfl := [], N := ["_law_store_here", "_law_deep", "_law_way", "_law_rows", "_law_k"], sc := defScope (top 23), body := defBody (top 23) }
def d__law_doubled : Dd := { g := "_law_doubled", at_ := ("_law_doubled", none), name := "_law_doubled", qual := "_law_doubled", params := defArgs (top 33), ps := ["_law_store_here", "_law_row"], dfl := [], N := ["_law_store_here", "_law_row", "_law_place"], sc := defScope (top 33), body := defBody (top 33) }
def d__law_misshaped : Dd := { g := "_law_misshaped", at_ := ("_law_misshaped", none), name := "_law_misshaped", qual := "_law_misshaped", params := defArgs (top 27), ps := ["_law_store_here", "_law_value"], dfl := [], N := ["_law_store_here", "_law_value", "_law_path", "_law_part_here", "_law_new"], sc := defScope (top 27), body := defBody (top 27) }
def d__law_take : Dd := { g := "_law_take", at_ := ("_law_take", none), name := "_law_take", qual := "_law_take", params := defArgs (top 14), ps := ["_law_store_here", "_law_many"], dfl := [], N := ["_law_store_here", "_law_many", "_law_cell", "_law_digit"], sc := defScope (top 14), body := defBody (top 14) }
def d__law_subset : Dd := { g := "_law_subset", at_ := ("_law_subset", none), name := "_law_subset", qual := "_law_subset", params := defArgs (top 20), ps := ["_law_store_here", "_law_row"], dfl := [], N := ["_law_store_here", "_law_row", "_law_x"], sc := defScope (top 20), body := defBody (top 20) }
def d__law_shuffled : Dd := { g := "_law_shuffled", at_ := ("_law_shuffled", none), name := "_law_shuffled", qual := "_law_shuffled", params := defArgs (top 19), ps := ["_law_store_here", "_law_row"], dfl := [], N := ["_law_store_here", "_law_row", "_law_rest", "_law_rows", "_law_k"], sc := defScope (top 19), body := defBody (top 19) }
def d__law_occurring : Dd := { g := "_law_occurring", at_ := ("_law_occurring", none), name := "_law_occurring", qual := "_law_occurring", params := defArgs (top 32), ps := ["_law_waits_here"], dfl := [], N := ["_law_waits_here", "_law_pids", "_law_row", "_law_x"], sc := defScope (top 32), body := defBody (top 32) }
def d__law_is_least : Dd := { g := "_law_is_least", at_ := ("_law_is_least", none), name := "_law_is_least", qual := "_law_is_least", params := defArgs (top 39), ps := ["_law_order", "_law_waits_here"], dfl := [], N := ["_law_order", "_law_waits_here", "_law_pids", "_law_pairs_here", "_law_done", "_law_pid", "_law_able_here"], sc := defScope (top 39), body := defBody (top 39) }
def d_find_ring : Dd := { g := "find_ring", at_ := ("find_ring", none), name := "find_ring", qual := "find_ring", params := defArgs (top 7), ps := ["waits"], dfl := [], N := ["waits", "stuck", "pid", "others", "shrinking", "going", "other"], sc := defScope (top 7), body := defBody (top 7) }
def d_find_order : Dd := { g := "find_order", at_ := ("find_order", none), name := "find_order", qual := "find_order", params := defArgs (top 9), ps := ["waits"], dfl := [], N := ["waits", "table", "followers", "ready", "pid", "known", "order", "least"], sc := defScope (top 9), body := defBody (top 9) }
def d__law_distinct : Dd := { g := "_law_distinct", at_ := ("_law_distinct", none), name := "_law_distinct", qual := "_law_distinct", params := defArgs (top 18), ps := ["_law_store_here", "_law_many", "_law_count"], dfl := [], N := ["_law_store_here", "_law_many", "_law_count", "_law_rows", "_law_k"], sc := defScope (top 18), body := defBody (top 18) }
def d__law_waits : Dd := { g := "_law_waits", at_ := ("_law_waits", none), name := "_law_waits", qual := "_law_waits", params := defArgs (top 31), ps := ["_law_store_here"], dfl := [], N := ["_law_store_here", "_law_pool", "_law_way", "_law_waits_here", "_law_pid", "_law_many", "_law_k"], sc := defScope (top 31), body := defBody (top 31) }
def d__law_is_integer : Dd := { g := "_law_is_integer", at_ := ("_law_is_integer", none), name := "_law_is_integer", qual := "_law_is_integer", params := defArgs (top 30), ps := ["_law_value", "_law_low", "_law_high"], dfl := [], N := ["_law_value", "_law_low", "_law_high"], sc := defScope (top 30), body := defBody (top 30) }
def d__law_pairs : Dd := { g := "_law_pairs", at_ := ("_law_pairs", none), name := "_law_pairs", qual := "_law_pairs", params := defArgs (top 35), ps := ["_law_waits_here"], dfl := [], N := ["_law_waits_here", "_law_pairs_here", "_law_row"], sc := defScope (top 35), body := defBody (top 35) }
def d_occurring_pids : Dd := { g := "occurring_pids", at_ := ("occurring_pids", none), name := "occurring_pids", qual := "occurring_pids", params := defArgs (top 5), ps := ["waits"], dfl := [], N := ["waits", "pids", "pid", "others"], sc := defScope (top 5), body := defBody (top 5) }
def d_others_by_pid : Dd := { g := "others_by_pid", at_ := ("others_by_pid", none), name := "others_by_pid", qual := "others_by_pid", params := defArgs (top 4), ps := ["waits"], dfl := [], N := ["waits", "pid", "others"], sc := defScope (top 4), body := defBody (top 4) }
def d_distinct_numbers : Dd := { g := "distinct_numbers", at_ := ("distinct_numbers", none), name := "distinct_numbers", qual := "distinct_numbers", params := defArgs (top 3), ps := ["value", "greatest"], dfl := [], N := ["value", "greatest", "part"], sc := defScope (top 3), body := defBody (top 3) }
def d__law_pick : Dd := { g := "_law_pick", at_ := ("_law_pick", none), name := "_law_pick", qual := "_law_pick", params := defArgs (top 15), ps := ["_law_store_here", "_law_row"], dfl := [], N := ["_law_store_here", "_law_row"], sc := defScope (top 15), body := defBody (top 15) }
def d__law_text : Dd := { g := "_law_text", at_ := ("_law_text", none), name := "_law_text", qual := "_law_text", params := defArgs (top 22), ps := ["_law_store_here", "_law_count"], dfl := [], N := ["_law_store_here", "_law_count", "_law_signs", "_law_k"], sc := defScope (top 22), body := defBody (top 22) }
def d__law_integer : Dd := { g := "_law_integer", at_ := ("_law_integer", none), name := "_law_integer", qual := "_law_integer", params := defArgs (top 21), ps := ["_law_store_here"], dfl := [], N := ["_law_store_here", "_law_edges"], sc := defScope (top 21), body := defBody (top 21) }
def d__law_replaced : Dd := { g := "_law_replaced", at_ := ("_law_replaced", none), name := "_law_replaced", qual := "_law_replaced", params := defArgs (top 26), ps := ["_law_value", "_law_path", "_law_new"], dfl := [], N := ["_law_value", "_law_path", "_law_new", "_law_rows"], sc := defScope (top 26), body := defBody (top 26) }
def d__law_part : Dd := { g := "_law_part", at_ := ("_law_part", none), name := "_law_part", qual := "_law_part", params := defArgs (top 25), ps := ["_law_value", "_law_path"], dfl := [], N := ["_law_value", "_law_path", "_law_k"], sc := defScope (top 25), body := defBody (top 25) }
def d__law_places : Dd := { g := "_law_places", at_ := ("_law_places", none), name := "_law_places", qual := "_law_places", params := defArgs (top 24), ps := ["_law_value", "_law_path"], dfl := [], N := ["_law_value", "_law_path", "_law_rows", "_law_k"], sc := defScope (top 24), body := defBody (top 24) }
def d__law_mixed : Dd := { g := "_law_mixed", at_ := ("_law_mixed", none), name := "_law_mixed", qual := "_law_mixed", params := defArgs (top 12), ps := ["_law_number", "_law_turn", "_law_many"], dfl := [], N := ["_law_number", "_law_turn", "_law_many", "_law_first", "_law_second", "_law_third"], sc := defScope (top 12), body := defBody (top 12) }
def d__law_able : Dd := { g := "_law_able", at_ := ("_law_able", none), name := "_law_able", qual := "_law_able", params := defArgs (top 38), ps := ["_law_pids", "_law_pairs_here", "_law_done"], dfl := [], N := ["_law_pids", "_law_pairs_here", "_law_done", "_law_able_here", "_law_pid", "_law_others", "_law_x"], sc := defScope (top 38), body := defBody (top 38) }
def d_followers_by_pid : Dd := { g := "followers_by_pid", at_ := ("followers_by_pid", none), name := "followers_by_pid", qual := "followers_by_pid", params := defArgs (top 6), ps := ["waits"], dfl := [], N := ["waits", "followers", "pid", "others", "other"], sc := defScope (top 6), body := defBody (top 6) }
def d__law_fresh : Dd := { g := "_law_fresh", at_ := ("_law_fresh", none), name := "_law_fresh", qual := "_law_fresh", params := defArgs (top 17), ps := ["_law_number", "_law_taken", "_law_many"], dfl := [], N := ["_law_number", "_law_taken", "_law_many", "_law_k", "_law_place"], sc := defScope (top 17), body := defBody (top 17) }
def d__law_size : Dd := { g := "_law_size", at_ := ("_law_size", none), name := "_law_size", qual := "_law_size", params := defArgs (top 16), ps := ["_law_store_here", "_law_most"], dfl := [], N := ["_law_store_here", "_law_most", "_law_way"], sc := defScope (top 16), body := defBody (top 16) }
def d_whole_between : Dd := { g := "whole_between", at_ := ("whole_between", none), name := "whole_between", qual := "whole_between", params := defArgs (top 2), ps := ["value", "low", "high"], dfl := [], N := ["value", "low", "high"], sc := defScope (top 2), body := defBody (top 2) }
def glob_ : List (Str × Val) := [("GREATEST_PID", .int (99))]
def tops0 : List Str := ["law", "_law_judged", "_law_values", "_law_alike", "_law_found", "_law_wait_list", "_law_store", "_law_is_going", "_law_is_ring", "is_order", "is_ring", "_law_copy", "_law_plain", "_law_doubled", "_law_misshaped", "_law_take", "_law_subset", "_law_shuffled", "_law_occurring", "_law_is_least", "find_ring", "find_order", "_law_distinct", "_law_waits", "_law_is_integer"]
def tops1 : List Str := ["_law_pairs", "occurring_pids", "others_by_pid", "distinct_numbers", "_law_pick", "_law_text", "_law_integer", "_law_replaced", "_law_part", "_law_places", "_law_mixed", "_law_able", "followers_by_pid", "_law_fresh", "_law_size", "whole_between"]
def tops_ : List Str := tops0 ++ tops1
def shapes0 : List (Str × Nat × List Str) := [("law", 1, []), ("_law_judged", 2, []), ("_law_values", 3, []), ("_law_alike", 2, []), ("_law_found", 1, []), ("_law_wait_list", 1, []), ("_law_store", 2, []), ("_law_is_going", 2, []), ("_law_is_ring", 2, []), ("is_order", 0, ["waits", "order"]), ("is_ring", 0, ["waits", "ring"]), ("is_order", 2, []), ("is_ring", 2, []), ("_law_copy", 1, []), ("_law_plain", 2, []), ("_law_doubled", 2, []), ("_law_misshaped", 2, []), ("_law_take", 2, []), ("_law_subset", 2, []), ("_law_shuffled", 2, []), ("_law_occurring", 1, []), ("_law_is_least", 2, []), ("find_ring", 1, []), ("find_order", 0, ["waits"]), ("_law_distinct", 3, [])]
def shapes1 : List (Str × Nat × List Str) := [("_law_waits", 1, []), ("_law_is_integer", 3, []), ("_law_pairs", 1, []), ("occurring_pids", 1, []), ("others_by_pid", 1, []), ("distinct_numbers", 2, []), ("_law_pick", 2, []), ("_law_text", 2, []), ("_law_integer", 1, []), ("_law_replaced", 3, []), ("_law_part", 2, []), ("_law_places", 2, []), ("_law_mixed", 3, []), ("_law_able", 3, []), ("followers_by_pid", 1, []), ("_law_fresh", 3, []), ("_law_size", 2, []), ("whole_between", 3, [])]
def shapes_ : List (Str × Nat × List Str) := shapes0 ++ shapes1
def T : Txt := { dds := [d_law, d__law_judged, d__law_values, d__law_alike, d__law_found, d__law_wait_list, d__law_store, d__law_is_going, d__law_is_ring, d_is_order, d_is_ring, d__law_copy, d__law_plain, d__law_doubled, d__law_misshaped, d__law_take, d__law_subset, d__law_shuffled, d__law_occurring, d__law_is_least, d_find_ring, d_find_order, d__law_distinct, d__law_waits, d__law_is_integer, d__law_pairs, d_occurring_pids, d_others_by_pid, d_distinct_numbers, d__law_pick, d__law_text, d__law_integer, d__law_replaced, d__law_part, d__law_places, d__law_mixed, d__law_able, d_followers_by_pid, d__law_fresh, d__law_size, d_whole_between], tops := tops_, cls := [], glob := glob_, shapes := shapes_ }
theorem b0 : BindOk d_law 1 [] [.ps 0] := ⟨by kernel_rfl, by decide +kernel, by decide +kernel, by decide +kernel, fun _ _ _ _ _ _ _ _ _ => by show bindArgs _ _ = pure _; kernel_rfl, fun h => absurd rfl h, fun _ h => absurd rfl h, fun h => absurd rfl h⟩
theorem b1 : BindOk d__law_judged 2 [] [.ps 0, .ps 1] := ⟨by kernel_rfl, by decide +kernel, by decide +kernel, by decide +kernel, fun _ _ _ _ _ _ _ _ _ _ => by show bindArgs _ _ = pure _; kernel_rfl, fun h => absurd rfl h, fun _ h => absurd rfl h, fun h => absurd rfl h⟩
theorem b2 : BindOk d__law_values 3 [] [.ps 0, .ps 1, .ps 2] := ⟨by kernel_rfl, by decide +kernel, by decide +kernel, by decide +kernel, fun _ _ _ _ _ _ _ _ _ _ _ => by show bindArgs _ _ = pure _; kernel_rfl, fun h => absurd rfl h, fun _ h => absurd rfl h, fun h => absurd rfl h⟩
theorem b3 : BindOk d__law_alike 2 [] [.ps 0, .ps 1] := ⟨by kernel_rfl, by decide +kernel, by decide +kernel, by decide +kernel, fun _ _ _ _ _ _ _ _ _ _ => by show bindArgs _ _ = pure _; kernel_rfl, fun h => absurd rfl h, fun _ h => absurd rfl h, fun h => absurd rfl h⟩
theorem b4 : BindOk d__law_found 1 [] [.ps 0] := ⟨by kernel_rfl, by decide +kernel, by decide +kernel, by decide +kernel, fun _ _ _ _ _ _ _ _ _ => by show bindArgs _ _ = pure _; kernel_rfl, fun h => absurd rfl h, fun _ h => absurd rfl h, fun h => absurd rfl h⟩
theorem b5 : BindOk d__law_wait_list 1 [] [.ps 0] := ⟨by kernel_rfl, by decide +kernel, by decide +kernel, by decide +kernel, fun _ _ _ _ _ _ _ _ _ => by show bindArgs _ _ = pure _; kernel_rfl, fun h => absurd rfl h, fun _ h => absurd rfl h, fun h => absurd rfl h⟩
theorem b6 : BindOk d__law_store 2 [] [.ps 0, .ps 1] := ⟨by kernel_rfl, by decide +kernel, by decide +kernel, by decide +kernel, fun _ _ _ _ _ _ _ _ _ _ => by show bindArgs _ _ = pure _; kernel_rfl, fun h => absurd rfl h, fun _ h => absurd rfl h, fun h => absurd rfl h⟩
theorem b7 : BindOk d__law_is_going 2 [] [.ps 0, .ps 1] := ⟨by kernel_rfl, by decide +kernel, by decide +kernel, by decide +kernel, fun _ _ _ _ _ _ _ _ _ _ => by show bindArgs _ _ = pure _; kernel_rfl, fun h => absurd rfl h, fun _ h => absurd rfl h, fun h => absurd rfl h⟩
theorem b8 : BindOk d__law_is_ring 2 [] [.ps 0, .ps 1] := ⟨by kernel_rfl, by decide +kernel, by decide +kernel, by decide +kernel, fun _ _ _ _ _ _ _ _ _ _ => by show bindArgs _ _ = pure _; kernel_rfl, fun h => absurd rfl h, fun _ h => absurd rfl h, fun h => absurd rfl h⟩
theorem b9 : BindOk d_is_order 0 ["waits", "order"] [.kw 1, .kw 0] := ⟨by kernel_rfl, by decide +kernel, by decide +kernel, by decide +kernel, fun _ _ _ _ _ _ _ _ _ _ => by show bindArgs _ _ = pure _; kernel_rfl, fun h => absurd rfl h, fun _ h => absurd rfl h, fun h => absurd rfl h⟩
theorem b10 : BindOk d_is_ring 0 ["waits", "ring"] [.kw 1, .kw 0] := ⟨by kernel_rfl, by decide +kernel, by decide +kernel, by decide +kernel, fun _ _ _ _ _ _ _ _ _ _ => by show bindArgs _ _ = pure _; kernel_rfl, fun h => absurd rfl h, fun _ h => absurd rfl h, fun h => absurd rfl h⟩
theorem b11 : BindOk d_is_order 2 [] [.ps 0, .ps 1] := ⟨by kernel_rfl, by decide +kernel, by decide +kernel, by decide +kernel, fun _ _ _ _ _ _ _ _ _ _ => by show bindArgs _ _ = pure _; kernel_rfl, fun h => absurd rfl h, fun _ h => absurd rfl h, fun h => absurd rfl h⟩
theorem b12 : BindOk d_is_ring 2 [] [.ps 0, .ps 1] := ⟨by kernel_rfl, by decide +kernel, by decide +kernel, by decide +kernel, fun _ _ _ _ _ _ _ _ _ _ => by show bindArgs _ _ = pure _; kernel_rfl, fun h => absurd rfl h, fun _ h => absurd rfl h, fun h => absurd rfl h⟩
theorem b13 : BindOk d__law_copy 1 [] [.ps 0] := ⟨by kernel_rfl, by decide +kernel, by decide +kernel, by decide +kernel, fun _ _ _ _ _ _ _ _ _ => by show bindArgs _ _ = pure _; kernel_rfl, fun h => absurd rfl h, fun _ h => absurd rfl h, fun h => absurd rfl h⟩
theorem b14 : BindOk d__law_plain 2 [] [.ps 0, .ps 1] := ⟨by kernel_rfl, by decide +kernel, by decide +kernel, by decide +kernel, fun _ _ _ _ _ _ _ _ _ _ => by show bindArgs _ _ = pure _; kernel_rfl, fun h => absurd rfl h, fun _ h => absurd rfl h, fun h => absurd rfl h⟩
theorem b15 : BindOk d__law_doubled 2 [] [.ps 0, .ps 1] := ⟨by kernel_rfl, by decide +kernel, by decide +kernel, by decide +kernel, fun _ _ _ _ _ _ _ _ _ _ => by show bindArgs _ _ = pure _; kernel_rfl, fun h => absurd rfl h, fun _ h => absurd rfl h, fun h => absurd rfl h⟩
theorem b16 : BindOk d__law_misshaped 2 [] [.ps 0, .ps 1] := ⟨by kernel_rfl, by decide +kernel, by decide +kernel, by decide +kernel, fun _ _ _ _ _ _ _ _ _ _ => by show bindArgs _ _ = pure _; kernel_rfl, fun h => absurd rfl h, fun _ h => absurd rfl h, fun h => absurd rfl h⟩
theorem b17 : BindOk d__law_take 2 [] [.ps 0, .ps 1] := ⟨by kernel_rfl, by decide +kernel, by decide +kernel, by decide +kernel, fun _ _ _ _ _ _ _ _ _ _ => by show bindArgs _ _ = pure _; kernel_rfl, fun h => absurd rfl h, fun _ h => absurd rfl h, fun h => absurd rfl h⟩
theorem b18 : BindOk d__law_subset 2 [] [.ps 0, .ps 1] := ⟨by kernel_rfl, by decide +kernel, by decide +kernel, by decide +kernel, fun _ _ _ _ _ _ _ _ _ _ => by show bindArgs _ _ = pure _; kernel_rfl, fun h => absurd rfl h, fun _ h => absurd rfl h, fun h => absurd rfl h⟩
theorem b19 : BindOk d__law_shuffled 2 [] [.ps 0, .ps 1] := ⟨by kernel_rfl, by decide +kernel, by decide +kernel, by decide +kernel, fun _ _ _ _ _ _ _ _ _ _ => by show bindArgs _ _ = pure _; kernel_rfl, fun h => absurd rfl h, fun _ h => absurd rfl h, fun h => absurd rfl h⟩
theorem b20 : BindOk d__law_occurring 1 [] [.ps 0] := ⟨by kernel_rfl, by decide +kernel, by decide +kernel, by decide +kernel, fun _ _ _ _ _ _ _ _ _ => by show bindArgs _ _ = pure _; kernel_rfl, fun h => absurd rfl h, fun _ h => absurd rfl h, fun h => absurd rfl h⟩
theorem b21 : BindOk d__law_is_least 2 [] [.ps 0, .ps 1] := ⟨by kernel_rfl, by decide +kernel, by decide +kernel, by decide +kernel, fun _ _ _ _ _ _ _ _ _ _ => by show bindArgs _ _ = pure _; kernel_rfl, fun h => absurd rfl h, fun _ h => absurd rfl h, fun h => absurd rfl h⟩
theorem b22 : BindOk d_find_ring 1 [] [.ps 0] := ⟨by kernel_rfl, by decide +kernel, by decide +kernel, by decide +kernel, fun _ _ _ _ _ _ _ _ _ => by show bindArgs _ _ = pure _; kernel_rfl, fun h => absurd rfl h, fun _ h => absurd rfl h, fun h => absurd rfl h⟩
theorem b23 : BindOk d_find_order 0 ["waits"] [.kw 0] := ⟨by kernel_rfl, by decide +kernel, by decide +kernel, by decide +kernel, fun _ _ _ _ _ _ _ _ _ => by show bindArgs _ _ = pure _; kernel_rfl, fun h => absurd rfl h, fun _ h => absurd rfl h, fun h => absurd rfl h⟩
theorem b24 : BindOk d__law_distinct 3 [] [.ps 0, .ps 1, .ps 2] := ⟨by kernel_rfl, by decide +kernel, by decide +kernel, by decide +kernel, fun _ _ _ _ _ _ _ _ _ _ _ => by show bindArgs _ _ = pure _; kernel_rfl, fun h => absurd rfl h, fun _ h => absurd rfl h, fun h => absurd rfl h⟩
theorem b25 : BindOk d__law_waits 1 [] [.ps 0] := ⟨by kernel_rfl, by decide +kernel, by decide +kernel, by decide +kernel, fun _ _ _ _ _ _ _ _ _ => by show bindArgs _ _ = pure _; kernel_rfl, fun h => absurd rfl h, fun _ h => absurd rfl h, fun h => absurd rfl h⟩
theorem b26 : BindOk d__law_is_integer 3 [] [.ps 0, .ps 1, .ps 2] := ⟨by kernel_rfl, by decide +kernel, by decide +kernel, by decide +kernel, fun _ _ _ _ _ _ _ _ _ _ _ => by show bindArgs _ _ = pure _; kernel_rfl, fun h => absurd rfl h, fun _ h => absurd rfl h, fun h => absurd rfl h⟩
theorem b27 : BindOk d__law_pairs 1 [] [.ps 0] := ⟨by kernel_rfl, by decide +kernel, by decide +kernel, by decide +kernel, fun _ _ _ _ _ _ _ _ _ => by show bindArgs _ _ = pure _; kernel_rfl, fun h => absurd rfl h, fun _ h => absurd rfl h, fun h => absurd rfl h⟩
theorem b28 : BindOk d_occurring_pids 1 [] [.ps 0] := ⟨by kernel_rfl, by decide +kernel, by decide +kernel, by decide +kernel, fun _ _ _ _ _ _ _ _ _ => by show bindArgs _ _ = pure _; kernel_rfl, fun h => absurd rfl h, fun _ h => absurd rfl h, fun h => absurd rfl h⟩
theorem b29 : BindOk d_others_by_pid 1 [] [.ps 0] := ⟨by kernel_rfl, by decide +kernel, by decide +kernel, by decide +kernel, fun _ _ _ _ _ _ _ _ _ => by show bindArgs _ _ = pure _; kernel_rfl, fun h => absurd rfl h, fun _ h => absurd rfl h, fun h => absurd rfl h⟩
theorem b30 : BindOk d_distinct_numbers 2 [] [.ps 0, .ps 1] := ⟨by kernel_rfl, by decide +kernel, by decide +kernel, by decide +kernel, fun _ _ _ _ _ _ _ _ _ _ => by show bindArgs _ _ = pure _; kernel_rfl, fun h => absurd rfl h, fun _ h => absurd rfl h, fun h => absurd rfl h⟩
theorem b31 : BindOk d__law_pick 2 [] [.ps 0, .ps 1] := ⟨by kernel_rfl, by decide +kernel, by decide +kernel, by decide +kernel, fun _ _ _ _ _ _ _ _ _ _ => by show bindArgs _ _ = pure _; kernel_rfl, fun h => absurd rfl h, fun _ h => absurd rfl h, fun h => absurd rfl h⟩
theorem b32 : BindOk d__law_text 2 [] [.ps 0, .ps 1] := ⟨by kernel_rfl, by decide +kernel, by decide +kernel, by decide +kernel, fun _ _ _ _ _ _ _ _ _ _ => by show bindArgs _ _ = pure _; kernel_rfl, fun h => absurd rfl h, fun _ h => absurd rfl h, fun h => absurd rfl h⟩
theorem b33 : BindOk d__law_integer 1 [] [.ps 0] := ⟨by kernel_rfl, by decide +kernel, by decide +kernel, by decide +kernel, fun _ _ _ _ _ _ _ _ _ => by show bindArgs _ _ = pure _; kernel_rfl, fun h => absurd rfl h, fun _ h => absurd rfl h, fun h => absurd rfl h⟩
theorem b34 : BindOk d__law_replaced 3 [] [.ps 0, .ps 1, .ps 2] := ⟨by kernel_rfl, by decide +kernel, by decide +kernel, by decide +kernel, fun _ _ _ _ _ _ _ _ _ _ _ => by show bindArgs _ _ = pure _; kernel_rfl, fun h => absurd rfl h, fun _ h => absurd rfl h, fun h => absurd rfl h⟩
theorem b35 : BindOk d__law_part 2 [] [.ps 0, .ps 1] := ⟨by kernel_rfl, by decide +kernel, by decide +kernel, by decide +kernel, fun _ _ _ _ _ _ _ _ _ _ => by show bindArgs _ _ = pure _; kernel_rfl, fun h => absurd rfl h, fun _ h => absurd rfl h, fun h => absurd rfl h⟩
theorem b36 : BindOk d__law_places 2 [] [.ps 0, .ps 1] := ⟨by kernel_rfl, by decide +kernel, by decide +kernel, by decide +kernel, fun _ _ _ _ _ _ _ _ _ _ => by show bindArgs _ _ = pure _; kernel_rfl, fun h => absurd rfl h, fun _ h => absurd rfl h, fun h => absurd rfl h⟩
theorem b37 : BindOk d__law_mixed 3 [] [.ps 0, .ps 1, .ps 2] := ⟨by kernel_rfl, by decide +kernel, by decide +kernel, by decide +kernel, fun _ _ _ _ _ _ _ _ _ _ _ => by show bindArgs _ _ = pure _; kernel_rfl, fun h => absurd rfl h, fun _ h => absurd rfl h, fun h => absurd rfl h⟩
theorem b38 : BindOk d__law_able 3 [] [.ps 0, .ps 1, .ps 2] := ⟨by kernel_rfl, by decide +kernel, by decide +kernel, by decide +kernel, fun _ _ _ _ _ _ _ _ _ _ _ => by show bindArgs _ _ = pure _; kernel_rfl, fun h => absurd rfl h, fun _ h => absurd rfl h, fun h => absurd rfl h⟩
theorem b39 : BindOk d_followers_by_pid 1 [] [.ps 0] := ⟨by kernel_rfl, by decide +kernel, by decide +kernel, by decide +kernel, fun _ _ _ _ _ _ _ _ _ => by show bindArgs _ _ = pure _; kernel_rfl, fun h => absurd rfl h, fun _ h => absurd rfl h, fun h => absurd rfl h⟩
theorem b40 : BindOk d__law_fresh 3 [] [.ps 0, .ps 1, .ps 2] := ⟨by kernel_rfl, by decide +kernel, by decide +kernel, by decide +kernel, fun _ _ _ _ _ _ _ _ _ _ _ => by show bindArgs _ _ = pure _; kernel_rfl, fun h => absurd rfl h, fun _ h => absurd rfl h, fun h => absurd rfl h⟩
theorem b41 : BindOk d__law_size 2 [] [.ps 0, .ps 1] := ⟨by kernel_rfl, by decide +kernel, by decide +kernel, by decide +kernel, fun _ _ _ _ _ _ _ _ _ _ => by show bindArgs _ _ = pure _; kernel_rfl, fun h => absurd rfl h, fun _ h => absurd rfl h, fun h => absurd rfl h⟩
theorem b42 : BindOk d_whole_between 3 [] [.ps 0, .ps 1, .ps 2] := ⟨by kernel_rfl, by decide +kernel, by decide +kernel, by decide +kernel, fun _ _ _ _ _ _ _ _ _ _ _ => by show bindArgs _ _ = pure _; kernel_rfl, fun h => absurd rfl h, fun _ h => absurd rfl h, fun h => absurd rfl h⟩
theorem txtOk : TxtOk T where
  nd := by decide +kernel
  sc := by decide +kernel
  sh := by
    intro s hs
    simp only [T, shapes_, shapes0, shapes1, List.mem_append, List.mem_cons, List.not_mem_nil, or_false] at hs
    rcases hs with (rfl | rfl | rfl | rfl | rfl | rfl | rfl | rfl | rfl | rfl | rfl | rfl | rfl | rfl | rfl | rfl | rfl | rfl | rfl | rfl | rfl | rfl | rfl | rfl | rfl) | (rfl | rfl | rfl | rfl | rfl | rfl | rfl | rfl | rfl | rfl | rfl | rfl | rfl | rfl | rfl | rfl | rfl | rfl)
    · exact ⟨d_law, by simp [T], rfl, _, b0⟩
    · exact ⟨d__law_judged, by simp [T], rfl, _, b1⟩
    · exact ⟨d__law_values, by simp [T], rfl, _, b2⟩
    · exact ⟨d__law_alike, by simp [T], rfl, _, b3⟩
    · exact ⟨d__law_found, by simp [T], rfl, _, b4⟩
    · exact ⟨d__law_wait_list, by simp [T], rfl, _, b5⟩
    · exact ⟨d__law_store, by simp [T], rfl, _, b6⟩
    · exact ⟨d__law_is_going, by simp [T], rfl, _, b7⟩
    · exact ⟨d__law_is_ring, by simp [T], rfl, _, b8⟩
    · exact ⟨d_is_order, by simp [T], rfl, _, b9⟩
    · exact ⟨d_is_ring, by simp [T], rfl, _, b10⟩
    · exact ⟨d_is_order, by simp [T], rfl, _, b11⟩
    · exact ⟨d_is_ring, by simp [T], rfl, _, b12⟩
    · exact ⟨d__law_copy, by simp [T], rfl, _, b13⟩
    · exact ⟨d__law_plain, by simp [T], rfl, _, b14⟩
    · exact ⟨d__law_doubled, by simp [T], rfl, _, b15⟩
    · exact ⟨d__law_misshaped, by simp [T], rfl, _, b16⟩
    · exact ⟨d__law_take, by simp [T], rfl, _, b17⟩
    · exact ⟨d__law_subset, by simp [T], rfl, _, b18⟩
    · exact ⟨d__law_shuffled, by simp [T], rfl, _, b19⟩
    · exact ⟨d__law_occurring, by simp [T], rfl, _, b20⟩
    · exact ⟨d__law_is_least, by simp [T], rfl, _, b21⟩
    · exact ⟨d_find_ring, by simp [T], rfl, _, b22⟩
    · exact ⟨d_find_order, by simp [T], rfl, _, b23⟩
    · exact ⟨d__law_distinct, by simp [T], rfl, _, b24⟩
    · exact ⟨d__law_waits, by simp [T], rfl, _, b25⟩
    · exact ⟨d__law_is_integer, by simp [T], rfl, _, b26⟩
    · exact ⟨d__law_pairs, by simp [T], rfl, _, b27⟩
    · exact ⟨d_occurring_pids, by simp [T], rfl, _, b28⟩
    · exact ⟨d_others_by_pid, by simp [T], rfl, _, b29⟩
    · exact ⟨d_distinct_numbers, by simp [T], rfl, _, b30⟩
    · exact ⟨d__law_pick, by simp [T], rfl, _, b31⟩
    · exact ⟨d__law_text, by simp [T], rfl, _, b32⟩
    · exact ⟨d__law_integer, by simp [T], rfl, _, b33⟩
    · exact ⟨d__law_replaced, by simp [T], rfl, _, b34⟩
    · exact ⟨d__law_part, by simp [T], rfl, _, b35⟩
    · exact ⟨d__law_places, by simp [T], rfl, _, b36⟩
    · exact ⟨d__law_mixed, by simp [T], rfl, _, b37⟩
    · exact ⟨d__law_able, by simp [T], rfl, _, b38⟩
    · exact ⟨d_followers_by_pid, by simp [T], rfl, _, b39⟩
    · exact ⟨d__law_fresh, by simp [T], rfl, _, b40⟩
    · exact ⟨d__law_size, by simp [T], rfl, _, b41⟩
    · exact ⟨d_whole_between, by simp [T], rfl, _, b42⟩
  tops := by decide +kernel
  cl := by decide +kernel
  pr := by decide +kernel
  nob := by decide +kernel
end K40
set_option Elab.async false
set_option linter.all false
set_option maxRecDepth 100000
set_option maxHeartbeats 2000000
namespace K40
open Mp PySem
abbrev Γ : Pg := T.pg
def s_law (c : CallT) : MS := (sSeq (sSet 1 (eCall (c "_law_store") (aCons (eVar 0) (aCons (eC (.int (40))) aNil)))) (sSeq (sSet 2 (eCall (c "_law_wait_list") (aCons (eVar 1) aNil))) (sSeq (sSet 3 (eCall (c "_law_found") (aCons (eVar 2) aNil))) (sSeq (sIf (tOr (tE (eCmp .Is (eVar 3) (eC (.non)))) (tOr (tE (eCmp .Is (eCall (c "_law_found") (aCons (eSlice (eVar 2) oNone (oSome (eNeg (eC (.int (1)))))) aNil)) (eC (.non)))) (tNot (tE (eCall (c "_law_alike") (aCons (eVar 3) (aCons (eCall (c "_law_found") (aCons (eVar 2) aNil)) aNil))))))) (sRet (eC (.bl false))) sSkip) (sSeq (sFor (.nm 4) (iVal (eCall (c "_law_values") (aCons (eVar 1) (aCons (eIdx (eVar 3) (eC (.int (0)))) (aCons (eIdx (eVar 3) (eC (.int (1)))) aNil))))) (sIf (tNot (tE (eCall (c "_law_judged") (aCons (eVar 4) (aCons (eVar 2) aNil))))) (sRet (eC (.bl false))) sSkip) sSkip) (sRet (eC (.bl true))))))))
theorem c_law (d : Nat) (a0 : Val) (h : Mem) : callF Γ (d + 1) "law" [a0] h = fin (s_law (callF Γ d) [some a0, none, none, none, none] h) := by kernel_rfl
def s__law_judged (c : CallT) : MS := (sSeq (sSet 2 (eCall (c "_law_copy") (aCons (eVar 0) aNil))) (sSeq (sSet 3 (eCall (c "_law_copy") (aCons (eVar 1) aNil))) (sSeq (sSet 4 (eLst (aCons (eCall (c "is_ring") (aCons (eVar 2) (aCons (eVar 3) aNil))) (aCons (eCall (c "is_order") (aCons (eVar 2) (aCons (eVar 3) aNil))) aNil)))) (sSeq (sSet 4 (eBin .Add (eVar 4) (eLst (aCons (eCallS (c "is_ring") [.kw 1, .kw 0] aNil (aCons (eVar 3) (aCons (eVar 2) aNil))) (aCons (eCallS (c "is_order") [.kw 1, .kw 0] aNil (aCons (eVar 3) (aCons (eVar 2) aNil))) aNil))))) (sSeq (sIf (tNot (tE (eCall (c "_law_alike") (aCons (eBin .Mult (eLst (aCons (eCall (c "_law_is_ring") (aCons (eVar 0) (aCons (eVar 1) aNil))) (aCons (eCall (c "_law_is_going") (aCons (eVar 0) (aCons (eVar 1) aNil))) aNil))) (eC (.int (2)))) (aCons (eVar 4) aNil))))) (sRet (eC (.bl false))) sSkip) (sRet (eAnd (eCall (c "_law_alike") (aCons (eVar 0) (aCons (eVar 2) aNil))) (eCall (c "_law_alike") (aCons (eVar 1) (aCons (eVar 3) aNil))))))))))
theorem c__law_judged (d : Nat) (a0 a1 : Val) (h : Mem) : callF Γ (d + 1) "_law_judged" [a0, a1] h = fin (s__law_judged (callF Γ d) [some a0, some a1, none, none, none] h) := by kernel_rfl
def s__law_values (c : CallT) : MS := (sSeq (sSet 3 (eLst (aCons (eVar 1) (aCons (eVar 2) (aCons (eLst aNil) (aCons (eCall (c "_law_shuffled") (aCons (eVar 0) (aCons (eVar 1) aNil))) (aCons (eSlice (eVar 2) oNone (oSome (eCall (c "_law_take") (aCons (eVar 0) (aCons (eBin .Add (eBi .len (aCons (eVar 2) aNil)) (eC (.int (1)))) aNil))))) aNil))))))) (sSeq (sExpr (eMeth Γ c "append" 1 [] (eVar 3) (aCons (eCall (c "_law_shuffled") (aCons (eVar 0) (aCons (eVar 2) aNil))) aNil) aNil)) (sSeq (sExpr (eMeth Γ c "append" 1 [] (eVar 3) (aCons (eCall (c "_law_subset") (aCons (eVar 0) (aCons (eVar 1) aNil))) aNil) aNil)) (sSeq (sExpr (eMeth Γ c "append" 1 [] (eVar 3) (aCons (eBin .Add (eVar 2) (eLst (aCons (eCall (c "_law_take") (aCons (eVar 0) (aCons (eC (.int (100))) aNil))) aNil))) aNil) aNil)) (sSeq (sExpr (eMeth Γ c "append" 1 [] (eVar 3) (aCons (eBin .Add (eVar 1) (eLst (aCons (eCall (c "_law_take") (aCons (eVar 0) (aCons (eC (.int (100))) aNil))) aNil))) aNil) aNil)) (sSeq (sExpr (eMeth Γ c "append" 1 [] (eVar 3) (aCons (eCall (c "_law_misshaped") (aCons (eVar 0) (aCons (eVar 1) aNil))) aNil) aNil)) (sSeq (sExpr (eMeth Γ c "append" 1 [] (eVar 3) (aCons (eCall (c "_law_misshaped") (aCons (eVar 0) (aCons (eVar 2) aNil))) aNil) aNil)) (sSeq (sIf (tE (eCmp .Gt (eBi .len (aCons (eVar 1) aNil)) (eC (.int (0))))) (sSeq (sExpr (eMeth Γ c "append" 1 [] (eVar 3) (aCons (eCall (c "_law_doubled") (aCons (eVar 0) (aCons (eVar 1) aNil))) aNil) aNil)) (sExpr (eMeth Γ c "append" 1 [] (eVar 3) (aCons (eBin .Add (eVar 2) (eSlice (eVar 1) oNone (oSome (eC (.int (1)))))) aNil) aNil))) sSkip) (sSeq (sIf (tE (eCmp .Gt (eBi .len (aCons (eVar 2) aNil)) (eC (.int (0))))) (sSeq (sExpr (eMeth Γ c "append" 1 [] (eVar 3) (aCons (eCall (c "_law_doubled") (aCons (eVar 0) (aCons (eVar 2) aNil))) aNil) aNil)) (sExpr (eMeth Γ c "append" 1 [] (eVar 3) (aCons (eBin .Add (eSlice (eVar 2) (oSome (eC (.int (1)))) oNone) (eSlice (eVar 2) oNone (oSome (eC (.int (1)))))) aNil) aNil))) sSkip) (sSeq (sExpr (eMeth Γ c "extend" 1 [] (eVar 3) (aCons (eLst (aCons (eLst (aCons (eLst (aCons (eC (.int (0))) aNil)) aNil)) (aCons (eLst (aCons (eTup (aCons (eLst aNil) aNil)) aNil)) (aCons (eBin .Add (eVar 1) (eLst (aCons (eLst (aCons (eC (.int (0))) aNil)) aNil))) (aCons (eBin .Add (eVar 2) (eLst (aCons (eLst aNil) aNil))) aNil))))) aNil) aNil)) (sSeq (sExpr (eMeth Γ c "append" 1 [] (eVar 3) (aCons (eCall (c "_law_plain") (aCons (eVar 0) (aCons (eC (.int (2))) aNil))) aNil) aNil)) (sRet (eVar 3)))))))))))))
theorem c__law_values (d : Nat) (a0 a1 a2 : Val) (h : Mem) : callF Γ (d + 1) "_law_values" [a0, a1, a2] h = fin (s__law_values (callF Γ d) [some a0, some a1, some a2, none] h) := by kernel_rfl
abbrev s__law_alike : CallT → MS := L_alike
theorem c__law_alike (d : Nat) (a0 a1 : Val) (h : Mem) : callF Γ (d + 1) "_law_alike" [a0, a1] h = fin (s__law_alike (callF Γ d) [some a0, some a1, none] h) := by kernel_rfl
def s__law_found (c : CallT) : MS := (sSeq (sSet 1 (eCall (c "_law_copy") (aCons (eVar 0) aNil))) (sSeq (sSet 2 (eCallS (c "find_order") [.kw 0] aNil (aCons (eVar 1) aNil))) (sSeq (sSet 3 (eCall (c "find_ring") (aCons (eVar 1) aNil))) (sSeq (sIf (tOr (tNot (tE (eCall (c "_law_alike") (aCons (eVar 0) (aCons (eVar 1) aNil))))) (tOr (tNot (tE (eCall (c "_law_is_going") (aCons (eVar 2) (aCons (eVar 0) aNil))))) (tNot (tE (eCall (c "_law_is_least") (aCons (eVar 2) (aCons (eVar 0) aNil))))))) (sRet (eC (.non))) sSkip) (sSeq (sSet 4 (eLc [5] (.nm 5) (iVal (eCall (c "_law_occurring") (aCons (eVar 0) aNil))) (tE (eIn Γ c true (eVar 5) (eVar 2))) (eVar 5))) (sSeq (sIf (tOr (tNot (tE (eCall (c "_law_alike") (aCons (eVar 4) (aCons (eVar 3) aNil))))) (tAnd (tE (eCmp .Gt (eBi .len (aCons (eVar 4) aNil)) (eC (.int (0))))) (tNot (tE (eCall (c "_law_is_ring") (aCons (eVar 4) (aCons (eVar 0) aNil))))))) (sRet (eC (.non))) sSkip) (sSeq (sSet 6 (eTup (aCons (eVar 4) (aCons (eBi .list (aCons (eVar 2) aNil)) aNil)))) (sSeq (sExpr (eMeth Γ c "append" 1 [] (eVar 2) (aCons (eC (.int (0))) aNil) aNil)) (sSeq (sExpr (eMeth Γ c "append" 1 [] (eVar 3) (aCons (eC (.int (0))) aNil) aNil)) (sRet (eVar 6)))))))))))
theorem c__law_found (d : Nat) (a0 : Val) (h : Mem) : callF Γ (d + 1) "_law_found" [a0] h = fin (s__law_found (callF Γ d) [some a0, none, none, none, none, none, none] h) := by kernel_rfl
def s__law_wait_list (c : CallT) : MS := (sSeq (sSet 1 (eCall (c "_law_waits") (aCons (eVar 0) aNil))) (sSeq (sSet 2 (eCmp .Eq (eCall (c "_law_take") (aCons (eVar 0) (aCons (eC (.int (4))) aNil))) (eC (.int (0))))) (sSeq (sSet 3 (eLst aNil)) (sSeq (sFor (.nm 4) (iVal (eVar 1)) (sSeq (sSet 5 (eBi .list (aCons (eIdx (eVar 4) (eC (.int (1)))) aNil))) (sSeq (sIf (tAnd (tE (eVar 2)) (tE (eCmp .Eq (eCall (c "_law_take") (aCons (eVar 0) (aCons (eC (.int (6))) aNil))) (eC (.int (0)))))) (sFor (.nm 6) (iVal (eCall (c "_law_distinct") (aCons (eVar 0) (aCons (eC (.int (100))) (aCons (eBin .Add (eC (.int (1))) (eCall (c "_law_take") (aCons (eVar 0) (aCons (eC (.int (16))) aNil)))) aNil))))) (sIf (tAnd (tE (eIn Γ c true (eVar 6) (eVar 5))) (tE (eCmp .Lt (eBi .len (aCons (eVar 5) aNil)) (eC (.int (16)))))) (sExpr (eMeth Γ c "append" 1 [] (eVar 5) (aCons (eVar 6) aNil) aNil)) sSkip) sSkip) sSkip) (sExpr (eMeth Γ c "append" 1 [] (eVar 3) (aCons (eTup (aCons (eIdx (eVar 4) (eC (.int (0)))) (aCons (eVar 5) aNil))) aNil) aNil)))) sSkip) (sRet (eVar 3))))))
theorem c__law_wait_list (d : Nat) (a0 : Val) (h : Mem) : callF Γ (d + 1) "_law_wait_list" [a0] h = fin (s__law_wait_list (callF Γ d) [some a0, none, none, none, none, none, none] h) := by kernel_rfl
abbrev s__law_store : CallT → MS := L_store
theorem c__law_store (d : Nat) (a0 a1 : Val) (h : Mem) : callF Γ (d + 1) "_law_store" [a0, a1] h = fin (s__law_store (callF Γ d) [some a0, some a1, none, none] h) := by kernel_rfl
def s__law_is_going (c : CallT) : MS := (sSeq (sIf (tNot (tE (eIsi ["list"] (eVar 0)))) (sRet (eC (.bl false))) sSkip) (sSeq (sSet 2 (eCall (c "_law_pairs") (aCons (eVar 1) aNil))) (sSeq (sSet 3 (eCall (c "_law_occurring") (aCons (eVar 1) aNil))) (sSeq (sFor (.nm 4) (iRng1 (eBi .len (aCons (eVar 0) aNil))) (sSeq (sIf (tOr (tNot (tE (eCall (c "_law_is_integer") (aCons (eIdx (eVar 0) (eVar 4)) (aCons (eC (.int (0))) (aCons (eC (.int (99))) aNil)))))) (tOr (tE (eIn Γ c false (eIdx (eVar 0) (eVar 4)) (eSlice (eVar 0) oNone (oSome (eVar 4))))) (tE (eIn Γ c true (eIdx (eVar 0) (eVar 4)) (eVar 3))))) (sRet (eC (.bl false))) sSkip) (sSeq (sSet 5 (eMeth Γ c "get" 2 [] (eVar 2) (aCons (eIdx (eVar 0) (eVar 4)) (aCons (eLst aNil) aNil)) aNil)) (sIf (tAnd (tE (eCmp .Gt (eBi .len (aCons (eVar 5) aNil)) (eC (.int (0))))) (tE (eCmp .Eq (eBi .len (aCons (eLcN 5 [6] (.nm 6) (tE (eIn Γ c false (eVar 6) (eSlice (eVar 0) oNone (oSome (eVar 4))))) (eVar 6)) aNil)) (eC (.int (0)))))) (sRet (eC (.bl false))) sSkip))) sSkip) (sRet (eC (.bl true)))))))
theorem c__law_is_going (d : Nat) (a0 a1 : Val) (h : Mem) : callF Γ (d + 1) "_law_is_going" [a0, a1] h = fin (s__law_is_going (callF Γ d) [some a0, some a1, none, none, none, none, none] h) := by kernel_rfl
def s__law_is_ring (c : CallT) : MS := (sSeq (sIf (tOr (tNot (tE (eIsi ["list"] (eVar 0)))) (tE (eCmp .Eq (eBi .len (aCons (eVar 0) aNil)) (eC (.int (0)))))) (sRet (eC (.bl false))) sSkip) (sSeq (sSet 2 (eCall (c "_law_pairs") (aCons (eVar 1) aNil))) (sSeq (sFor (.nm 3) (iRng1 (eBi .len (aCons (eVar 0) aNil))) (sSeq (sIf (tOr (tNot (tE (eCall (c "_law_is_integer") (aCons (eIdx (eVar 0) (eVar 3)) (aCons (eC (.int (0))) (aCons (eC (.int (99))) aNil)))))) (tOr (tE (eIn Γ c false (eIdx (eVar 0) (eVar 3)) (eSlice (eVar 0) oNone (oSome (eVar 3))))) (tE (eCmp .Eq (eBi .len (aCons (eMeth Γ c "get" 2 [] (eVar 2) (aCons (eIdx (eVar 0) (eVar 3)) (aCons (eLst aNil) aNil)) aNil) aNil)) (eC (.int (0))))))) (sRet (eC (.bl false))) sSkip) (sIf (tE (eCmp .Gt (eBi .len (aCons (eLc [4] (.nm 4) (iVal (eIdx (eVar 2) (eIdx (eVar 0) (eVar 3)))) (tE (eIn Γ c true (eVar 4) (eVar 0))) (eVar 4)) aNil)) (eC (.int (0))))) (sRet (eC (.bl false))) sSkip)) sSkip) (sRet (eC (.bl true))))))
theorem c__law_is_ring (d : Nat) (a0 a1 : Val) (h : Mem) : callF Γ (d + 1) "_law_is_ring" [a0, a1] h = fin (s__law_is_ring (callF Γ d) [some a0, some a1, none, none, none] h) := by kernel_rfl
def s_is_order (c : CallT) : MS := (sSeq (sIf (tNot (tE (eCall (c "distinct_numbers") (aCons (eVar 0) (aCons (eC (.int (99))) aNil))))) (sRet (eC (.bl false))) sSkip) (sSeq (sSet 2 (eCall (c "others_by_pid") (aCons (eVar 1) aNil))) (sSeq (sSet 3 (eCall (c "occurring_pids") (aCons (eVar 1) aNil))) (sSeq (sSet 4 eDic0) (sSeq (sFor (.nm 5) (iVal (eVar 0)) (sSeq (sIf (tE (eIn Γ c true (eVar 5) (eVar 3))) (sRet (eC (.bl false))) sSkip) (sSeq (sSet 6 (eMeth Γ c "get" 2 [] (eVar 2) (aCons (eVar 5) (aCons (eLst aNil) aNil)) aNil)) (sSeq (sIf (tAnd (tE (eVar 6)) (tNot (tE (eBi .any (aCons (eLcN 6 [7] (.nm 7) tYesM (eIn Γ c false (eVar 7) (eVar 4))) aNil))))) (sRet (eC (.bl false))) sSkip) (sSetIdx (eVar 4) (eVar 5) (eC (.bl true)))))) sSkip) (sRet (eC (.bl true))))))))
theorem c_is_order (d : Nat) (a0 a1 : Val) (h : Mem) : callF Γ (d + 1) "is_order" [a0, a1] h = fin (s_is_order (callF Γ d) [some a0, some a1, none, none, none, none, none, none] h) := by kernel_rfl
def s_is_ring (c : CallT) : MS := (sSeq (sIf (tOr (tNot (tE (eCall (c "distinct_numbers") (aCons (eVar 0) (aCons (eC (.int (99))) aNil))))) (tNot (tE (eVar 0)))) (sRet (eC (.bl false))) sSkip) (sSeq (sSet 2 (eCall (c "others_by_pid") (aCons (eVar 1) aNil))) (sSeq (sFor (.nm 3) (iVal (eVar 0)) (sSeq (sSet 4 (eMeth Γ c "get" 2 [] (eVar 2) (aCons (eVar 3) (aCons (eLst aNil) aNil)) aNil)) (sSeq (sIf (tNot (tE (eVar 4))) (sRet (eC (.bl false))) sSkip) (sIf (tNot (tE (eBi .all (aCons (eLcN 4 [5] (.nm 5) tYesM (eIn Γ c false (eVar 5) (eVar 0))) aNil)))) (sRet (eC (.bl false))) sSkip))) sSkip) (sRet (eC (.bl true))))))
theorem c_is_ring (d : Nat) (a0 a1 : Val) (h : Mem) : callF Γ (d + 1) "is_ring" [a0, a1] h = fin (s_is_ring (callF Γ d) [some a0, some a1, none, none, none, none] h) := by kernel_rfl
def s__law_copy (c : CallT) : MS := (sSeq (sIf (tE (eIsi ["list"] (eVar 0))) (sRet (eLcN 0 [1] (.nm 1) tYesM (eCall (c "_law_copy") (aCons (eVar 1) aNil)))) sSkip) (sSeq (sIf (tE (eIsi ["tuple"] (eVar 0))) (sRet (eBi .tuple (aCons (eLcN 0 [1] (.nm 1) tYesM (eCall (c "_law_copy") (aCons (eVar 1) aNil))) aNil))) sSkip) (sRet (eVar 0))))
theorem c__law_copy (d : Nat) (a0 : Val) (h : Mem) : callF Γ (d + 1) "_law_copy" [a0] h = fin (s__law_copy (callF Γ d) [some a0, none] h) := by kernel_rfl
def s__law_plain (c : CallT) : MS := (sSeq (sSet 2 (eCall (c "_law_take") (aCons (eVar 0) (aCons (eBin .Add (eC (.int (6))) (eBin .Mult (eC (.int (2))) (eBi .min (aCons (eVar 1) (aCons (eC (.int (1))) aNil))))) aNil)))) (sSeq (sIf (tE (eCmp .Eq (eVar 2) (eC (.int (0))))) (sRet (eCall (c "_law_integer") (aCons (eVar 0) aNil))) sSkip) (sSeq (sIf (tE (eCmp .Eq (eVar 2) (eC (.int (1))))) (sRet (eBin .Sub (eCall (c "_law_take") (aCons (eVar 0) (aCons (eC (.int (11))) aNil))) (eC (.int (1))))) sSkip) (sSeq (sIf (tE (eCmp .Eq (eVar 2) (eC (.int (2))))) (sRet (eCall (c "_law_text") (aCons (eVar 0) (aCons (eCall (c "_law_take") (aCons (eVar 0) (aCons (eC (.int (7))) aNil))) aNil)))) sSkip) (sSeq (sIf (tE (eCmp .Eq (eVar 2) (eC (.int (3))))) (sRet (eCmp .Eq (eCall (c "_law_take") (aCons (eVar 0) (aCons (eC (.int (2))) aNil))) (eC (.int (0))))) sSkip) (sSeq (sIf (tE (eCmp .Eq (eVar 2) (eC (.int (4))))) (sRet (eC (.non))) sSkip) (sSeq (sIf (tE (eCmp .Eq (eVar 2) (eC (.int (5))))) (sRet (eCall (c "_law_pick") (aCons (eVar 0) (aCons (eLst (aCons (eC (.str "")) (aCons (eC (.str "a")) (aCons (eC (.str "/")) (aCons (eC (.str "halt")) (aCons (eC (.str "root")) (aCons (eC (.str "r")) (aCons (eC (.str "go")) (aCons (eC (.str "pipe:0")) (aCons (eC (.str "0")) aNil)))))))))) aNil)))) sSkip) (sSeq (sSet 3 (eLc [4] (.nm 4) (iRng1 (eCall (c "_law_take") (aCons (eVar 0) (aCons (eC (.int (5))) aNil)))) tYesM (eCall (c "_law_plain") (aCons (eVar 0) (aCons (eBin .Sub (eVar 1) (eC (.int (1)))) aNil))))) (sSeq (sIf (tE (eCmp .Eq (eVar 2) (eC (.int (6))))) (sRet (eVar 3)) sSkip) (sRet (eBi .tuple (aCons (eVar 3) aNil))))))))))))
theorem c__law_plain (d : Nat) (a0 a1 : Val) (h : Mem) : callF Γ (d + 1) "_law_plain" [a0, a1] h = fin (s__law_plain (callF Γ d) [some a0, some a1, none, none, none] h) := by kernel_rfl
def s__law_doubled (c : CallT) : MS := (sSeq (sSet 2 (eCall (c "_law_take") (aCons (eVar 0) (aCons (eBin .Add (eBi .len (aCons (eVar 1) aNil)) (eC (.int (1)))) aNil)))) (sRet (eBin .Add (eBin .Add (eSlice (eVar 1) oNone (oSome (eVar 2))) (eLst (aCons (eCall (c "_law_pick") (aCons (eVar 0) (aCons (eVar 1) aNil))) aNil))) (eSlice (eVar 1) (oSome (eVar 2)) oNone))))
theorem c__law_doubled (d : Nat) (a0 a1 : Val) (h : Mem) : callF Γ (d + 1) "_law_doubled" [a0, a1] h = fin (s__law_doubled (callF Γ d) [some a0, some a1, none] h) := by kernel_rfl
def s__law_misshaped (c : CallT) : MS := (sSeq (sSet 2 (eCall (c "_law_pick") (aCons (eVar 0) (aCons (eCall (c "_law_places") (aCons (eVar 1) (aCons (eLst aNil) aNil))) aNil)))) (sSeq (sSet 3 (eCall (c "_law_part") (aCons (eVar 1) (aCons (eVar 2) aNil)))) (sSeq (sIf (tE (eIsi ["list"] (eVar 3))) (sSet 4 (eBi .tuple (aCons (eVar 3) aNil))) (sIf (tE (eIsi ["tuple"] (eVar 3))) (sSet 4 (eBi .list (aCons (eVar 3) aNil))) (sIf (tE (eIsi ["bool"] (eVar 3))) (sSet 4 (eBi .int (aCons (eVar 3) aNil))) (sIf (tE (eCmp .Is (eVar 3) (eC (.non)))) (sSet 4 (eC (.bl false))) (sIf (tE (eIsi ["str"] (eVar 3))) (sSet 4 (eLst (aCons (eVar 3) aNil))) (sIf (tE (eCmp .Eq (eVar 3) (eC (.int (0))))) (sSet 4 (eC (.bl false))) (sIf (tE (eCmp .Eq (eVar 3) (eC (.int (1))))) (sSet 4 (eC (.bl true))) (sSet 4 (eBi .str (aCons (eVar 3) aNil)))))))))) (sRet (eCall (c "_law_replaced") (aCons (eVar 1) (aCons (eVar 2) (aCons (eVar 4) aNil))))))))
theorem c__law_misshaped (d : Nat) (a0 a1 : Val) (h : Mem) : callF Γ (d + 1) "_law_misshaped" [a0, a1] h = fin (s__law_misshaped (callF Γ d) [some a0, some a1, none, none, none] h) := by kernel_rfl
abbrev s__law_take : CallT → MS := L_take
theorem c__law_take (d : Nat) (a0 a1 : Val) (h : Mem) : callF Γ (d + 1) "_law_take" [a0, a1] h = fin (s__law_take (callF Γ d) [some a0, some a1, none, none] h) := by kernel_rfl
def s__law_subset (c : CallT) : MS := (sRet (eLcN 1 [2] (.nm 2) (tE (eCmp .Eq (eCall (c "_law_take") (aCons (eVar 0) (aCons (eC (.int (2))) aNil))) (eC (.int (1))))) (eVar 2)))
theorem c__law_subset (d : Nat) (a0 a1 : Val) (h : Mem) : callF Γ (d + 1) "_law_subset" [a0, a1] h = fin (s__law_subset (callF Γ d) [some a0, some a1, none] h) := by kernel_rfl
def s__law_shuffled (c : CallT) : MS := (sSeq (sSet 2 (eBi .list (aCons (eVar 1) aNil))) (sSeq (sSet 3 (eLst aNil)) (sSeq (sFor (.nm 4) (iRng1 (eBi .len (aCons (eVar 1) aNil))) (sExpr (eMeth Γ c "append" 1 [] (eVar 3) (aCons (eMeth Γ c "pop" 1 [] (eVar 2) (aCons (eCall (c "_law_take") (aCons (eVar 0) (aCons (eBi .len (aCons (eVar 2) aNil)) aNil))) aNil) aNil) aNil) aNil)) sSkip) (sRet (eVar 3)))))
theorem c__law_shuffled (d : Nat) (a0 a1 : Val) (h : Mem) : callF Γ (d + 1) "_law_shuffled" [a0, a1] h = fin (s__law_shuffled (callF Γ d) [some a0, some a1, none, none, none] h) := by kernel_rfl
def s__law_occurring (c : CallT) : MS := (sSeq (sSet 1 (eLst aNil)) (sSeq (sFor (.nm 2) (iVal (eVar 0)) (sFor (.nm 3) (iVal (eBin .Add (eLst (aCons (eIdx (eVar 2) (eC (.int (0)))) aNil)) (eIdx (eVar 2) (eC (.int (1)))))) (sIf (tE (eIn Γ c true (eVar 3) (eVar 1))) (sExpr (eMeth Γ c "append" 1 [] (eVar 1) (aCons (eVar 3) aNil) aNil)) sSkip) sSkip) sSkip) (sRet (eBi .sorted (aCons (eVar 1) aNil)))))
theorem c__law_occurring (d : Nat) (a0 : Val) (h : Mem) : callF Γ (d + 1) "_law_occurring" [a0] h = fin (s__law_occurring (callF Γ d) [some a0, none, none, none] h) := by kernel_rfl
def s__law_is_least (c : CallT) : MS := (sSeq (sSet 2 (eCall (c "_law_occurring") (aCons (eVar 1) aNil))) (sSeq (sSet 3 (eCall (c "_law_pairs") (aCons (eVar 1) aNil))) (sSeq (sSet 4 eDic0) (sSeq (sFor (.nm 5) (iVal (eVar 0)) (sSeq (sSet 6 (eCall (c "_law_able") (aCons (eVar 2) (aCons (eVar 3) (aCons (eVar 4) aNil))))) (sSeq (sIf (tOr (tE (eCmp .Eq (eBi .len (aCons (eVar 6) aNil)) (eC (.int (0))))) (tE (eCmp .NotEq (eIdx (eVar 6) (eC (.int (0)))) (eVar 5)))) (sRet (eC (.bl false))) sSkip) (sSetIdx (eVar 4) (eVar 5) (eC (.bl true))))) sSkip) (sRet (eCmp .Eq (eBi .len (aCons (eCall (c "_law_able") (aCons (eVar 2) (aCons (eVar 3) (aCons (eVar 4) aNil)))) aNil)) (eC (.int (0)))))))))
theorem c__law_is_least (d : Nat) (a0 a1 : Val) (h : Mem) : callF Γ (d + 1) "_law_is_least" [a0, a1] h = fin (s__law_is_least (callF Γ d) [some a0, some a1, none, none, none, none, none] h) := by kernel_rfl
def s_find_ring (c : CallT) : MS := (sSeq (sSet 1 (eDc [2, 3] (.tp [(.nm 2), (.nm 3)]) (iVal (eVar 0)) (tE (eVar 3)) (eVar 2) (eVar 3))) (sSeq (sSet 4 (eC (.bl true))) (sSeq (sWhile wFuel (tE (eVar 4)) (sSeq (sSet 5 (eLcN 1 [2] (.nm 2) (tNot (tE (eBi .all (aCons (eLc [6] (.nm 6) (iVal (eIdx (eVar 1) (eVar 2))) tYesM (eIn Γ c false (eVar 6) (eVar 1))) aNil)))) (eVar 2))) (sSeq (sFor (.nm 2) (iVal (eVar 5)) (sDelIdx (eVar 1) (eVar 2)) sSkip) (sSet 4 (eCmp .Gt (eBi .len (aCons (eVar 5) aNil)) (eC (.int (0))))))) sSkip) (sRet (eBi .sorted (aCons (eVar 1) aNil))))))
theorem c_find_ring (d : Nat) (a0 : Val) (h : Mem) : callF Γ (d + 1) "find_ring" [a0] h = fin (s_find_ring (callF Γ d) [some a0, none, none, none, none, none, none] h) := by kernel_rfl
def s_find_order (c : CallT) : MS := (sSeq (sSet 1 (eCall (c "others_by_pid") (aCons (eVar 0) aNil))) (sSeq (sSet 2 (eCall (c "followers_by_pid") (aCons (eVar 0) aNil))) (sSeq (sSet 3 (eLc [4] (.nm 4) (iVal (eCall (c "occurring_pids") (aCons (eVar 0) aNil))) (tNot (tE (eMeth Γ c "get" 2 [] (eVar 1) (aCons (eVar 4) (aCons (eLst aNil) aNil)) aNil))) (eVar 4))) (sSeq (sSet 5 (eDc [4] (.nm 4) (iVal (eVar 3)) tYesM (eVar 4) (eC (.bl true)))) (sSeq (sSet 6 (eLst aNil)) (sSeq (sWhile wFuel (tE (eVar 3)) (sSeq (sSet 7 (eBi .min (aCons (eVar 3) aNil))) (sSeq (sExpr (eMeth Γ c "remove" 1 [] (eVar 3) (aCons (eVar 7) aNil) aNil)) (sSeq (sExpr (eMeth Γ c "append" 1 [] (eVar 6) (aCons (eVar 7) aNil) aNil)) (sFor (.nm 4) (iVal (eMeth Γ c "get" 2 [] (eVar 2) (aCons (eVar 7) (aCons (eLst aNil) aNil)) aNil)) (sIf (tE (eIn Γ c true (eVar 4) (eVar 5))) (sSeq (sSetIdx (eVar 5) (eVar 4) (eC (.bl true))) (sExpr (eMeth Γ c "append" 1 [] (eVar 3) (aCons (eVar 4) aNil) aNil))) sSkip) sSkip)))) sSkip) (sRet (eVar 6))))))))
theorem c_find_order (d : Nat) (a0 : Val) (h : Mem) : callF Γ (d + 1) "find_order" [a0] h = fin (s_find_order (callF Γ d) [some a0, none, none, none, none, none, none, none] h) := by kernel_rfl
def s__law_distinct (c : CallT) : MS := (sSeq (sSet 3 (eLst aNil)) (sSeq (sFor (.nm 4) (iRng1 (eBi .min (aCons (eVar 2) (aCons (eVar 1) aNil)))) (sExpr (eMeth Γ c "append" 1 [] (eVar 3) (aCons (eCall (c "_law_fresh") (aCons (eCall (c "_law_take") (aCons (eVar 0) (aCons (eVar 1) aNil))) (aCons (eVar 3) (aCons (eVar 1) aNil)))) aNil) aNil)) sSkip) (sRet (eVar 3))))
theorem c__law_distinct (d : Nat) (a0 a1 a2 : Val) (h : Mem) : callF Γ (d + 1) "_law_distinct" [a0, a1, a2] h = fin (s__law_distinct (callF Γ d) [some a0, some a1, some a2, none, none] h) := by kernel_rfl
def s__law_waits (c : CallT) : MS := (sSeq (sSet 1 (eCall (c "_law_distinct") (aCons (eVar 0) (aCons (eC (.int (100))) (aCons (eBin .Add (eC (.int (1))) (eCall (c "_law_size") (aCons (eVar 0) (aCons (eC (.int (15))) aNil)))) aNil))))) (sSeq (sSet 2 (eCall (c "_law_take") (aCons (eVar 0) (aCons (eC (.int (4))) aNil)))) (sSeq (sSet 3 (eLst aNil)) (sSeq (sFor (.nm 4) (iVal (eCall (c "_law_shuffled") (aCons (eVar 0) (aCons (eVar 1) aNil)))) (sIf (tOr (tE (eCmp .Eq (eVar 2) (eC (.int (0))))) (tE (eCmp .Gt (eCall (c "_law_take") (aCons (eVar 0) (aCons (eC (.int (5))) aNil))) (eC (.int (0)))))) (sSeq (sSet 5 (eCall (c "_law_take") (aCons (eVar 0) (aCons (eBin .Add (eBi .min (aCons (eBi .len (aCons (eVar 1) aNil)) (aCons (eC (.int (4))) aNil))) (eC (.int (1)))) aNil)))) (sSeq (sIf (tE (eCmp .Lt (eVar 2) (eC (.int (2))))) (sSet 5 (eBi .max (aCons (eC (.int (1))) (aCons (eVar 5) aNil)))) sSkip) (sSeq (sIf (tE (eCmp .Eq (eCall (c "_law_take") (aCons (eVar 0) (aCons (eC (.int (12))) aNil))) (eC (.int (1))))) (sSet 5 (eBi .len (aCons (eVar 1) aNil))) sSkip) (sExpr (eMeth Γ c "append" 1 [] (eVar 3) (aCons (eTup (aCons (eVar 4) (aCons (eLc [6] (.nm 6) (iVal (eCall (c "_law_distinct") (aCons (eVar 0) (aCons (eBi .len (aCons (eVar 1) aNil)) (aCons (eVar 5) aNil))))) tYesM (eIdx (eVar 1) (eVar 6))) aNil))) aNil) aNil))))) sSkip) sSkip) (sSeq (sIf (tE (eCmp .Eq (eCall (c "_law_take") (aCons (eVar 0) (aCons (eC (.int (12))) aNil))) (eC (.int (1))))) (sRet (eLst aNil)) sSkip) (sRet (eVar 3)))))))
theorem c__law_waits (d : Nat) (a0 : Val) (h : Mem) : callF Γ (d + 1) "_law_waits" [a0] h = fin (s__law_waits (callF Γ d) [some a0, none, none, none, none, none, none] h) := by kernel_rfl
def s__law_is_integer (c : CallT) : MS := (sRet (eAnd (eIsi ["int"] (eVar 0)) (eAnd (eNot (eIsi ["bool"] (eVar 0))) (eChain .LtE .LtE (eVar 1) (eVar 0) (eVar 2)))))
theorem c__law_is_integer (d : Nat) (a0 a1 a2 : Val) (h : Mem) : callF Γ (d + 1) "_law_is_integer" [a0, a1, a2] h = fin (s__law_is_integer (callF Γ d) [some a0, some a1, some a2] h) := by kernel_rfl
def s__law_pairs (c : CallT) : MS := (sSeq (sSet 1 eDic0) (sSeq (sFor (.nm 2) (iVal (eVar 0)) (sSetIdx (eVar 1) (eIdx (eVar 2) (eC (.int (0)))) (eIdx (eVar 2) (eC (.int (1))))) sSkip) (sRet (eVar 1))))
theorem c__law_pairs (d : Nat) (a0 : Val) (h : Mem) : callF Γ (d + 1) "_law_pairs" [a0] h = fin (s__law_pairs (callF Γ d) [some a0, none, none] h) := by kernel_rfl
def s_occurring_pids (c : CallT) : MS := (sSeq (sSet 1 (eLst aNil)) (sSeq (sFor (.tp [(.nm 2), (.nm 3)]) (iVal (eVar 0)) (sSeq (sExpr (eMeth Γ c "append" 1 [] (eVar 1) (aCons (eVar 2) aNil) aNil)) (sExpr (eMeth Γ c "extend" 1 [] (eVar 1) (aCons (eVar 3) aNil) aNil))) sSkip) (sRet (eSortSet (eVar 1)))))
theorem c_occurring_pids (d : Nat) (a0 : Val) (h : Mem) : callF Γ (d + 1) "occurring_pids" [a0] h = fin (s_occurring_pids (callF Γ d) [some a0, none, none, none] h) := by kernel_rfl
def s_others_by_pid (c : CallT) : MS := (sRet (eDc [1, 2] (.tp [(.nm 1), (.nm 2)]) (iVal (eVar 0)) tYesM (eVar 1) (eVar 2)))
theorem c_others_by_pid (d : Nat) (a0 : Val) (h : Mem) : callF Γ (d + 1) "others_by_pid" [a0] h = fin (s_others_by_pid (callF Γ d) [some a0, none, none] h) := by kernel_rfl
def s_distinct_numbers (c : CallT) : MS := (sSeq (sIf (tNot (tE (eIsi ["list"] (eVar 0)))) (sRet (eC (.bl false))) sSkip) (sSeq (sIf (tNot (tE (eBi .all (aCons (eLcN 0 [2] (.nm 2) tYesM (eCall (c "whole_between") (aCons (eVar 2) (aCons (eC (.int (0))) (aCons (eVar 1) aNil))))) aNil)))) (sRet (eC (.bl false))) sSkip) (sRet (eCmp .Eq (eLenSet (eVar 0)) (eBi .len (aCons (eVar 0) aNil))))))
theorem c_distinct_numbers (d : Nat) (a0 a1 : Val) (h : Mem) : callF Γ (d + 1) "distinct_numbers" [a0, a1] h = fin (s_distinct_numbers (callF Γ d) [some a0, some a1, none] h) := by kernel_rfl
abbrev s__law_pick : CallT → MS := L_pick
theorem c__law_pick (d : Nat) (a0 a1 : Val) (h : Mem) : callF Γ (d + 1) "_law_pick" [a0, a1] h = fin (s__law_pick (callF Γ d) [some a0, some a1] h) := by kernel_rfl
def s__law_text (c : CallT) : MS := (sSeq (sSet 2 (eC (.str " !\"#$&'()*+,-./0123456789:;<=>?@ABCDEFGHIJKLMNOPQRSTUVWXYZ[\\]^_`"))) (sSeq (sSet 2 (eBin .Add (eVar 2) (eC (.str "abcdefghijklmnopqrstuvwxyz{|}~")))) (sRet (eMeth Γ c "join" 1 [] (eC (.str "")) (aCons (eLc [3] (.nm 3) (iRng1 (eVar 1)) tYesM (eIdx (eVar 2) (eCall (c "_law_take") (aCons (eVar 0) (aCons (eC (.int (94))) aNil))))) aNil) aNil))))
theorem c__law_text (d : Nat) (a0 a1 : Val) (h : Mem) : callF Γ (d + 1) "_law_text" [a0, a1] h = fin (s__law_text (callF Γ d) [some a0, some a1, none, none] h) := by kernel_rfl
def s__law_integer (c : CallT) : MS := (sSeq (sSet 1 (eLst (aCons (eC (.int (0))) (aCons (eC (.int (1))) (aCons (eNeg (eC (.int (1)))) (aCons (eC (.int (2))) (aCons (eC (.int (7))) (aCons (eC (.int (8))) (aCons (eC (.int (9))) (aCons (eC (.int (15))) (aCons (eC (.int (16))) (aCons (eC (.int (127))) (aCons (eC (.int (128))) (aCons (eC (.int (1023))) (aCons (eC (.int (1024))) (aCons (eC (.int (65535))) (aCons (eC (.int (65536))) (aCons (eC (.int (999999999999))) (aCons (eNeg (eC (.int (999999999999)))) aNil))))))))))))))))))) (sSeq (sIf (tE (eCmp .Eq (eCall (c "_law_take") (aCons (eVar 0) (aCons (eC (.int (2))) aNil))) (eC (.int (0))))) (sRet (eCall (c "_law_pick") (aCons (eVar 0) (aCons (eVar 1) aNil)))) sSkip) (sRet (eBin .Sub (eCall (c "_law_take") (aCons (eVar 0) (aCons (eC (.int (1999999999999))) aNil))) (eC (.int (999999999999)))))))
theorem c__law_integer (d : Nat) (a0 : Val) (h : Mem) : callF Γ (d + 1) "_law_integer" [a0] h = fin (s__law_integer (callF Γ d) [some a0, none] h) := by kernel_rfl
def s__law_replaced (c : CallT) : MS := (sSeq (sIf (tE (eCmp .Eq (eBi .len (aCons (eVar 1) aNil)) (eC (.int (0))))) (sRet (eVar 2)) sSkip) (sSeq (sSet 3 (eBi .list (aCons (eVar 0) aNil))) (sSeq (sSetIdx (eVar 3) (eIdx (eVar 1) (eC (.int (0)))) (eCall (c "_law_replaced") (aCons (eIdx (eVar 3) (eIdx (eVar 1) (eC (.int (0))))) (aCons (eSlice (eVar 1) (oSome (eC (.int (1)))) oNone) (aCons (eVar 2) aNil))))) (sSeq (sIf (tE (eIsi ["tuple"] (eVar 0))) (sRet (eBi .tuple (aCons (eVar 3) aNil))) sSkip) (sRet (eVar 3))))))
theorem c__law_replaced (d : Nat) (a0 a1 a2 : Val) (h : Mem) : callF Γ (d + 1) "_law_replaced" [a0, a1, a2] h = fin (s__law_replaced (callF Γ d) [some a0, some a1, some a2, none] h) := by kernel_rfl
def s__law_part (c : CallT) : MS := (sSeq (sFor (.nm 2) (iVal (eVar 1)) (sSet 0 (eIdx (eVar 0) (eVar 2))) sSkip) (sRet (eVar 0)))
theorem c__law_part (d : Nat) (a0 a1 : Val) (h : Mem) : callF Γ (d + 1) "_law_part" [a0, a1] h = fin (s__law_part (callF Γ d) [some a0, some a1, none] h) := by kernel_rfl
def s__law_places (c : CallT) : MS := (sSeq (sSet 2 (eLst (aCons (eVar 1) aNil))) (sSeq (sIf (tE (eIsi ["list", "tuple"] (eVar 0))) (sFor (.nm 3) (iRng1 (eBi .len (aCons (eVar 0) aNil))) (sExpr (eMeth Γ c "extend" 1 [] (eVar 2) (aCons (eCall (c "_law_places") (aCons (eIdx (eVar 0) (eVar 3)) (aCons (eBin .Add (eVar 1) (eLst (aCons (eVar 3) aNil))) aNil))) aNil) aNil)) sSkip) sSkip) (sRet (eVar 2))))
theorem c__law_places (d : Nat) (a0 a1 : Val) (h : Mem) : callF Γ (d + 1) "_law_places" [a0, a1] h = fin (s__law_places (callF Γ d) [some a0, some a1, none, none] h) := by kernel_rfl
abbrev s__law_mixed : CallT → MS := L_mixed
theorem c__law_mixed (d : Nat) (a0 a1 a2 : Val) (h : Mem) : callF Γ (d + 1) "_law_mixed" [a0, a1, a2] h = fin (s__law_mixed (callF Γ d) [some a0, some a1, some a2, none, none, none] h) := by kernel_rfl
def s__law_able (c : CallT) : MS := (sSeq (sSet 3 (eLst aNil)) (sSeq (sFor (.nm 4) (iVal (eVar 0)) (sSeq (sSet 5 (eMeth Γ c "get" 2 [] (eVar 1) (aCons (eVar 4) (aCons (eLst aNil) aNil)) aNil)) (sIf (tAnd (tE (eIn Γ c true (eVar 4) (eVar 2))) (tOr (tE (eCmp .Eq (eBi .len (aCons (eVar 5) aNil)) (eC (.int (0))))) (tE (eCmp .Gt (eBi .len (aCons (eLcN 5 [6] (.nm 6) (tE (eIn Γ c false (eVar 6) (eVar 2))) (eVar 6)) aNil)) (eC (.int (0))))))) (sExpr (eMeth Γ c "append" 1 [] (eVar 3) (aCons (eVar 4) aNil) aNil)) sSkip)) sSkip) (sRet (eVar 3))))
theorem c__law_able (d : Nat) (a0 a1 a2 : Val) (h : Mem) : callF Γ (d + 1) "_law_able" [a0, a1, a2] h = fin (s__law_able (callF Γ d) [some a0, some a1, some a2, none, none, none, none] h) := by kernel_rfl
def s_followers_by_pid (c : CallT) : MS := (sSeq (sSet 1 eDic0) (sSeq (sFor (.tp [(.nm 2), (.nm 3)]) (iVal (eVar 0)) (sFor (.nm 4) (iVal (eVar 3)) (sSeq (sIf (tE (eIn Γ c true (eVar 4) (eVar 1))) (sSetIdx (eVar 1) (eVar 4) (eLst aNil)) sSkip) (sExpr (eMeth Γ c "append" 1 [] (eIdx (eVar 1) (eVar 4)) (aCons (eVar 2) aNil) aNil))) sSkip) sSkip) (sRet (eVar 1))))
theorem c_followers_by_pid (d : Nat) (a0 : Val) (h : Mem) : callF Γ (d + 1) "followers_by_pid" [a0] h = fin (s_followers_by_pid (callF Γ d) [some a0, none, none, none, none] h) := by kernel_rfl
def s__law_fresh (c : CallT) : MS := (sSeq (sFor (.nm 3) (iRng1 (eBin .Add (eBi .len (aCons (eVar 1) aNil)) (eC (.int (1))))) (sSeq (sSet 4 (eBin .Mod (eBi .int (aCons (eBin .Add (eVar 0) (eVar 3)) aNil)) (eVar 2))) (sIf (tE (eIn Γ c true (eVar 4) (eVar 1))) (sRet (eVar 4)) sSkip)) sSkip) (sRet (eVar 0)))
theorem c__law_fresh (d : Nat) (a0 a1 a2 : Val) (h : Mem) : callF Γ (d + 1) "_law_fresh" [a0, a1, a2] h = fin (s__law_fresh (callF Γ d) [some a0, some a1, some a2, none, none] h) := by kernel_rfl
abbrev s__law_size : CallT → MS := L_size
theorem c__law_size (d : Nat) (a0 a1 : Val) (h : Mem) : callF Γ (d + 1) "_law_size" [a0, a1] h = fin (s__law_size (callF Γ d) [some a0, some a1, none] h) := by kernel_rfl
def s_whole_between (c : CallT) : MS := (sSeq (sIf (tOr (tE (eIsi ["bool"] (eVar 0))) (tNot (tE (eIsi ["int"] (eVar 0))))) (sRet (eC (.bl false))) sSkip) (sRet (eChain .LtE .LtE (eVar 1) (eVar 0) (eVar 2))))
theorem c_whole_between (d : Nat) (a0 a1 a2 : Val) (h : Mem) : callF Γ (d + 1) "whole_between" [a0, a1, a2] h = fin (s_whole_between (callF Γ d) [some a0, some a1, some a2] h) := by kernel_rfl
end K40
set_option linter.all false
namespace Q42
section
variable {oth : Nat → List Nat}
def nxt (oth : Nat → List Nat) (K : List Nat) : List Nat := K.filter fun p => (oth p).all fun x => decide (x ∈ K)
def lim (oth : Nat → List Nat) : Nat → List Nat → List Nat
  | 0, K => K
  | n + 1, K => if (nxt oth K).length = K.length then K else lim oth n (nxt oth K)
def ringK (oth : Nat → List Nat) (K : List Nat) : List Nat := lim oth K.length K
theorem nxt_len (K : List Nat) : (nxt oth K).length ≤ K.length := List.length_filter_le _ _
theorem nxt_eq {K : List Nat} (h : (nxt oth K).length = K.length) : nxt oth K = K := by
  unfold nxt at h ⊢
  rw [List.length_filter_eq_length_iff] at h
  exact List.filter_eq_self.mpr h
theorem lim_stable : ∀ (n : Nat) (K : List Nat), K.length ≤ n → nxt oth (lim oth n K) = lim oth n K
  | 0, K, h => by
    have : K = [] := List.eq_nil_of_length_eq_zero (by omega)
    subst this
    rfl
  | n + 1, K, h => by
    unfold lim
    split
    · rename_i e; exact nxt_eq e
    · rename_i e
      have := nxt_len (oth := oth) K
      exact lim_stable n _ (by omega)
theorem lim_fuel : ∀ (n m : Nat) (K : List Nat), K.length ≤ n → K.length ≤ m → lim oth n K = lim oth m K
  | 0, 0, K, _, _ => rfl
  | 0, m + 1, K, h, _ => by
    have : K = [] := List.eq_nil_of_length_eq_zero (by omega)
    subst this
    simp [lim, nxt]
  | n + 1, 0, K, _, h => by
    have : K = [] := List.eq_nil_of_length_eq_zero (by omega)
    subst this
    simp [lim, nxt]
  | n + 1, m + 1, K, h1, h2 => by
    unfold lim
    split
    · rfl
    · rename_i e
      have := nxt_len (oth := oth) K
      exact lim_fuel n m _ (by omega) (by omega)
theorem ring_step {K : List Nat} (h : (nxt oth K).length ≠ K.length) : ringK oth (nxt oth K) = ringK oth K := by
  have l := nxt_len (oth := oth) K
  unfold ringK
  obtain ⟨n, e⟩ : ∃ n, K.length = n + 1 := ⟨K.length - 1, by omega⟩
  have : lim oth K.length K = lim oth n (nxt oth K) := by
    rw [e, lim, if_neg h]
  rw [this]
  exact lim_fuel _ _ _ (Nat.le_refl _) (by omega)
theorem ring_self {K : List Nat} (h : nxt oth K = K) : ringK oth K = K := by
  unfold ringK
  cases e : K.length with
  | zero => rfl
  | succ n => rw [lim, if_pos (by rw [h])]
theorem ring_fix (K : List Nat) : nxt oth (ringK oth K) = ringK oth K := lim_stable _ _ (Nat.le_refl _)
theorem lim_sub : ∀ (n : Nat) (K : List Nat), (lim oth n K).Sublist K
  | 0, K => List.Sublist.refl _
  | n + 1, K => by
    unfold lim
    split
    · exact List.Sublist.refl _
    · exact (lim_sub n _).trans List.filter_sublist
theorem ring_sub (K : List Nat) : (ringK oth K).Sublist K := lim_sub _ _
theorem ring_oth {K : List Nat} {p : Nat} (hp : p ∈ ringK oth K) : ∀ x ∈ oth p, x ∈ ringK oth K := by
  have := ring_fix (oth := oth) K
  rw [← this] at hp
  unfold nxt at hp
  have := (List.mem_filter.mp hp).2
  intro x hx
  have := List.all_eq_true.mp this x hx
  simpa using this
end
/-! ### the walk -/
def walk (f : Nat → Nat) : Nat → Nat → List Nat → List Nat
  | 0, pid, path => path.drop (path.idxOf pid)
  | n + 1, pid, path => if pid ∈ path then path.drop (path.idxOf pid) else walk f n (f pid) (path ++ [pid])
def it (f : Nat → Nat) (p : Nat) : Nat → Nat
  | 0 => p
  | k + 1 => f (it f p k)
theorem it_mem {f : Nat → Nat} {p : Nat} {R : List Nat} (hp : p ∈ R) (hf : ∀ x ∈ R, f x ∈ R) : ∀ k, it f p k ∈ R
  | 0 => hp
  | k + 1 => hf _ (it_mem hp hf k)
def pre (f : Nat → Nat) (p k : Nat) : List Nat := (List.range k).map (it f p)
theorem pre_succ (f : Nat → Nat) (p k : Nat) : pre f p (k + 1) = pre f p k ++ [it f p k] := by unfold pre; rw [List.range_succ, List.map_append]; rfl
theorem pre_get {f : Nat → Nat} {p k i : Nat} (h : i < k) : (pre f p k)[i]? = some (it f p i) := by unfold pre; simp [h]
theorem pre_len (f : Nat → Nat) (p k : Nat) : (pre f p k).length = k := by simp [pre]
theorem nodup_le : ∀ {l R : List Nat}, l.Nodup → (∀ x ∈ l, x ∈ R) → l.length ≤ R.length
  | [], R, _, _ => by simp
  | a :: l, R, nd, h => by
    have ha := h a (by simp)
    have nd' := List.nodup_cons.mp nd
    have := nodup_le (l := l) (R := R.erase a) nd'.2 fun x hx => by
      have hne : x ≠ a := fun e => nd'.1 (by rw [← e]; exact hx)
      exact (List.mem_erase_of_ne hne).mpr (h x (by simp [hx]))
    rw [List.length_erase_of_mem ha] at this
    have pos : 0 < R.length := List.length_pos_of_mem ha
    simp
    omega
/-- what comes out: the tail of the way that comes back -/
structure Cyc (f : Nat → Nat) (p : Nat) (R : List Nat) (c : List Nat) : Prop where
  ex : ∃ j k, j < k ∧ k ≤ R.length ∧ (pre f p k).Nodup ∧ it f p k = it f p j ∧ c = (pre f p k).drop j
theorem idx_get {l : List Nat} (nd : l.Nodup) : ∀ {i : Nat} {x : Nat}, l[i]? = some x → l.idxOf x = i := by
  intro i x h
  obtain ⟨hi, rfl⟩ := List.getElem?_eq_some_iff.mp h
  exact nd.idxOf_getElem i hi
theorem walk_ok {f : Nat → Nat} {p : Nat} {R : List Nat} (hp : p ∈ R) (hf : ∀ x ∈ R, f x ∈ R) : ∀ (n k : Nat), (pre f p k).Nodup → R.length + 1 ≤ n + k → k ≤ R.length → Cyc f p R (walk f n (it f p k) (pre f p k)) := by
  have stop : ∀ k, (pre f p k).Nodup → k ≤ R.length → it f p k ∈ pre f p k → Cyc f p R ((pre f p k).drop ((pre f p k).idxOf (it f p k))) := fun k nd hk hm => by
    obtain ⟨j, hj, ej⟩ := List.mem_iff_getElem.mp hm
    rw [pre_len] at hj
    have e2 : (pre f p k)[j]? = some (it f p k) := by rw [List.getElem?_eq_getElem (by rw [pre_len]; exact hj), ej]
    have e3 : it f p k = it f p j := by
      rw [pre_get hj] at e2
      exact (Option.some.inj e2).symm
    exact ⟨j, k, hj, hk, nd, e3, by rw [idx_get nd e2]⟩
  intro n
  induction n with
  | zero => intro k nd h1 h2; omega
  | succ n ih =>
    intro k nd h1 h2
    unfold walk
    split
    · rename_i hm; exact stop k nd h2 hm
    · rename_i hm
      have nd2 : (pre f p (k + 1)).Nodup := by
        rw [pre_succ, List.nodup_append]
        refine ⟨nd, by simp, fun a ha b hb => ?_⟩
        rw [show b = it f p k by simpa using hb]
        exact fun z => hm (z ▸ ha)
      have l2 := nodup_le nd2 (R := R) fun x hx => by
        unfold pre at hx
        obtain ⟨i, _, rfl⟩ := List.mem_map.mp hx
        exact it_mem hp hf i
      rw [pre_len] at l2
      have := ih (k + 1) nd2 (by omega) l2
      rw [pre_succ] at this
      exact this
end Q42
set_option Elab.async false
set_option linter.all false
set_option maxRecDepth 100000
set_option maxHeartbeats 1000000
namespace K40
open Mp PySem L2
section
variable {N : List Nat} {h h' h'' : Mem} {V c : Nat} {K : List (Nat × List Nat)}
theorem mixed_ok {e : Nat} (he : 1 ≤ e) : SpMixed (callF Γ e "_law_mixed") := by
  obtain ⟨d, rfl⟩ : ∃ d, e = d + 1 := ⟨e - 1, by omega⟩
  intro i t k h hk
  rw [c__law_mixed]
  exact sp_mixed _ i t k h hk
theorem take_ok {e : Nat} (he : 2 ≤ e) : SpTake (callF Γ e "_law_take") := by
  obtain ⟨d, rfl⟩ : ∃ d, e = d + 1 := ⟨e - 1, by omega⟩
  intro k h st hk
  rw [c__law_take]
  exact sp_take (mixed_ok (by omega)) k h st hk
theorem size_ok {e : Nat} (he : 3 ≤ e) : SpSize (callF Γ e "_law_size") := by
  obtain ⟨d, rfl⟩ : ∃ d, e = d + 1 := ⟨e - 1, by omega⟩
  intro a h st h1 h2
  rw [c__law_size]
  exact sp_size (take_ok (by omega)) a h st h1 h2
theorem pick_ok {e : Nat} (he : 3 ≤ e) : SpPick (callF Γ e "_law_pick") := by
  obtain ⟨d, rfl⟩ : ∃ d, e = d + 1 := ⟨e - 1, by omega⟩
  intro n xs h st h1 h2 h3 h4
  rw [c__law_pick]
  exact sp_pick (take_ok (by omega)) n xs h st h1 h2 h3 h4
theorem alike_ok : ∀ (n e : Nat), n < e → SpAlk n (callF Γ e "_law_alike") := by
  intro n
  induction n using Nat.strongRecOn with
  | _ n ih =>
    intro e he
    obtain ⟨d, rfl⟩ : ∃ d, e = d + 1 := ⟨e - 1, by omega⟩
    intro v w h A
    rw [c__law_alike]
    exact sp_alike (fun k hk => ih k hk d (by omega)) v w h A
abbrev Gr (h h' : Mem) : Prop := Mp.Fr [] h h'
theorem Gr.get {h h' : Mem} (g : Gr h h') {n : Nat} {b : Ob} (e : h[n]? = some b) : h'[n]? = some b := Fr.get g e (by simp)
theorem Gr.new (h : Mem) (m : Mem) : Gr h (h ++ m) := Fr.app _ _ _
/-- for a pair of lists -/
theorem lc_zip {j k a b : Nat} {xs ys : List Val} {c : MT} {elt : ME} {ρ : Mp.Env} {h : Mem} {Q : List Val → Mem → Prop} {X : XQ} (I : Nat → List Val → Mem → Prop) (hl : xs.length = ys.length) (h0 : I 0 [] h) (keep : ∀ i acc h, i ≤ xs.length → I i acc h → h[a]? = some (.lst xs) ∧ h[b]? = some (.lst ys))
    (turn : ∀ i x y acc h, xs[i]? = some x → ys[i]? = some y → I i acc h → (c ((ρ.set j (some x)).set k (some y)) h).W (fun b h2 => if b = true then (elt ((ρ.set j (some x)).set k (some y)) h2).W (fun y h3 => acc.length < sizeLine ∧ I (i + 1) (acc ++ [y]) h3) nX else I (i + 1) acc h2) nX)
    (stop : ∀ acc h, I xs.length acc h → Q acc h) : (lcF (wkZ (wkL a xs.length) (wkL b ys.length)) (.tp [.nm j, .nm k]) c elt ρ (wkZ (wkL a xs.length) (wkL b ys.length)).fuel 0 [] h).W Q X := by
  refine lc_wk xs.length I (fun i acc h hi hI => ?_) (fun acc h hI => ?_) xs.length 0 _ [] h rfl (Nat.zero_le _) ?_ h0
  · have kk := keep i acc h (by omega) hI
    exact ⟨.tup [xs[i], ys[i]], _, by simp [wkZ, wkL, kk.1, kk.2, hi, show i < ys.length by omega], rfl, turn i _ _ acc h (by simp [hi]) (by simp [show i < ys.length by omega]) hI⟩
  · have kk := keep _ acc h (Nat.le_refl _) hI
    exact ⟨by simp [wkZ, wkL, kk.1, kk.2, hl], stop acc h hI⟩
  · show xs.length - 0 ≤ min xs.length ys.length
    omega
@[simp] theorem w_iZip {O : Wk → Mem → Prop} {X : XQ} {ρ : Mp.Env} {h : Mem} (a b : ME) : (Mp.iZip a b ρ h).W O X ↔ (a ρ h).W (fun v h => (b ρ h).W (fun u h => optP (lstB h v) fun w => optP (lstB h u) fun z => O (wkZ w z) h) X) X := by
  unfold Mp.iZip
  rw [W_bind]
  constructor
  · intro w
    refine w.imp (fun v h1 w1 => ?_) fun _ _ _ z => z
    rw [W_bind] at w1
    refine w1.imp (fun u h2 w2 => ?_) fun _ _ _ z => z
    cases e1 : lstB h2 v <;> cases e2 : lstB h2 u <;> simp [e1, e2] at w2 ⊢
    exact w2
  · intro w
    refine w.imp (fun v h1 w1 => ?_) fun _ _ _ z => z
    rw [W_bind]
    refine w1.imp (fun u h2 w2 => ?_) fun _ _ _ z => z
    cases e1 : lstB h2 v <;> cases e2 : lstB h2 u <;> simp [e1, e2] at w2 ⊢
    exact w2
theorem take_zip {α β γ : Type} (f : α → β → γ) {xs : List α} {ys : List β} {i : Nat} {x : α} {y : β} (hx : xs[i]? = some x) (hy : ys[i]? = some y) : (List.zipWith f xs ys).take (i + 1) = (List.zipWith f xs ys).take i ++ [f x y] := by
  have : (List.zipWith f xs ys)[i]? = some (f x y) := by rw [List.getElem?_zipWith, hx, hy]
  rw [List.take_succ, this]; rfl
theorem blsOf_map : ∀ bs : List Bool, blsOf (bs.map .bl) = some bs
  | [] => rfl
  | b :: bs => by simp [blsOf, blsOf_map bs]
theorem take_snoc {α : Type} {l : List α} {i : Nat} {x : α} (h : l[i]? = some x) : l.take (i + 1) = l.take i ++ [x] := by
  rw [List.take_succ, h]; rfl
def nI (l : List Nat) : List Val := l.map fun i : Nat => Val.int (i : Int)
theorem nI_ints (l : List Nat) : nI l = (l.map fun i : Nat => (i : Int)).map Val.int := by unfold nI; rw [List.map_map]; rfl
theorem nI_of (l : List Nat) : intsOf (nI l) = some (l.map fun i : Nat => (i : Int)) := by rw [nI_ints]; exact intsOf_map _
theorem nI_erase (l : List Nat) (a : Nat) : (((l.map fun i : Nat => (i : Int)).erase (a : Int)).map Val.int) = nI (l.erase a) := by
  rw [nI_ints]
  congr 1
  induction l with
  | nil => rfl
  | cons b l ih =>
    by_cases h : b = a
    · subst h; simp
    · have h1 : ((b : Int) == (a : Int)) = false := by simp; omega
      have h2 : (b == a) = false := by simp [h]
      rw [List.map_cons, List.erase_cons, List.erase_cons, h1, h2]
      simp [ih]
theorem met_full (val : Nat → Int) : ∀ i, (PyProof.Rows.firstMet val i).length = i → PyProof.Rows.firstMet val i = (List.range i).map val ∧ ((List.range i).map val).Nodup
  | 0, _ => ⟨rfl, List.nodup_nil⟩
  | i + 1, h => by
    have hle := PyProof.Rows.firstMet_length_le val i
    rw [PyProof.Rows.firstMet_succ] at h ⊢
    unfold PyProof.Rows.step_dedup at h ⊢
    split at h
    · omega
    · rename_i hn
      rw [List.length_append] at h
      simp only [List.length_cons, List.length_nil] at h
      obtain ⟨e1, e2⟩ := met_full val i (by omega)
      rw [if_neg hn, List.range_succ, List.map_append, e1]
      refine ⟨rfl, ?_⟩
      rw [List.nodup_append]
      refine ⟨e2, by simp, fun a ha b hb => ?_⟩
      have : b = val i := by simpa using hb
      subst this
      intro z
      apply hn
      rw [e1, List.any_eq_true]
      exact ⟨a, ha, by simp [z]⟩
theorem lenSet_iff (ns : List Int) : lenSet ns = ns.length ↔ ns.Nodup := by
  have em : (List.range ns.length).map (fun i => ns.getD i 0) = ns := by
    apply List.ext_getElem (by simp)
    intro i h1 h2
    simp [List.getD_eq_getElem?_getD, h2]
  constructor
  · intro h
    have := (met_full (fun i => ns.getD i 0) ns.length h).2
    rwa [em] at this
  · intro h
    unfold lenSet
    rw [RZ.firstMet_nodup h ns.length (Nat.le_refl _), List.take_length]
/-- a value whose type is known -/
inductive Ty (h : Mem) : Val → Prop
  | non : Ty h .non
  | bl (b : Bool) : Ty h (.bl b)
  | int (i : Int) : Ty h (.int i)
  | str (s : Str) : Ty h (.str s)
  | tup (ts : List Val) : Ty h (.tup ts)
  | lst (n : Nat) (xs : List Val) (e : h[n]? = some (.lst xs)) : Ty h (.ref n)
def inR (g : Int) : Val → Bool
  | .int i => decide (0 ≤ i ∧ i ≤ g)
  | _ => false
theorem Ty.gr {v : Val} (t : Ty h v) (g : Gr h h') : Ty h' v := by
  cases t with
  | non => exact .non
  | bl b => exact .bl b
  | int i => exact .int i
  | str s => exact .str s
  | tup ts => exact .tup ts
  | lst n xs e => exact .lst n xs (Gr.get g e)
theorem whole_ok {e : Nat} (he : 1 ≤ e) {v : Val} (t : Ty h v) (g : Int) : callF Γ e "whole_between" [v, .int 0, .int g] h = .ok (.bl (inR g v)) h := by
  obtain ⟨d, rfl⟩ : ∃ d, e = d + 1 := ⟨e - 1, by omega⟩
  rw [c_whole_between]
  refine W_eq ?_
  simp only [W_fin, s_whole_between]
  cases t with
  | non => simp [subTy, inR]
  | bl b => simp [subTy, inR]
  | int i =>
    simp [subTy, inR]
    constructor
    · intro h1
      simp [h1]
    · intro h1
      simp [show ¬ 0 ≤ i by omega]
  | str s => simp [subTy, inR]
  | tup ts => simp [subTy, inR]
  | lst n xs e => simp [subTy, inR, e]
def distB (g : Int) (xs : List Val) : Bool := xs.all (inR g) && (match intsOf xs with
  | some ns => decide ns.Nodup
  | none => false)
theorem inR_ints {g : Int} : ∀ {xs : List Val}, xs.all (inR g) = true → ∃ ns : List Int, xs = ns.map .int ∧ ∀ n ∈ ns, 0 ≤ n ∧ n ≤ g
  | [], _ => ⟨[], rfl, nofun⟩
  | x :: xs, h => by
    rw [List.all_cons, Bool.and_eq_true] at h
    obtain ⟨ns, rfl, hn⟩ := inR_ints h.2
    cases x <;> simp [inR] at h
    rename_i i
    refine ⟨i :: ns, rfl, fun n hm => ?_⟩
    rcases List.mem_cons.mp hm with q | q
    · rw [q]; exact h.1
    · exact hn n q
theorem distinct_ok {e : Nat} (he : 2 ≤ e) {a : Nat} {xs : List Val} (ha : h[a]? = some (.lst xs)) (hl : xs.length < 1000) (ty : ∀ x ∈ xs, Ty h x) (g : Int) {Q : Val → Mem → Prop} {X : XQ}
    (q : ∀ h', Gr h h' → Q (.bl (distB g xs)) h') : (callF Γ e "distinct_numbers" [.ref a, .int g] h).W Q X := by
  obtain ⟨d, rfl⟩ : ∃ d, e = d + 1 := ⟨e - 1, by omega⟩
  have ls := sizeLine_eq
  rw [c_distinct_numbers]
  simp only [W_fin, s_distinct_numbers]
  simp [subTy, ha]
  refine lc_lst (fun i acc h' => h' = h ∧ acc = ((xs.take i).map (inR g)).map Val.bl) ⟨rfl, rfl⟩ (fun i acc h' _ I => by rw [I.1]; exact ha) ?_ ?_
  · rintro i x acc h' hx ⟨rfl, rfl⟩
    have hi := list_get hx
    have w := whole_ok (show 1 ≤ d by omega) (ty x (List.mem_of_getElem? hx)) g
    rw [take_snoc hx]
    simp [wipeE, w]
    omega
  · rintro acc h' ⟨rfl, rfl⟩
    rw [List.take_length]
    have gn : Gr h' (h' ++ [Ob.lst ((xs.map (inR g)).map Val.bl)]) := Gr.new _ _
    have n1 := get_new h' (Ob.lst ((xs.map (inR g)).map Val.bl))
    have a1 := Gr.get gn ha
    have bo := blsOf_map (xs.map (inR g))
    have lb : ((xs.map (inR g)).map Val.bl).length ≤ sizeLine := by simp; omega
    have hall : (xs.map (inR g)).all id = xs.all (inR g) := by rw [List.all_map]; rfl
    generalize (xs.map (inR g)).map Val.bl = ys at gn n1 a1 bo lb
    generalize xs.map (inR g) = bs at bo hall
    cases hx : xs.all (inR g) with
    | false =>
      rw [hx] at hall
      simp [n1, bo, hall, lb]
      have := q _ gn
      unfold distB at this
      rw [hx] at this
      have mf : false ∈ bs := by
        obtain ⟨x, hx1, hx2⟩ := List.all_eq_false.mp hall
        cases x with
        | false => exact hx1
        | true => exact absurd rfl hx2
      exact ⟨fun _ => this, fun z => absurd mf z⟩
    | true =>
      rw [hx] at hall
      obtain ⟨ns, rfl, hn⟩ := inR_ints hx
      have ln : ns.length ≤ 4000 := by simp at hl; omega
      simp [n1, bo, hall, lb, a1, intsOf_map, ln, lstOf]
      have := q _ gn
      unfold distB at this
      rw [hx, intsOf_map] at this
      have el : decide ns.Nodup = decide (lenSet ns = ns.length) := by
        by_cases h1 : ns.Nodup
        · simp [h1, (lenSet_iff ns).mpr h1]
        · have : ¬ lenSet ns = ns.length := fun z => h1 ((lenSet_iff ns).mp z)
          simp [h1, this]
      simp [el] at this
      have mf : false ∉ bs := fun z => by
        have := List.all_eq_true.mp hall _ z
        cases this
      have ec : decide ((lenSet ns : Int) = (ns.length : Int)) = decide (lenSet ns = ns.length) := decide_eq_decide.mpr Int.natCast_inj
      rw [ec]
      exact ⟨fun z => absurd z mf, fun _ => this⟩
theorem nat_of {n : Nat} : ∀ {ns : List Int}, (∀ x ∈ ns, 0 ≤ x ∧ x ≤ (n : Int) - 1) → ∃ os : List Nat, ns.map Val.int = nI os ∧ (∀ x ∈ os, x < n) ∧ ns = os.map fun i : Nat => (i : Int)
  | [], _ => ⟨[], rfl, nofun, rfl⟩
  | x :: ns, h => by
    obtain ⟨os, e, hl, e2⟩ := nat_of (n := n) (ns := ns) fun y hy => h y (by simp [hy])
    have hx := h x (by simp)
    refine ⟨x.toNat :: os, ?_, fun y hy => ?_, ?_⟩
    · simp only [nI, List.map_cons] at e ⊢
      rw [e]
      congr 2
      omega
    · rcases List.mem_cons.mp hy with q | q
      · omega
      · exact hl y q
    · rw [e2, List.map_cons]
      congr 1
      omega
theorem nI_len (l : List Nat) : (nI l).length = l.length := by simp [nI]
theorem nI_snoc (l : List Nat) (i : Nat) : nI (l ++ [i]) = nI l ++ [.int (i : Int)] := by simp [nI]
theorem Gr.later {h h' : Mem} (g : Gr h h') {a : Nat} (ha : h.length ≤ a) (o : Ob) : Gr h (h'.set a o) := ⟨by rw [List.length_set]; exact g.len, fun n hn _ => by rw [List.getElem?_set_ne (by omega)]; exact g.keep n hn (by simp)⟩
theorem lcf_rng {j n : Nat} {c : MT} {ρ : Mp.Env} {h : Mem} {Q : List Val → Mem → Prop} {X : XQ} (p : Nat → Bool) (hn : n < 100000) (hj : j < ρ.length)
    (turn : ∀ i h', i < n → Gr h h' → (c (ρ.set j (some (.int (i : Int)))) h').W (fun k h2 => k = p i ∧ Gr h h2) nX)
    (stop : ∀ h', Gr h h' → Q (nI ((List.range n).filter p)) h') : (lcF (wkR 0 n) (.nm j) c (eVar j) ρ (wkR 0 n).fuel 0 [] h).W Q X := by
  have ls := sizeLine_eq
  refine lc_rng (fun i acc h' => Gr h h' ∧ acc = nI ((List.range i).filter p)) ⟨Fr.refl _ _, rfl⟩ ?_ ?_
  · rintro i acc h' hi ⟨g, rfl⟩
    have lf : (nI ((List.range i).filter p)).length < sizeLine := by
      rw [nI_len]
      exact Nat.lt_of_le_of_lt (List.length_filter_le _ _) (by rw [List.length_range]; omega)
    rw [show (0 : Int) + (i : Nat) = (i : Int) by omega]
    refine (turn i h' hi g).imp (fun k h2 ⟨e, g2⟩ => ?_) fun _ _ _ z => z
    rw [List.range_succ, List.filter_append]
    subst e
    cases hp : p i with
    | false =>
      rw [if_neg (by simp)]
      exact ⟨g2, by simp [hp]⟩
    | true =>
      rw [if_pos rfl]
      simp only [w_eVar, List.getElem?_set, hj, if_true, optP_some]
      refine ⟨lf, g2, ?_⟩
      rw [List.filter_cons, hp, if_pos rfl, List.filter_nil, nI_snoc]
  · rintro acc h' ⟨g, rfl⟩
    exact stop h' g
theorem lcf_lst {j a : Nat} {os : List Nat} {c : MT} {ρ : Mp.Env} {h : Mem} {Q : List Val → Mem → Prop} {X : XQ} (p : Nat → Bool) (ha : h[a]? = some (.lst (nI os))) (hn : os.length < 100000) (hj : j < ρ.length)
    (turn : ∀ i h', i ∈ os → Gr h h' → (c (ρ.set j (some (.int (i : Int)))) h').W (fun k h2 => k = p i ∧ Gr h h2) nX)
    (stop : ∀ h', Gr h h' → Q (nI (os.filter p)) h') : (lcF (wkL a (nI os).length) (.nm j) c (eVar j) ρ (wkL a (nI os).length).fuel 0 [] h).W Q X := by
  have ls := sizeLine_eq
  refine lc_lst (fun i acc h' => Gr h h' ∧ acc = nI ((os.take i).filter p)) ⟨Fr.refl _ _, rfl⟩ (fun i acc h' _ I => Gr.get I.1 ha) ?_ ?_
  · rintro i x acc h' hx ⟨g, rfl⟩
    obtain ⟨o, ho, rfl⟩ := map_inv hx
    have hi := list_get ho
    have lf : (nI ((os.take i).filter p)).length < sizeLine := by
      rw [nI_len]
      exact Nat.lt_of_le_of_lt (List.length_filter_le _ _) (by rw [List.length_take]; omega)
    refine (turn o h' (List.mem_of_getElem? ho) g).imp (fun k h2 ⟨e, g2⟩ => ?_) fun _ _ _ z => z
    rw [take_snoc ho, List.filter_append]
    subst e
    cases hp : p o with
    | false =>
      rw [if_neg (by simp)]
      exact ⟨g2, by simp [hp]⟩
    | true =>
      rw [if_pos rfl]
      simp only [w_eVar, List.getElem?_set, hj, if_true, optP_some]
      refine ⟨lf, g2, ?_⟩
      rw [List.filter_cons, hp, if_pos rfl, List.filter_nil, nI_snoc]
  · rintro acc h' ⟨g, rfl⟩
    rw [nI_len, List.take_length]
    exact stop h' g
theorem lcm_rng {j n : Nat} {elt : ME} {ρ : Mp.Env} {h : Mem} {Q : List Val → Mem → Prop} {X : XQ} (f : Nat → Val) (hn : n < 100000)
    (turn : ∀ i h', i < n → Gr h h' → (elt (ρ.set j (some (.int (i : Int)))) h').W (fun v h2 => v = f i ∧ Gr h h2) nX)
    (stop : ∀ h', Gr h h' → Q ((List.range n).map f) h') : (lcF (wkR 0 n) (.nm j) tYesM elt ρ (wkR 0 n).fuel 0 [] h).W Q X := by
  have ls := sizeLine_eq
  refine lc_rng (fun i acc h' => Gr h h' ∧ acc = (List.range i).map f) ⟨Fr.refl _ _, rfl⟩ ?_ ?_
  · rintro i acc h' hi ⟨g, rfl⟩
    rw [w_tYes, if_pos rfl, show (0 : Int) + (i : Nat) = (i : Int) by omega]
    refine (turn i h' hi g).imp (fun v h2 ⟨e, g2⟩ => ⟨by rw [List.length_map, List.length_range]; omega, g2, ?_⟩) fun _ _ _ z => z
    rw [List.range_succ, List.map_append, e]
    rfl
  · rintro acc h' ⟨g, rfl⟩
    exact stop h' g
theorem lcm_lst {j a : Nat} {os : List Nat} {elt : ME} {ρ : Mp.Env} {h : Mem} {Q : List Val → Mem → Prop} {X : XQ} (f : Nat → Val) (ha : h[a]? = some (.lst (nI os))) (hn : os.length < 100000)
    (turn : ∀ i h', i ∈ os → Gr h h' → (elt (ρ.set j (some (.int (i : Int)))) h').W (fun v h2 => v = f i ∧ Gr h h2) nX)
    (stop : ∀ h', Gr h h' → Q (os.map f) h') : (lcF (wkL a (nI os).length) (.nm j) tYesM elt ρ (wkL a (nI os).length).fuel 0 [] h).W Q X := by
  have ls := sizeLine_eq
  refine lc_lst (fun i acc h' => Gr h h' ∧ acc = (os.take i).map f) ⟨Fr.refl _ _, rfl⟩ (fun i acc h' _ I => Gr.get I.1 ha) ?_ ?_
  · rintro i x acc h' hx ⟨g, rfl⟩
    obtain ⟨o, ho, rfl⟩ := map_inv hx
    have hi := list_get ho
    rw [w_tYes, if_pos rfl]
    refine (turn o h' (List.mem_of_getElem? ho) g).imp (fun v h2 ⟨e, g2⟩ => ⟨by rw [List.length_map, List.length_take]; omega, g2, ?_⟩) fun _ _ _ z => z
    rw [take_snoc ho, List.map_append, e]
    rfl
  · rintro acc h' ⟨g, rfl⟩
    rw [nI_len, List.take_length]
    exact stop h' g
theorem mem_cast {i : Nat} {od : List Nat} : ((i : Int) ∈ od.map fun i : Nat => (i : Int)) ↔ i ∈ od := by
  rw [List.mem_map]
  exact ⟨fun ⟨a, h1, h2⟩ => by rw [← (by omega : a = i)]; exact h1, fun h => ⟨i, h, rfl⟩⟩
theorem notin_nI {h : Mem} {a : Nat} {os : List Nat} (i : Nat) (e : h[a]? = some (.lst (nI os))) (hl : os.length < 10000) : cmpop .NotIn h (.int (i : Int)) (.ref a) = some (decide (i ∉ os)) := by
  rw [nI_ints] at e
  rw [notin_ints _ e (by simpa using hl)]
  simp [mem_cast]
theorem in_nI {h : Mem} {a : Nat} {os : List Nat} (i : Nat) (e : h[a]? = some (.lst (nI os))) (hl : os.length < 10000) : cmpop .In h (.int (i : Int)) (.ref a) = some (decide (i ∈ os)) := by
  rw [nI_ints] at e
  rw [in_ints _ e (by simpa using hl)]
  simp [mem_cast]
theorem distinct_no {e : Nat} (he : 1 ≤ e) {v : Val} (t : Ty h v) (nl : ∀ n, v ≠ .ref n) (g : Int) : callF Γ e "distinct_numbers" [v, .int g] h = .ok (.bl false) h := by
  obtain ⟨d, rfl⟩ : ∃ d, e = d + 1 := ⟨e - 1, by omega⟩
  rw [c_distinct_numbers]
  refine W_eq ?_
  simp only [W_fin, s_distinct_numbers]
  cases t with
  | lst n xs e => exact absurd rfl (nl n)
  | _ => simp [subTy]
theorem os_of {n : Nat} {xs : List Val} (hd : distB ((n : Int) - 1) xs = true) : ∃ os : List Nat, xs = nI os ∧ os.Nodup ∧ ∀ x ∈ os, x < n := by
  unfold distB at hd
  rw [Bool.and_eq_true] at hd
  obtain ⟨ns, rfl, hn⟩ := inR_ints hd.1
  obtain ⟨os, e1, e2, e3⟩ := nat_of hn
  refine ⟨os, e1, ?_, e2⟩
  have := hd.2
  rw [intsOf_map] at this
  have this : ns.Nodup := by simpa using this
  rw [e3] at this
  exact List.Pairwise.of_map _ (fun a b h z => h (by rw [z])) this
theorem distB_of {n : Nat} {os : List Nat} (nd : os.Nodup) (lt : ∀ x ∈ os, x < n) : distB ((n : Int) - 1) (nI os) = true := by
  unfold distB
  rw [nI_of, Bool.and_eq_true, List.all_eq_true]
  refine ⟨fun x hx => ?_, ?_⟩
  · obtain ⟨w, hw, rfl⟩ := List.mem_map.mp hx
    have := lt w hw
    simp only [inR, decide_eq_true_iff]
    omega
  · have : (os.map fun i : Nat => (i : Int)).Nodup := by
      unfold List.Nodup
      rw [List.pairwise_map]
      exact nd.imp fun h z => h (by omega)
    simpa using this
theorem nI_inj : ∀ {a b : List Nat}, nI a = nI b → a = b
  | [], [], _ => rfl
  | [], _ :: _, h => by simp [nI] at h
  | _ :: _, [], h => by simp [nI] at h
  | x :: a, y :: b, h => by
    simp only [nI, List.map_cons, List.cons.injEq, Val.int.injEq] at h
    rw [nI_inj (a := a) (b := b) h.2, Int.natCast_inj.mp h.1]
/-- one step of the law's walk over the numbers -/
theorem dist_step {n i : Nat} {xs : List Val} {x : Val} {os : List Nat} (hx : xs[i]? = some x) (e : xs.take i = nI os) (nd : os.Nodup) (lt : ∀ x ∈ os, x < n) :
    (inR ((n : Int) - 1) x = false ∧ distB ((n : Int) - 1) xs = false) ∨ ∃ w : Nat, inR ((n : Int) - 1) x = true ∧ x = .int (w : Int) ∧ w < n ∧ (w ∈ os → distB ((n : Int) - 1) xs = false) ∧ (w ∉ os → xs.take (i + 1) = nI (os ++ [w]) ∧ (os ++ [w]).Nodup ∧ ∀ x ∈ os ++ [w], x < n) := by
  cases hr : inR ((n : Int) - 1) x with
  | false =>
    left
    refine ⟨rfl, ?_⟩
    unfold distB
    have : xs.all (inR ((n : Int) - 1)) = false := List.all_eq_false.mpr ⟨x, List.mem_of_getElem? hx, by simp [hr]⟩
    rw [this]; rfl
  | true =>
    right
    cases x with
    | int j =>
      simp only [inR, decide_eq_true_iff] at hr
      refine ⟨j.toNat, rfl, by congr 1; omega, by omega, fun hm => ?_, fun hm => ⟨?_, ?_, ?_⟩⟩
      · cases hd : distB ((n : Int) - 1) xs with
        | false => rfl
        | true =>
          obtain ⟨os2, e2, nd2, lt2⟩ := os_of hd
          exfalso
          subst e2
          obtain ⟨w, hw, ew⟩ := map_inv hx
          have e3 : (nI os2).take i = nI (os2.take i) := by simp [nI]
          rw [e3] at e
          have e4 := nI_inj e
          have ew : w = j.toNat := by
            have : j = (w : Int) := by simpa using ew
            omega
          have nd3 : (os2.take (i + 1)).Nodup := nd2.sublist (List.take_sublist _ _)
          rw [take_snoc hw, e4, ew, List.nodup_append] at nd3
          exact nd3.2.2 _ hm j.toNat (by simp) rfl
      · rw [take_snoc hx, e, nI_snoc]
        congr 3
        omega
      · rw [List.nodup_append]
        refine ⟨nd, by simp, fun a ha b hb => ?_⟩
        have : b = j.toNat := by simpa using hb
        rw [this]
        intro z
        exact hm (by rw [← z]; exact ha)
      · intro y hy
        rcases List.mem_append.mp hy with q | q
        · exact lt y q
        · have : y = j.toNat := by simpa using q
          omega
    | _ => simp [inR] at hr
theorem eqv_ints : ∀ ns : List Int, PyData.eqvAll (ns.map .int) (ns.map .int) = true
  | [] => rfl
  | n :: ns => by
    rw [List.map_cons, PyData.eqvAll, eqv_ints ns]
    simp [PyData.eqv]
theorem ne_ints {h : Mem} {a b : Nat} {ns : List Int} (ea : h[a]? = some (.lst (ns.map .int))) (eb : h[b]? = some (.lst (ns.map .int))) (hl : ns.length < 10000) : cmpop .NotEq h (.ref a) (.ref b) = some false := by
  simp only [cmpop, rdS_ints ea hl, rdS_ints eb hl, PyData.eqv, eqv_ints]
  rfl
theorem cut_take {α : Type} (xs : List α) (k : Nat) : cut xs none (some (k : Int)) = xs.take k := by
  unfold cut
  rw [HT.sIx_nat, HT.sIx_none, List.drop_zero]
  by_cases h : k ≤ xs.length
  · rw [Nat.min_eq_left h]; simp
  · rw [List.take_of_length_le (by omega), List.take_of_length_le (by omega)]
@[simp] theorem sl_ref {h : Mem} (n : Nat) (lo hi : Option Int) : sliceV (.ref n) lo hi h = match h[n]? with
    | some (.lst xs) => newL (cut xs lo hi) h
    | some (.rol xs) => newL (cut xs lo hi) h
    | _ => .bad := rfl
theorem rgL_n (n : Nat) : rgL 0 (n : Int) = nI (List.range n) := by
  unfold rgL nI
  simp
theorem rgOk_n {n : Nat} (hn : n < 100000) : rgOk 0 (n : Int) = true := by
  unfold rgOk small62
  simp
  omega
theorem integer_ok {e : Nat} (he : 1 ≤ e) {v : Val} (t : Ty h v) (g : Int) : callF Γ e "_law_is_integer" [v, .int 0, .int g] h = .ok (.bl (inR g v)) h := by
  obtain ⟨d, rfl⟩ : ∃ d, e = d + 1 := ⟨e - 1, by omega⟩
  rw [c__law_is_integer]
  refine W_eq ?_
  simp only [W_fin, s__law_is_integer]
  cases t with
  | non => simp [subTy, inR]
  | bl b => simp [subTy, inR]
  | int i =>
    simp [subTy, inR]
    constructor
    · intro h1
      simp [h1]
    · intro h1
      simp [show ¬ 0 ≤ i by omega]
  | str s => simp [subTy, inR]
  | tup ts => simp [subTy, inR]
  | lst n xs e => simp [subTy, inR, e]
theorem nI_take (os : List Nat) (k : Nat) : (nI os).take k = nI (os.take k) := by simp [nI]
def natV : Val → Nat
  | .int i => i.toNat
  | _ => 0
def natsOf (xs : List Val) : List Nat := xs.map natV
theorem natsOf_nI (os : List Nat) : natsOf (nI os) = os := by
  unfold natsOf nI
  rw [List.map_map]
  conv => rhs; rw [← List.map_id os]
  congr 1
theorem Alk.gr {h h' : Mem} (g : Gr h h') {n : Nat} {v w : Val} (A : Alk h n v w) : Alk h' n v w := by
  induction A with
  | non => exact .non
  | bl b => exact .bl b
  | int i => exact .int i
  | str x hx => exact .str x hx
  | tup xs ys hl hs ha ih => exact .tup xs ys hl hs ih
  | lst a b xs ys e1 e2 hl hs ha ih => exact .lst a b xs ys (Gr.get g e1) (Gr.get g e2) hl hs ih
theorem Alk.ty {h : Mem} {n : Nat} {v w : Val} (A : Alk h n v w) : Ty h v := by
  cases A with
  | non => exact .non
  | bl b => exact .bl b
  | int i => exact .int i
  | str x hx => exact .str x
  | tup xs ys hl hs ha => exact .tup xs
  | lst a b xs ys e1 e2 hl hs ha => exact .lst a xs e1
theorem Alk.up {h : Mem} {n : Nat} {v w : Val} (A : Alk h n v w) : ∀ m, n ≤ m → Alk h m v w := by
  induction A with
  | non => exact fun _ _ => .non
  | bl b => exact fun _ _ => .bl b
  | int i => exact fun _ _ => .int i
  | str x hx => exact fun _ _ => .str x hx
  | tup xs ys hl hs ha ih =>
    intro m hm
    obtain ⟨k, rfl⟩ : ∃ k, m = k + 1 := ⟨m - 1, by omega⟩
    exact .tup xs ys hl hs fun i x y e1 e2 => ih i x y e1 e2 k (by omega)
  | lst a b xs ys e1 e2 hl hs ha ih =>
    intro m hm
    obtain ⟨k, rfl⟩ : ∃ k, m = k + 1 := ⟨m - 1, by omega⟩
    exact .lst a b xs ys e1 e2 hl hs fun i x y e1 e2 => ih i x y e1 e2 k (by omega)
/-- short: lists and tuples of less than 1000 parts -/
inductive Sh (h : Mem) : Nat → Val → Prop
  | non {n : Nat} : Sh h n .non
  | bl {n : Nat} (b : Bool) : Sh h n (.bl b)
  | int {n : Nat} (i : Int) : Sh h n (.int i)
  | str {n : Nat} (x : Str) (hx : SeqAt.shaped (.str x) = true) : Sh h n (.str x)
  | tup {n : Nat} (xs : List Val) (hs : xs.length < 1000) (ha : ∀ (i : Nat) (x : Val), xs[i]? = some x → Sh h n x) : Sh h (n + 1) (.tup xs)
  | lst {n : Nat} (a : Nat) (xs : List Val) (e1 : h[a]? = some (.lst xs)) (hs : xs.length < 1000) (ha : ∀ (i : Nat) (x : Val), xs[i]? = some x → Sh h n x) : Sh h (n + 1) (.ref a)
theorem Sh.gr {h h' : Mem} (g : Gr h h') {n : Nat} {v : Val} (A : Sh h n v) : Sh h' n v := by
  induction A with
  | non => exact .non
  | bl b => exact .bl b
  | int i => exact .int i
  | str x hx => exact .str x hx
  | tup xs hs ha ih => exact .tup xs hs ih
  | lst a xs e1 hs ha ih => exact .lst a xs (Gr.get g e1) hs ih
theorem Sh.up {h : Mem} {n : Nat} {v : Val} (A : Sh h n v) : ∀ m, n ≤ m → Sh h m v := by
  induction A with
  | non => exact fun _ _ => .non
  | bl b => exact fun _ _ => .bl b
  | int i => exact fun _ _ => .int i
  | str x hx => exact fun _ _ => .str x hx
  | tup xs hs ha ih =>
    intro m hm
    obtain ⟨k, rfl⟩ : ∃ k, m = k + 1 := ⟨m - 1, by omega⟩
    exact .tup xs hs fun i x e1 => ih i x e1 k (by omega)
  | lst a xs e1 hs ha ih =>
    intro m hm
    obtain ⟨k, rfl⟩ : ∃ k, m = k + 1 := ⟨m - 1, by omega⟩
    exact .lst a xs e1 hs fun i x e1 => ih i x e1 k (by omega)
theorem Sh.ty {h : Mem} {n : Nat} {v : Val} (A : Sh h n v) : Ty h v := by
  cases A with
  | non => exact .non
  | bl b => exact .bl b
  | int i => exact .int i
  | str x hx => exact .str x
  | tup xs hs ha => exact .tup xs
  | lst a xs e1 hs ha => exact .lst a xs e1
theorem copy_ok : ∀ (n : Nat) {e : Nat}, n < e → ∀ {h : Mem} {v : Val}, Sh h n v → ∀ {Q : Val → Mem → Prop} {X : XQ}, (∀ w h', Gr h h' → Alk h' n v w → Q w h') → (callF Γ e "_law_copy" [v] h).W Q X := by
  intro n
  induction n using Nat.strongRecOn with
  | _ n ih =>
    intro e he h v A Q X q
    obtain ⟨d, rfl⟩ : ∃ d, e = d + 1 := ⟨e - 1, by omega⟩
    have ls := sizeLine_eq
    rw [c__law_copy]
    simp only [W_fin, s__law_copy]
    cases A with
    | non => simp [subTy]; exact q _ _ (Fr.refl _ _) .non
    | bl b => simp [subTy]; exact q _ _ (Fr.refl _ _) (.bl b)
    | int i => simp [subTy]; exact q _ _ (Fr.refl _ _) (.int i)
    | str x hx => simp [subTy]; exact q _ _ (Fr.refl _ _) (.str x hx)
    | @tup k xs hs ha =>
      simp [subTy]
      refine lc_tup (fun i acc h' => Gr h h' ∧ acc.length = i ∧ ∀ (j : Nat) (x y : Val), j < i → xs[j]? = some x → acc[j]? = some y → Alk h' k x y) ⟨Fr.refl _ _, rfl, nofun⟩ ?_ ?_
      · rintro i x acc h' hx ⟨g, hl, hA⟩
        have hi := list_get hx
        simp [wipeE]
        refine ih k (by omega) (show k < d by omega) ((ha i x hx).gr g) fun w h2 g2 A2 => ⟨by omega, Fr.trans g g2, by omega, fun j x' y' hj e1 e2 => ?_⟩
        by_cases hji : j = i
        · subst hji
          rw [hx] at e1
          have : y' = w := by simpa [hl] using e2.symm
          rw [this, ← Option.some.inj e1]
          exact A2
        · rw [List.getElem?_append_left (by omega)] at e2
          exact Alk.gr g2 (hA j x' y' (by omega) e1 e2)
      · rintro acc h' ⟨g, hl, hA⟩
        have n1 := get_new h' (Ob.lst acc)
        refine ⟨by omega, ?_⟩
        exact (q _ _ (Fr.trans g (Gr.new _ _)) (.tup xs acc hl.symm (by omega) fun i x y e1 e2 => Alk.gr (Gr.new _ _) (hA i x y (list_get e1) e1 e2)))
    | @lst k a xs e1 hs ha =>
      simp [subTy, e1]
      refine lc_lst (fun i acc h' => Gr h h' ∧ acc.length = i ∧ ∀ (j : Nat) (x y : Val), j < i → xs[j]? = some x → acc[j]? = some y → Alk h' k x y) ⟨Fr.refl _ _, rfl, nofun⟩ (fun i acc h' _ I => Gr.get I.1 e1) ?_ ?_
      · rintro i x acc h' hx ⟨g, hl, hA⟩
        have hi := list_get hx
        simp [wipeE]
        refine ih k (by omega) (show k < d by omega) ((ha i x hx).gr g) fun w h2 g2 A2 => ⟨by omega, Fr.trans g g2, by omega, fun j x' y' hj e1 e2 => ?_⟩
        by_cases hji : j = i
        · subst hji
          rw [hx] at e1
          have : y' = w := by simpa [hl] using e2.symm
          rw [this, ← Option.some.inj e1]
          exact A2
        · rw [List.getElem?_append_left (by omega)] at e2
          exact Alk.gr g2 (hA j x' y' (by omega) e1 e2)
      · rintro acc h' ⟨g, hl, hA⟩
        have n1 := get_new h' (Ob.lst acc)
        refine ⟨by omega, q _ _ (Fr.trans g (Gr.new _ _)) (.lst a h'.length xs acc (Gr.get (Fr.trans g (Gr.new _ _)) e1) n1 hl.symm (by omega) fun i x y e1 e2 => Alk.gr (Gr.new _ _) (hA i x y (list_get e1) e1 e2))⟩
theorem alk_eq_int {h : Mem} {n : Nat} {i : Int} {w : Val} (A : Alk h n (.int i) w) : w = .int i := by cases A; rfl
theorem alk_ints {h : Mem} {n : Nat} {ns : List Int} {ys : List Val} (hl : (ns.map Val.int).length = ys.length) (ha : ∀ (i : Nat) (x y : Val), (ns.map Val.int)[i]? = some x → ys[i]? = some y → Alk h n x y) : ys = ns.map Val.int := by
  apply List.ext_getElem hl.symm
  intro i h1 h2
  have := ha i _ _ (List.getElem?_eq_getElem h2) (List.getElem?_eq_getElem h1)
  rw [List.getElem_map] at this ⊢
  exact alk_eq_int this
theorem alk_row {h : Mem} {n a : Nat} {ns : List Int} {w : Val} (e : h[a]? = some (.lst (ns.map .int))) (A : Alk h n (.ref a) w) : ∃ b, w = .ref b ∧ h[b]? = some (.lst (ns.map .int)) := by
  cases A with
  | lst _ b xs ys e1 e2 hl hs ha =>
    rw [e] at e1
    cases e1
    exact ⟨b, rfl, by rw [e2, alk_ints hl ha]⟩
def refN : Val → Nat
  | .ref n => n
  | _ => 0
theorem sh_row {a : Nat} {ns : List Int} (e : h[a]? = some (.lst (ns.map .int))) (hl : ns.length < 1000) (n : Nat) : Sh h (n + 1) (.ref a) := .lst a _ e (by simpa using hl) fun i x hx => by
  obtain ⟨j, _, rfl⟩ := map_inv hx
  exact .int j
def valB (f : List Val → Bool) (h : Mem) : Val → Bool
  | .ref n => match h[n]? with
    | some (.lst xs) => f xs
    | _ => false
  | _ => false
theorem valB_gr {f : List Val → Bool} {v : Val} (t : Ty h v) (g : Gr h h') : valB f h' v = valB f h v := by
  cases t with
  | lst n xs e => simp only [valB, e, Gr.get g e]
  | _ => rfl
theorem dist_alk {n : Nat} {xs ys : List Val} {g : Nat} (hl : xs.length = ys.length) (ka : ∀ (i : Nat) (x y : Val), xs[i]? = some x → ys[i]? = some y → Alk h n x y) : (distB ((g : Int) - 1) xs = true → ys = xs) ∧ (distB ((g : Int) - 1) ys = true → ys = xs) := by
  refine ⟨fun hd => ?_, fun hd => ?_⟩
  · obtain ⟨os, rfl, _⟩ := os_of hd
    rw [nI_ints] at hl ka ⊢
    exact alk_ints hl ka
  · obtain ⟨os, rfl, _⟩ := os_of hd
    apply List.ext_getElem hl.symm
    intro i h1 h2
    have A := ka i _ _ (List.getElem?_eq_getElem h2) (List.getElem?_eq_getElem h1)
    generalize hx : xs[i] = x at A
    have : (nI os)[i] = Val.int (os[i]'(by rw [← nI_len]; exact h1)) := by simp [nI]
    rw [this] at A ⊢
    cases A
    rfl
theorem valB_alk {n : Nat} {v w : Val} (A : Alk h n v w) {f : List Val → Bool} {g : Nat} (hf : ∀ xs, distB ((g : Int) - 1) xs = false → f xs = false) : valB f h w = valB f h v := by
  cases A with
  | lst a b xs ys e1 e2 hl hs ka =>
    simp only [valB, e1, e2]
    have da := dist_alk (g := g) hl ka
    cases d1 : distB ((g : Int) - 1) xs with
    | true => rw [da.1 d1]
    | false =>
      cases d2 : distB ((g : Int) - 1) ys with
      | true => rw [da.2 d2]
      | false => rw [hf _ d1, hf _ d2]
  | _ => rfl
/-- a value of plain data, as the four judges see it -/
structure Vl (h : Mem) (v : Val) : Prop where
  ty : Ty h v
  ls : ∀ n xs, v = .ref n → h[n]? = some (.lst xs) → xs.length < 1000 ∧ ∀ x ∈ xs, Ty h x
theorem Sh.vl {n : Nat} {v : Val} (A : Sh h n v) : Vl h v := ⟨A.ty, fun m xs e1 e2 => by
  subst e1
  cases A with
  | lst a ys e hs ha =>
    rw [e] at e2
    cases e2
    exact ⟨hs, fun x hx => by
      obtain ⟨i, hi⟩ := List.mem_iff_getElem?.mp hx
      exact (ha i x hi).ty⟩⟩
theorem alk_vl {n : Nat} {v w : Val} (V : Vl h v) (A : Alk h n v w) : Vl h w := by
  cases A with
  | non => exact ⟨.non, nofun⟩
  | bl b => exact ⟨.bl b, nofun⟩
  | int i => exact ⟨.int i, nofun⟩
  | str x hx => exact ⟨.str x, nofun⟩
  | tup xs ys hl hs ha => exact ⟨.tup ys, nofun⟩
  | lst a b xs ys e1 e2 hl hs ka =>
    refine ⟨.lst b ys e2, fun m zs h1 h2 => ?_⟩
    cases h1
    rw [e2] at h2
    cases h2
    refine ⟨by rw [← hl]; exact (V.ls a xs rfl e1).1, fun y hy => ?_⟩
    obtain ⟨i, hi, rfl⟩ := List.mem_iff_getElem.mp hy
    have A := ka i _ _ (List.getElem?_eq_getElem (by omega)) (List.getElem?_eq_getElem hi)
    generalize ys[i] = y at A
    generalize xs[i] = x at A
    cases A with
    | non => exact .non
    | bl b => exact .bl b
    | int i => exact .int i
    | str x hx => exact .str x
    | tup xs ys hl hs ha => exact .tup ys
    | lst a b xs ys e1 e2 hl hs ha => exact .lst b ys e2
theorem Vl.gr {v : Val} (V : Vl h v) (g : Gr h h') : Vl h' v := ⟨V.ty.gr g, fun m xs e1 e2 => by
  subst e1
  cases V.ty with
  | lst _ ys e =>
    rw [Gr.get g e] at e2
    cases e2
    have := V.ls m xs rfl e
    exact ⟨this.1, fun x hx => (this.2 x hx).gr g⟩⟩
structure Dg (h h' : Mem) : Prop where
  st : St h'
  fr : Fr [2] h h'
theorem Dg.refl (s : St h) : Dg h h := ⟨s, Fr.refl _ _⟩
theorem Dg.trans (a : Dg h h') (b : Dg h' h'') : Dg h h'' := ⟨b.st, a.fr.trans b.fr⟩
theorem Dg.get (d : Dg h h') {n : Nat} {o : Ob} (e : h[n]? = some o) (hn : n ≠ 2) : h'[n]? = some o := d.fr.get e (by simp [hn])
theorem Dg.of (d : Dr h h') : Dg h h' := ⟨d.st, d.fr⟩
theorem Dg.new (s : St h) (m : Mem) : Dg h (h ++ m) := ⟨s.app m, Fr.app _ _ _⟩
theorem Dg.gr (s : St h) (g : Gr h h') : Dg h h' := by
  refine ⟨?_, g.mono (by simp)⟩
  obtain ⟨ns, p, c, t, s, e2, e1, hp, hc⟩ := s.ex
  exact ⟨ns, p, c, t, s, Gr.get g e2, Gr.get g e1, hp, hc⟩
theorem Dg.later (d : Dg h h') {a : Nat} (ha : h.length ≤ a) (h3 : 3 ≤ a) (o : Ob) : Dg h (h'.set a o) := by
  refine ⟨d.st.set (by omega) (by omega) o, by rw [List.length_set]; exact d.fr.len, fun n hn hS => ?_⟩
  rw [List.getElem?_set_ne (by omega)]
  exact d.fr.keep n hn hS
theorem Dg.len (d : Dg h h') : h.length ≤ h'.length := d.fr.len
theorem not2 (st : St h) {a : Nat} {ns : List Int} (e : h[a]? = some (.lst (ns.map .int))) : a ≠ 2 := by
  rintro rfl
  obtain ⟨ms, p, c, t, s, e2, e1, hp, hc⟩ := st.ex
  rw [e] at e2
  have := Option.some.inj e2
  cases ns with
  | nil => simp at this
  | cons n ns => simp at this
theorem not2n (st : St h) {a : Nat} {os : List Nat} (e : h[a]? = some (.lst (nI os))) : a ≠ 2 := by
  rw [nI_ints] at e
  exact not2 st e
theorem lcd_rng {j n : Nat} {elt : ME} {ρ : Mp.Env} {h : Mem} {Q : List Val → Mem → Prop} {X : XQ} (P : Int → Prop) (hn : n < 1000) (s0 : St h)
    (turn : ∀ i h', i < n → Dg h h' → (elt (ρ.set j (some (.int (i : Int)))) h').W (fun v h2 => Dg h h2 ∧ ∃ r, v = .int r ∧ P r) nX)
    (stop : ∀ h' (ns : List Int), Dg h h' → ns.length = n → (∀ x ∈ ns, P x) → Q (ns.map .int) h') : (lcF (wkR 0 n) (.nm j) tYesM elt ρ (wkR 0 n).fuel 0 [] h).W Q X := by
  have ls := sizeLine_eq
  refine lc_rng (fun i acc h' => Dg h h' ∧ ∃ ns : List Int, acc = ns.map .int ∧ ns.length = i ∧ ∀ x ∈ ns, P x) ⟨Dg.refl s0, [], rfl, rfl, nofun⟩ ?_ ?_
  · rintro i acc h' hi ⟨g, ns, rfl, hl, hp⟩
    rw [w_tYes, if_pos rfl, show (0 : Int) + (i : Nat) = (i : Int) by omega]
    refine (turn i h' hi g).imp (fun v h2 ⟨g2, r, e, pr⟩ => ⟨by rw [List.length_map]; omega, g2, ns ++ [r], by rw [e]; simp, by simp [hl], fun x hx => ?_⟩) fun _ _ _ z => z
    rcases List.mem_append.mp hx with q | q
    · exact hp x q
    · have : x = r := by simpa using q
      rw [this]; exact pr
  · rintro acc h' ⟨g, ns, rfl, hl, hp⟩
    exact stop h' ns g hl hp
theorem lcd_lst {j a : Nat} {xs : List Int} {elt : ME} {ρ : Mp.Env} {h : Mem} {Q : List Val → Mem → Prop} {X : XQ} (P : Int → Prop) (ha : h[a]? = some (.lst (xs.map .int))) (hn : xs.length < 1000) (s0 : St h)
    (turn : ∀ x h', x ∈ xs → Dg h h' → (elt (ρ.set j (some (.int x))) h').W (fun v h2 => Dg h h2 ∧ ∃ r, v = .int r ∧ P r) nX)
    (stop : ∀ h' (ns : List Int), Dg h h' → ns.length = xs.length → (∀ x ∈ ns, P x) → Q (ns.map .int) h') : (lcF (wkL a (xs.map Val.int).length) (.nm j) tYesM elt ρ (wkL a (xs.map Val.int).length).fuel 0 [] h).W Q X := by
  have ls := sizeLine_eq
  refine lc_lst (fun i acc h' => Dg h h' ∧ ∃ ns : List Int, acc = ns.map .int ∧ ns.length = i ∧ ∀ x ∈ ns, P x) ⟨Dg.refl s0, [], rfl, rfl, nofun⟩ (fun i acc h' _ I => I.1.get ha (not2 s0 ha)) ?_ ?_
  · rintro i x acc h' hx ⟨g, ns, rfl, hl, hp⟩
    obtain ⟨y, hy, rfl⟩ := map_inv hx
    have hi := list_get hy
    rw [w_tYes, if_pos rfl]
    refine (turn y h' (List.mem_of_getElem? hy) g).imp (fun v h2 ⟨g2, r, e, pr⟩ => ⟨by rw [List.length_map]; omega, g2, ns ++ [r], by rw [e]; simp, by simp [hl], fun x hx => ?_⟩) fun _ _ _ z => z
    rcases List.mem_append.mp hx with q | q
    · exact hp x q
    · have : x = r := by simpa using q
      rw [this]; exact pr
  · rintro acc h' ⟨g, ns, rfl, hl, hp⟩
    exact stop h' ns g (by simpa using hl) hp
theorem shuffled_ok {e : Nat} (he : 3 ≤ e) (st : St h) {a : Nat} {os : List Nat} (ea : h[a]? = some (.lst (nI os))) (hl : os.length < 1000) {Q : Val → Mem → Prop} {X : XQ}
    (q : ∀ h' (n : Nat) (os' : List Nat), Dg h h' → h.length ≤ n → h'[n]? = some (.lst (nI os')) → os'.length = os.length → (∀ x ∈ os', x ∈ os) → Q (.ref n) h') : (callF Γ e "_law_shuffled" [.ref 2, .ref a] h).W Q X := by
  obtain ⟨d, rfl⟩ : ∃ d, e = d + 1 := ⟨e - 1, by omega⟩
  have ls := sizeLine_eq
  have l3 := st.lt
  have na := not2n st ea
  rw [c__law_shuffled]
  simp only [W_fin, s__law_shuffled]
  have e1 : (h ++ [Ob.lst (nI os), Ob.lst []])[a]? = some (.lst (nI os)) := get_app _ ea
  have e2 : (h ++ [Ob.lst (nI os), Ob.lst []])[h.length]? = some (.lst (nI os)) := by simp
  have e3 : (h ++ [Ob.lst (nI os), Ob.lst []])[h.length + 1]? = some (.lst []) := by simp
  have g1 := Dg.new st [Ob.lst (nI os), Ob.lst []]
  simp [ea]
  generalize h ++ [Ob.lst (nI os), Ob.lst []] = h1 at e1 e2 e3 g1
  refine ⟨by rw [nI_len]; omega, ?_⟩
  simp [e1, nI_len]
  refine ⟨by unfold small62; simp; omega, ?_⟩
  refine for_rng (fun i ρ h' => Dg h h' ∧ ∃ rest acc y, h'[h.length]? = some (.lst (nI rest)) ∧ h'[h.length + 1]? = some (.lst (nI acc)) ∧ rest.length + i = os.length ∧ acc.length = i ∧ (∀ x ∈ rest, x ∈ os) ∧ (∀ x ∈ acc, x ∈ os) ∧ ρ = [some (.ref 2), some (.ref a), some (.ref h.length), some (.ref (h.length + 1)), y]) ⟨g1, os, [], _, e2, e3, by simp, rfl, fun _ z => z, nofun, rfl⟩ ?_ ?_
  · rintro i ρ h2 hi ⟨g2, rest, acc, y, er, ec, hr, hc, mr, mc, rfl⟩
    simp [er, ec, nI_len]
    refine take_then (take_ok (by omega)) g2.st (by omega) fun r h3 r1 r2 d3 => ?_
    have er3 := d3.get er (by omega)
    have ec3 := d3.get ec (by omega)
    have hrl : r.toNat < rest.length := by omega
    have ir : ixN (nI rest).length r = some r.toNat := ixN_pos r1 (by rw [nI_len]; omega)
    have gr : (nI rest)[r.toNat]? = some (.int (rest[r.toNat] : Nat)) := by simp [nI, hrl]
    have ee : (nI rest).eraseIdx r.toNat = nI (rest.eraseIdx r.toNat) := by simp [nI, List.eraseIdx_eq_take_drop_succ]
    rw [lmr_popI, er3]
    simp only [ir, gr, ee, W_ok]
    have ec4 : (h3.set h.length (Ob.lst (nI (rest.eraseIdx r.toNat))))[h.length + 1]? = some (.lst (nI acc)) := get_set_ne ec3 (by omega)
    have er4 : (h3.set h.length (Ob.lst (nI (rest.eraseIdx r.toNat))))[h.length]? = some (.lst (nI (rest.eraseIdx r.toNat))) := get_set er3
    have g4 := (g2.trans (Dg.of d3)).later (a := h.length) (Nat.le_refl _) l3 (Ob.lst (nI (rest.eraseIdx r.toNat)))
    generalize h3.set h.length (Ob.lst (nI (rest.eraseIdx r.toNat))) = h4 at ec4 er4 g4
    rw [ec4]
    simp [nI_len]
    have g5 := g4.later (a := h.length + 1) (by omega) (by omega) (Ob.lst (nI (acc ++ [rest[r.toNat]])))
    have ec5 : (h4.set (h.length + 1) (Ob.lst (nI (acc ++ [rest[r.toNat]]))))[h.length + 1]? = _ := get_set ec4
    have er5 : (h4.set (h.length + 1) (Ob.lst (nI (acc ++ [rest[r.toNat]]))))[h.length]? = _ := get_set_ne er4 (by omega)
    rw [nI_snoc] at g5 ec5 er5
    refine ⟨by omega, g5, rest.eraseIdx r.toNat, er4, acc ++ [rest[r.toNat]], by rw [nI_snoc]; first | exact ec5 | (have := lt_of_get ec4; simp [this]), ?_, by simp [hc], fun x hx => mr x (List.mem_of_mem_eraseIdx hx), fun x hx => ?_⟩
    · rw [List.length_eraseIdx, if_pos hrl]; omega
    · rcases List.mem_append.mp hx with q | q
      · exact mc x q
      · have : x = rest[r.toNat] := by simpa using q
        rw [this]; exact mr _ (List.getElem_mem _)
  · rintro ρ h2 ⟨g2, rest, acc, y, er, ec, hr, hc, mr, mc, rfl⟩
    simp
    exact q h2 _ acc g2 (by omega) ec hc mc
inductive Sd (N : List Nat) (h : Mem) : Nat → Val → Prop
  | non {n : Nat} : Sd N h n .non
  | bl {n : Nat} (b : Bool) : Sd N h n (.bl b)
  | int {n : Nat} (i : Int) : Sd N h n (.int i)
  | str {n : Nat} (x : Str) (hx : SeqAt.shaped (.str x) = true) : Sd N h n (.str x)
  | tup {n : Nat} (xs : List Val) (hs : xs.length < 1000) (ha : ∀ (i : Nat) (x : Val), xs[i]? = some x → Sd N h n x) : Sd N h (n + 1) (.tup xs)
  | lst {n : Nat} (a : Nat) (xs : List Val) (e1 : h[a]? = some (.lst xs)) (hN : a ∉ N) (hs : xs.length < 1000) (ha : ∀ (i : Nat) (x : Val), xs[i]? = some x → Sd N h n x) : Sd N h (n + 1) (.ref a)
theorem Sd.sh {n : Nat} {v : Val} (A : Sd N h n v) : Sh h n v := by
  induction A with
  | non => exact .non
  | bl b => exact .bl b
  | int i => exact .int i
  | str x hx => exact .str x hx
  | tup xs hs ha ih => exact .tup xs hs ih
  | lst a xs e1 hN hs ha ih => exact .lst a xs e1 hs ih
theorem Sd.fr {n : Nat} {v : Val} (A : Sd N h n v) (f : Fr N h h') : Sd N h' n v := by
  induction A with
  | non => exact .non
  | bl b => exact .bl b
  | int i => exact .int i
  | str x hx => exact .str x hx
  | tup xs hs ha ih => exact .tup xs hs ih
  | lst a xs e1 hN hs ha ih => exact .lst a xs (f.get e1 hN) hN hs ih
theorem Sd.wide {n : Nat} {v : Val} (A : Sd N h n v) {N' : List Nat} (i : ∀ b ∈ N', b ∈ N ∨ h.length ≤ b) : Sd N' h n v := by
  induction A with
  | non => exact .non
  | bl b => exact .bl b
  | int i => exact .int i
  | str x hx => exact .str x hx
  | tup xs hs ha ih => exact .tup xs hs ih
  | lst a xs e1 hN hs ha ih =>
    refine .lst a xs e1 (fun z => ?_) hs ih
    rcases i a z with q | q
    · exact hN q
    · have := lt_of_get e1; omega
theorem Sd.up {n : Nat} {v : Val} (A : Sd N h n v) : ∀ m, n ≤ m → Sd N h m v := by
  induction A with
  | non => exact fun _ _ => .non
  | bl b => exact fun _ _ => .bl b
  | int i => exact fun _ _ => .int i
  | str x hx => exact fun _ _ => .str x hx
  | tup xs hs ha ih =>
    intro m hm
    obtain ⟨k, rfl⟩ : ∃ k, m = k + 1 := ⟨m - 1, by omega⟩
    exact .tup xs hs fun i x e1 => ih i x e1 k (by omega)
  | lst a xs e1 hN hs ha ih =>
    intro m hm
    obtain ⟨k, rfl⟩ : ∃ k, m = k + 1 := ⟨m - 1, by omega⟩
    exact .lst a xs e1 hN hs fun i x e1 => ih i x e1 k (by omega)
theorem sd_ints {a : Nat} {ns : List Int} (e : h[a]? = some (.lst (ns.map .int))) (hN : a ∉ N) (hl : ns.length < 1000) (n : Nat) : Sd N h (n + 1) (.ref a) := .lst a _ e hN (by simpa using hl) fun i x hx => by
  obtain ⟨j, _, rfl⟩ := map_inv hx
  exact .int j
theorem sd_nI {a : Nat} {os : List Nat} (e : h[a]? = some (.lst (nI os))) (hN : a ∉ N) (hl : os.length < 1000) (n : Nat) : Sd N h (n + 1) (.ref a) := by
  rw [nI_ints] at e
  exact sd_ints e hN (by simpa using hl) n
/-- a value made since h -/
def Nw (h h' : Mem) (n : Nat) (v : Val) : Prop := ∀ N, 2 ∈ N → (∀ b ∈ N, b < h.length) → Sd N h' n v
theorem Nw.dg {h'' : Mem} {n : Nat} {v : Val} (w : Nw h h' n v) (d : Dg h' h'') : Nw h h'' n v := fun N h2 hN => (w N h2 hN).fr (d.fr.mono fun x _ hx => by
  rw [show x = 2 by simpa using hx]
  exact h2)
theorem Nw.base {h0 : Mem} {n : Nat} {v : Val} (w : Nw h h' n v) (l : h0.length ≤ h.length) : Nw h0 h' n v := fun N h2 hN => w N h2 fun b hb => Nat.lt_of_lt_of_le (hN b hb) l
theorem Nw.up {n m : Nat} {v : Val} (w : Nw h h' n v) (l : n ≤ m) : Nw h h' m v := fun N h2 hN => (w N h2 hN).up m l
theorem nw_nI {a : Nat} {os : List Nat} (e : h'[a]? = some (.lst (nI os))) (ha : h.length ≤ a) (hl : os.length < 1000) (n : Nat) : Nw h h' (n + 1) (.ref a) := fun N _ hN => sd_nI e (fun z => by have := hN a z; omega) hl n
@[simp] theorem lmr_extend {h : Mem} (n b : Nat) : lmRun .extend n [.ref b] h = match h[n]? with
  | some (.lst xs) => (match h[b]? with
    | some (.lst zs) => if xs.length + zs.length ≤ sizeLine then .ok .non (h.set n (.lst (xs ++ zs))) else .bad
    | _ => .bad)
  | _ => .bad := by
  simp only [lmRun]
  all_goals (rcases h[n]? with _ | o <;> first | rfl | (cases o <;> rfl))
theorem cut_map {α β : Type} (f : α → β) (xs : List α) (lo hi : Option Int) : cut (xs.map f) lo hi = (cut xs lo hi).map f := by
  unfold cut
  simp [List.map_take, List.map_drop]
theorem cut_len {α : Type} (xs : List α) (lo hi : Option Int) : (cut xs lo hi).length ≤ xs.length := by
  unfold cut
  simp
  omega
theorem cut_nI (os : List Nat) (lo hi : Option Int) : cut (nI os) lo hi = nI (cut os lo hi) := cut_map _ _ _ _
theorem shaped_str {x : Str} (hx : ∀ c ∈ x.cps.toList, c < 0x110000) : SeqAt.shaped (.str x) = true := by
  unfold SeqAt.shaped
  have : PyData.canLay0 (.str x) = true := by
    show PyData.strOk x = true
    unfold PyData.strOk
    rw [← Array.all_toList, List.all_eq_true]
    exact fun c hc => decide_eq_true (hx c hc)
  rw [this]
  simp [PyData.depth]
theorem shaped_ofString (s : String) : SeqAt.shaped (.str (Str.ofString s)) = true := shaped_str fun c hc => by
  rw [PyProof.Rows.signs_ofString] at hc
  obtain ⟨ch, _, rfl⟩ := List.mem_map.mp hc
  have := ch.valid
  have e : ch.toNat = ch.val.toNat := rfl
  rcases this with q | q <;> omega
theorem places_int {e : Nat} (he : 1 ≤ e) (i : Int) (p : Nat) : callF Γ e "_law_places" [.int i, .ref p] h = .ok (.ref h.length) (h ++ [.lst [.ref p]]) := by
  obtain ⟨d, rfl⟩ : ∃ d, e = d + 1 := ⟨e - 1, by omega⟩
  have ls := sizeLine_eq
  rw [c__law_places]
  refine W_eq ?_
  simp only [W_fin, s__law_places]
  simp [subTy]
  omega
theorem places_ok {e : Nat} (he : 2 ≤ e) {a p : Nat} {os : List Nat} (ea : h[a]? = some (.lst (nI os))) (ep : h[p]? = some (.lst [])) (hl : os.length < 1000) {Q : Val → Mem → Prop} {X : XQ}
    (q : ∀ (h' : Mem) (n : Nat) (ps : List Nat), Gr h h' → h.length ≤ n → h'[n]? = some (.lst (ps.map .ref)) → ps.length = os.length + 1 → (∀ x ∈ ps, h'[x]? = some (.lst []) ∨ ∃ k, k < os.length ∧ h'[x]? = some (.lst [.int (k : Nat)])) → Q (.ref n) h') : (callF Γ e "_law_places" [.ref a, .ref p] h).W Q X := by
  obtain ⟨d, rfl⟩ : ∃ d, e = d + 1 := ⟨e - 1, by omega⟩
  have ls := sizeLine_eq
  rw [c__law_places]
  simp only [W_fin, s__law_places]
  have n1 := get_new h (Ob.lst [.ref p])
  have g1 := Gr.new h [Ob.lst [.ref p]]
  have ll1 : (h ++ [Ob.lst [.ref p]]).length = h.length + 1 := by simp
  simp
  refine ⟨by omega, ?_⟩
  generalize h ++ [Ob.lst [.ref p]] = h1 at n1 g1 ll1
  have a1 := Gr.get g1 ea
  have p1 := Gr.get g1 ep
  simp [a1, subTy, nI_len]
  refine ⟨by unfold small62; simp; omega, ?_⟩
  refine for_rng (fun i ρ h' => ∃ (ps : List Nat) (y : Option Val), Gr h h' ∧ h'[h.length]? = some (.lst (ps.map .ref)) ∧ ps.length = i + 1 ∧ (∀ x ∈ ps, x ≠ h.length ∧ (h'[x]? = some (.lst []) ∨ ∃ k, k < os.length ∧ h'[x]? = some (.lst [.int (k : Nat)]))) ∧ ρ = [some (.ref a), some (.ref p), some (.ref h.length), y]) ⟨[p], _, g1, n1, rfl, fun x hx => ?_, rfl⟩ ?_ ?_
  · have : x = p := by simpa using hx
    rw [this]
    exact ⟨by have := lt_of_get ep; omega, .inl p1⟩
  · rintro i ρ h2 hi ⟨ps, y, g2, e2, lp, hp, rfl⟩
    have a2 := Gr.get g2 ea
    have p2 := Gr.get g2 ep
    have l2 := g2.len
    have ai : atI (nI os) (i : Int) = some (.int (os[i] : Nat)) := by rw [Mp.atI_nat]; simp [nI, hi]
    rw [show (0 : Int) + (i : Nat) = (i : Int) by omega]
    have lt2 := lt_of_get e2
    have g3 : Gr h2 (h2 ++ [Ob.lst [Val.int (i : Int)], Ob.lst [Val.int (i : Int)]]) := Gr.new _ _
    have n3 : (h2 ++ [Ob.lst [Val.int (i : Int)], Ob.lst [Val.int (i : Int)]])[h2.length + 1]? = some (.lst [.int (i : Int)]) := by simp
    have ll3 : (h2 ++ [Ob.lst [Val.int (i : Int)], Ob.lst [Val.int (i : Int)]]).length = h2.length + 2 := by simp
    have p3 : (h2 ++ [Ob.lst [Val.int (i : Int)]])[p]? = some (.lst []) := get_app _ p2
    simp [e2, a2, ai, p3]
    refine ⟨by omega, ?_⟩
    generalize h2 ++ [Ob.lst [Val.int (i : Int)], Ob.lst [Val.int (i : Int)]] = h3 at g3 n3 ll3
    rw [places_int (by omega)]
    have n4 := get_new h3 (Ob.lst [.ref (h2.length + 1)])
    have g4 := Gr.new h3 [Ob.lst [.ref (h2.length + 1)]]
    have n3' := Gr.get g4 n3
    have e4 := Gr.get (Fr.trans g3 g4) e2
    generalize h3 ++ [Ob.lst [.ref (h2.length + 1)]] = h4 at n4 g4 n3' e4
    simp [e4, n4]
    refine ⟨by omega, Gr.later (Fr.trans g2 (Fr.trans g3 g4)) (Nat.le_refl _) _, ps ++ [h2.length + 1], ?_, by simp [lp], fun x hx => ?_⟩
    · have := lt_of_get e4
      simp [this]
    · rcases List.mem_append.mp hx with q | q
      · obtain ⟨q1, q2⟩ := hp x q
        refine ⟨q1, ?_⟩
        rcases q2 with z | ⟨k, hk, z⟩
        · exact .inl (get_set_ne (Gr.get (Fr.trans g3 g4) z) (by omega))
        · exact .inr ⟨k, hk, get_set_ne (Gr.get (Fr.trans g3 g4) z) (by omega)⟩
      · have : x = h2.length + 1 := by simpa using q
        rw [this]
        exact ⟨by omega, .inr ⟨i, hi, get_set_ne n3' (by omega)⟩⟩
  · rintro ρ h2 ⟨ps, y, g2, e2, lp, hp, rfl⟩
    simp
    exact q h2 _ ps g2 (Nat.le_refl _) e2 lp fun x hx => (hp x hx).2
theorem part_nil {e : Nat} (he : 1 ≤ e) {p : Nat} (v : Val) (ep : h[p]? = some (.lst [])) : callF Γ e "_law_part" [v, .ref p] h = .ok v h := by
  obtain ⟨d, rfl⟩ : ∃ d, e = d + 1 := ⟨e - 1, by omega⟩
  rw [c__law_part]
  refine W_eq ?_
  simp only [W_fin, s__law_part]
  simp [ep]
  refine for_lst (xs := []) (fun i ρ h' => h' = h ∧ ∃ y, ρ = [some v, some (.ref p), y]) ⟨rfl, _, rfl⟩ (fun i ρ h' _ I => by rw [I.1]; exact ep) (fun i x ρ h' hx => by simp at hx) ?_
  rintro ρ h' ⟨rfl, y, rfl⟩
  simp
theorem part_one {e : Nat} (he : 1 ≤ e) {a p k : Nat} {xs : List Val} {v : Val} (ea : h[a]? = some (.lst xs)) (ex : xs[k]? = some v) (ep : h[p]? = some (.lst [.int (k : Nat)])) : callF Γ e "_law_part" [.ref a, .ref p] h = .ok v h := by
  obtain ⟨d, rfl⟩ : ∃ d, e = d + 1 := ⟨e - 1, by omega⟩
  rw [c__law_part]
  refine W_eq ?_
  simp only [W_fin, s__law_part]
  simp [ep]
  refine for_lst (xs := [.int (k : Nat)]) (fun i ρ h' => h' = h ∧ ∃ y, ρ = [some (if i = 0 then .ref a else v), some (.ref p), y]) ⟨rfl, _, rfl⟩ (fun i ρ h' _ I => by rw [I.1]; exact ep) ?_ ?_
  · rintro i x ρ h' hx ⟨rfl, y, rfl⟩
    have hi : i = 0 := by have := list_get hx; simpa using this
    subst hi
    have : x = .int (k : Nat) := by simpa using hx.symm
    subst this
    simp [ea, Mp.atI_nat, ex]
  · rintro ρ h' ⟨rfl, y, rfl⟩
    simp
theorem repl_nil {e : Nat} (he : 1 ≤ e) {p : Nat} (v w : Val) (ep : h[p]? = some (.lst [])) : callF Γ e "_law_replaced" [v, .ref p, w] h = .ok w h := by
  obtain ⟨d, rfl⟩ : ∃ d, e = d + 1 := ⟨e - 1, by omega⟩
  rw [c__law_replaced]
  refine W_eq ?_
  simp only [W_fin, s__law_replaced]
  simp [ep]
theorem repl_one {e : Nat} (he : 2 ≤ e) {a p k : Nat} {xs : List Val} {v w : Val} (ea : h[a]? = some (.lst xs)) (hl : xs.length < 1000) (ex : xs[k]? = some v) (ep : h[p]? = some (.lst [.int (k : Nat)])) {Q : Val → Mem → Prop} {X : XQ}
    (q : ∀ h' n, Gr h h' → h.length ≤ n → h'[n]? = some (.lst (xs.set k w)) → Q (.ref n) h') : (callF Γ e "_law_replaced" [.ref a, .ref p, w] h).W Q X := by
  obtain ⟨d, rfl⟩ : ∃ d, e = d + 1 := ⟨e - 1, by omega⟩
  have ls := sizeLine_eq
  have hk := list_get ex
  rw [c__law_replaced]
  simp only [W_fin, s__law_replaced]
  simp [ep, ea]
  refine ⟨by omega, ?_⟩
  have n1 := get_new h (Ob.lst xs)
  have g1 := Gr.new h [Ob.lst xs]
  have ll1 : (h ++ [Ob.lst xs]).length = h.length + 1 := by simp
  generalize h ++ [Ob.lst xs] = h1 at n1 g1 ll1
  have p1 := Gr.get g1 ep
  have c0 : cut [Val.int (k : Int)] (some 1) none = [] := rfl
  simp [n1, p1, Mp.atI_nat, ex, c0]
  have n2 := get_new h1 (Ob.lst [])
  have g2 := Gr.new h1 [Ob.lst []]
  have a2 := Gr.get (Fr.trans g1 g2) ea
  generalize h1 ++ [Ob.lst []] = h2 at n2 g2 a2
  rw [repl_nil (by omega) _ _ n2]
  have n3 := Gr.get g2 n1
  have p3 := Gr.get g2 p1
  have ix : ixN xs.length (k : Int) = some k := by rw [ixN_lit, if_pos hk]
  have a3 : (h2.set h.length (Ob.lst (xs.set k w)))[a]? = some (.lst xs) := get_set_ne a2 (by have := lt_of_get ea; omega)
  simp [n3, p3, ix]
  simp [a3, subTy]
  exact q _ _ (Gr.later (Fr.trans g1 g2) (Nat.le_refl _) _) (Nat.le_refl _) (get_set n3)
theorem misshaped_ok {e : Nat} (he : 4 ≤ e) (st : St h) {a : Nat} {os : List Nat} (ea : h[a]? = some (.lst (nI os))) (hl : os.length < 500) (ho : ∀ x ∈ os, x < 1000) {Q : Val → Mem → Prop} {X : XQ}
    (q : ∀ h' v, Dg h h' → Nw h h' 1 v → Q v h') : (callF Γ e "_law_misshaped" [.ref 2, .ref a] h).W Q X := by
  obtain ⟨d, rfl⟩ : ∃ d, e = d + 1 := ⟨e - 1, by omega⟩
  have ls := sizeLine_eq
  have l3 := st.lt
  have na := not2n st ea
  rw [c__law_misshaped]
  simp only [W_fin, s__law_misshaped]
  simp
  have n1 := get_new h (Ob.lst [])
  have g1 := Gr.new h [Ob.lst []]
  generalize h ++ [Ob.lst []] = h1 at n1 g1
  refine places_ok (by omega) (Gr.get g1 ea) n1 (by omega) fun h2 n ps g2 hn e2 lp hp => ?_
  have g02 := Dg.gr st (Fr.trans g1 g2)
  have l1 := g1.len
  refine (pick_ok (by omega) _ _ h2 g02.st e2 (by omega) (by rw [List.length_map]; omega) (by rw [List.length_map]; omega)).mono fun v h3 ⟨d3, i, hi, ei⟩ => ?_
  obtain ⟨p, hpi, rfl⟩ := map_inv ei
  have g3 := g02.trans (Dg.of d3)
  have a3 := g3.get ea na
  rcases hp p (List.mem_of_getElem? hpi) with z | ⟨k, hk, z⟩
  · have p3 := d3.get z (not2 (ns := []) g02.st z)
    rw [part_nil (by omega) _ p3]
    simp [a3, subTy]
    rw [repl_nil (by omega) _ _ p3, W_ok]
    refine q _ _ g3 fun N _ _ => .tup _ (by rw [nI_len]; omega) fun i x hx => ?_
    obtain ⟨j, _, rfl⟩ := map_inv hx
    exact .int _
  · have p3 := d3.get z (not2 (ns := [(k : Int)]) g02.st z)
    have ok : (nI os)[k]? = some (.int (os[k] : Nat)) := by simp [nI, hk]
    rw [part_one (by omega) a3 ok p3]
    have hok := ho os[k] (List.getElem_mem hk)
    have fin : ∀ w : Val, (∀ N h', Sd N h' 0 w) → (callF Γ d "_law_replaced" [.ref a, .ref p, w] h3).W Q X := fun w hw => by
      refine repl_one (by omega) a3 (by rw [nI_len]; omega) ok p3 fun h4 m g4 hm e4 => ?_
      refine q _ _ (g3.trans (Dg.gr g3.st g4)) fun N _ hN => .lst m _ e4 (fun z => by have := hN m z; have := g3.len; omega) (by rw [List.length_set, nI_len]; omega) fun i x hx => ?_
      rcases List.mem_or_eq_of_mem_set (List.mem_of_getElem? hx) with q | q
      · obtain ⟨j, _, rfl⟩ := List.mem_map.mp q
        exact .int _
      · rw [q]; exact hw _ _
    simp [subTy]
    refine ⟨fun _ => fin _ fun _ _ => .bl _, fun _ => ⟨fun _ => fin _ fun _ _ => .bl _, fun _ => ?_⟩⟩
    have lg : ((os[k] : Nat) : Int).natAbs.log2 < 1920 := by
      have e : ((os[k] : Nat) : Int).natAbs = os[k] := by omega
      rw [e]
      exact Nat.lt_of_le_of_lt (Nat.log2_le_self _) (by omega)
    have bs : biRun .str [.int (os[k] : Nat)] h3 = .ok (.str (toString ((os[k] : Nat) : Int) : String)) h3 := by
      show (if ((os[k] : Nat) : Int).natAbs.log2 < 1920 then _ else _) = _
      rw [if_pos lg]
    rw [bs, W_ok]
    exact fin _ fun _ _ => .str _ (shaped_ofString _)
theorem dint_ok {e : Nat} (he : 4 ≤ e) (st : St h) {Q : Val → Mem → Prop} {X : XQ}
    (q : ∀ h' i, Dg h h' → Q (.int i) h') : (callF Γ e "_law_integer" [.ref 2] h).W Q X := by
  obtain ⟨d, rfl⟩ : ∃ d, e = d + 1 := ⟨e - 1, by omega⟩
  have ls := sizeLine_eq
  have l3 := st.lt
  rw [c__law_integer]
  simp only [W_fin, s__law_integer]
  obtain ⟨ns, hns, ln⟩ : ∃ ns : List Int, ns = [0, 1, -1, 2, 7, 8, 9, 15, 16, 127, 128, 1023, 1024, 65535, 65536, 999999999999, -999999999999] ∧ ns.length = 17 := ⟨_, rfl, rfl⟩
  have n1 := get_new h (Ob.lst (ns.map .int))
  have g1 := Dg.new st [Ob.lst (ns.map .int)]
  rw [hns] at n1 g1
  simp
  simp only [List.map_cons, List.map_nil] at n1 g1
  refine ⟨by omega, ?_⟩
  generalize h ++ [Ob.lst [Val.int 0, Val.int 1, Val.int (-1), Val.int 2, Val.int 7, Val.int 8, Val.int 9, Val.int 15, Val.int 16, Val.int 127, Val.int 128, Val.int 1023, Val.int 1024, Val.int 65535, Val.int 65536, Val.int 999999999999, Val.int (-999999999999)]] = h1 at n1 g1
  refine take_then (take_ok (by omega)) g1.st (by omega) fun r h2 r1 r2 d2 => ?_
  have g2 := g1.trans (Dg.of d2)
  have n2 := d2.get n1 (by omega)
  simp
  refine ⟨fun _ => ?_, fun _ => ?_⟩
  · refine (pick_ok (by omega) _ _ h2 g2.st n2 (by omega) (by simp) (by simp)).mono fun v h3 ⟨d3, i, hi, ei⟩ => ?_
    obtain ⟨z, rfl⟩ : ∃ z, v = .int z := by
      have := List.mem_of_getElem? ei
      simp at this
      rcases this with q | q | q | q | q | q | q | q | q | q | q | q | q | q | q | q | q <;> exact ⟨_, q⟩
    exact q _ _ (g2.trans (Dg.of d3))
  · refine take_then (take_ok (by omega)) g2.st (by omega) fun r h3 r1 r2 d3 => ?_
    simp
    exact q _ _ (g2.trans (Dg.of d3))
theorem atx_bin (x y : Str) : binop .Add (.str x) (.str y) h = if x.length + y.length ≤ sizeLine then .ok (.str (x ++ y)) h else .bad := rfl
def sgL : List Nat := (" !\"#$&'()*+,-./0123456789:;<=>?@ABCDEFGHIJKLMNOPQRSTUVWXYZ[\\]^_`".toList ++ "abcdefghijklmnopqrstuvwxyz{|}~".toList).map Char.toNat
def sgT : Str := Str.ofString " !\"#$&'()*+,-./0123456789:;<=>?@ABCDEFGHIJKLMNOPQRSTUVWXYZ[\\]^_`" ++ Str.ofString "abcdefghijklmnopqrstuvwxyz{|}~"
theorem sg_eq : sgT.cps.toList = sgL := by
  unfold sgT sgL
  rw [List.map_append, ← PyProof.Rows.signs_ofString, ← PyProof.Rows.signs_ofString]
  exact Array.toList_append
theorem sg_len : sgL.length = 94 := by decide
theorem sg_lt : ∀ c ∈ sgL, c < 0x110000 := by decide
theorem sg_size : sgT.length = 94 := by
  show sgT.cps.size = 94
  rw [← Array.length_toList, sg_eq, sg_len]
theorem strs_one : ∀ cs : List Nat, strsOf (cs.map fun c => Val.str ⟨#[c]⟩) = some (cs.map fun c => (⟨#[c]⟩ : Str))
  | [] => rfl
  | c :: cs => by
    rw [List.map_cons, strsOf, strs_one cs]
    rfl
theorem sum_one : ∀ cs : List Nat, ((cs.map fun c => (⟨#[c]⟩ : Str)).map fun x : Str => x.length).sum = cs.length
  | [] => rfl
  | c :: cs => by
    rw [List.map_cons, List.map_cons, List.sum_cons, sum_one cs, List.length_cons]
    show 1 + cs.length = _
    omega
theorem joinL_mem {c : Nat} : ∀ {ps : List (List Nat)}, c ∈ TL.joinL [] ps → ∃ p ∈ ps, c ∈ p
  | [], h => by simp [TL.joinL] at h
  | [p], h => ⟨p, by simp, h⟩
  | p :: q :: r, h => by
    simp only [TL.joinL, List.nil_append, List.mem_append] at h
    rcases h with z | z
    · exact ⟨p, by simp, z⟩
    · obtain ⟨x, hx, hc⟩ := joinL_mem z
      exact ⟨x, by simp at hx ⊢; right; exact hx, hc⟩
theorem join_shaped {cs : List Nat} (hc : ∀ c ∈ cs, c < 0x110000) : SeqAt.shaped (.str (Txt.join (Str.ofString "") (cs.map fun c => (⟨#[c]⟩ : Str)))) = true := by
  rw [TL.join_eq]
  refine shaped_str fun c h => ?_
  have h : c ∈ TL.tl (Str.join (Str.ofString "") (cs.map fun c => (⟨#[c]⟩ : Str))) := h
  rw [TL.tl_join] at h
  have e0 : TL.tl (Str.ofString "") = [] := by decide
  rw [e0, List.map_map] at h
  obtain ⟨p, hp, hcp⟩ := joinL_mem h
  obtain ⟨x, hx, rfl⟩ := List.mem_map.mp hp
  have : c = x := by simpa [TL.tl] using hcp
  rw [this]; exact hc x hx
theorem text_ok {e : Nat} (he : 3 ≤ e) (st : St h) {n : Nat} (hn : n < 1000) {Q : Val → Mem → Prop} {X : XQ}
    (q : ∀ h' x, Dg h h' → SeqAt.shaped (.str x) = true → Q (.str x) h') : (callF Γ e "_law_text" [.ref 2, .int (n : Nat)] h).W Q X := by
  obtain ⟨d, rfl⟩ : ∃ d, e = d + 1 := ⟨e - 1, by omega⟩
  have ls := sizeLine_eq
  have l3 := st.lt
  rw [c__law_text]
  simp only [W_fin, s__law_text]
  simp
  rw [atx_bin]
  have sz := sg_size
  have l1 : (Str.ofString " !\"#$&'()*+,-./0123456789:;<=>?@ABCDEFGHIJKLMNOPQRSTUVWXYZ[\\]^_`").length + (Str.ofString "abcdefghijklmnopqrstuvwxyz{|}~").length ≤ sizeLine := by
    rw [ls]
    decide
  rw [if_pos l1, W_ok]
  show small62 (n : Int) = true ∧ (lcF (wkR 0 n) (.nm 3) tYesM _ (wipeE [some (.ref 2), some (.int (n : Int)), some (.str sgT), none] [3]) _ 0 [] h).W _ X
  refine ⟨by unfold small62; simp; omega, ?_⟩
  have sgb : sgT.length ≤ sizeLine := by omega
  refine lc_rng (fun i acc h' => Dg h h' ∧ ∃ cs : List Nat, acc = cs.map (fun c => Val.str ⟨#[c]⟩) ∧ cs.length = i ∧ ∀ c ∈ cs, c < 0x110000) ⟨Dg.refl st, [], rfl, rfl, nofun⟩ ?_ ?_
  · rintro i acc h' hi ⟨g, cs, rfl, lc, hc⟩
    simp [wipeE]
    refine take_then (take_ok (by omega)) g.st (by omega) fun r h2 r1 r2 d2 => ?_
    have hr : r.toNat < sgL.length := by rw [sg_len]; omega
    have ix : idx h2 (.str sgT) (.int r) = some (.str ⟨#[sgL[r.toNat]]⟩) := by
      show (if sgT.length ≤ sizeLine then (atI sgT.cps.toList r).map _ else none) = _
      rw [if_pos sgb, sg_eq, atI_pos _ r1, List.getElem?_eq_getElem hr]
      rfl
    rw [ix]
    simp
    refine ⟨by omega, g.trans (Dg.of d2), cs ++ [sgL[r.toNat]], by simp, by simp [lc], fun c hm => ?_⟩
    rcases List.mem_append.mp hm with z | z
    · exact hc c z
    · rw [show c = sgL[r.toNat] by simpa using z]
      exact sg_lt _ (List.getElem_mem hr)
  · rintro acc h' ⟨g, cs, rfl, lc, hc⟩
    refine ⟨by rw [List.length_map]; omega, ?_⟩
    rw [strs_one]
    have e0 : (Str.ofString "").length = 0 := by decide
    simp only [sum_one, e0, Nat.mul_zero, Nat.add_zero]
    rw [if_pos (by omega), W_ok]
    exact q _ _ (g.trans (Dg.new g.st _)) (join_shaped hc)
theorem plain_ok : ∀ (k : Nat) {e : Nat}, k + 6 ≤ e → ∀ {h : Mem}, St h → ∀ {Q : Val → Mem → Prop} {X : XQ}, (∀ h' v, Dg h h' → Nw h h' k v → Q v h') → (callF Γ e "_law_plain" [.ref 2, .int (k : Nat)] h).W Q X := by
  intro k
  induction k using Nat.strongRecOn with
  | _ k ih =>
    intro e he h st Q X q
    obtain ⟨d, rfl⟩ : ∃ d, e = d + 1 := ⟨e - 1, by omega⟩
    have ls := sizeLine_eq
    have l3 := st.lt
    rw [c__law_plain]
    simp only [W_fin, s__law_plain]
    simp
    refine ⟨mul_ok (.inl (by omega)), ?_⟩
    refine take_then (take_ok (by omega)) st (by split <;> omega) fun r h1 r1 r2 d1 => ?_
    have g1 := Dg.of d1
    simp
    refine ⟨fun _ => ?_, fun z0 => ⟨fun _ => ?_, fun z1 => ⟨fun _ => ?_, fun z2 => ⟨fun _ => ?_, fun z3 => ⟨fun _ => ?_, fun z4 => ⟨fun _ => ?_, fun z5 => ?_⟩⟩⟩⟩⟩⟩
    · exact dint_ok (by omega) g1.st fun h2 i g2 => q _ _ (g1.trans g2) fun _ _ _ => .int _
    · refine take_then (take_ok (by omega)) g1.st (by omega) fun s h2 s1 s2 d2 => ?_
      simp
      exact q _ _ (g1.trans (Dg.of d2)) fun _ _ _ => .int _
    · refine take_then (take_ok (by omega)) g1.st (by omega) fun s h2 s1 s2 d2 => ?_
      obtain ⟨n, rfl, hn⟩ : ∃ n : Nat, s = (n : Int) ∧ n < 1000 := ⟨s.toNat, by omega, by omega⟩
      exact text_ok (by omega) d2.st hn fun h3 x g3 sx => q _ _ (g1.trans ((Dg.of d2).trans g3)) fun _ _ _ => .str _ sx
    · refine take_then (take_ok (by omega)) g1.st (by omega) fun s h2 s1 s2 d2 => ?_
      simp
      exact q _ _ (g1.trans (Dg.of d2)) fun _ _ _ => .bl _
    · exact q _ _ g1 fun _ _ _ => .non
    · have n2 := get_new h1 (Ob.lst [.str "", .str "a", .str "/", .str "halt", .str "root", .str "r", .str "go", .str "pipe:0", .str "0"])
      have g2 := Dg.new g1.st [Ob.lst [.str "", .str "a", .str "/", .str "halt", .str "root", .str "r", .str "go", .str "pipe:0", .str "0"]]
      have l1 := g1.len
      refine ⟨by omega, ?_⟩
      generalize h1 ++ [Ob.lst [.str "", .str "a", .str "/", .str "halt", .str "root", .str "r", .str "go", .str "pipe:0", .str "0"]] = h2 at n2 g2
      refine (pick_ok (by omega) _ _ h2 g2.st n2 (by omega) (by simp) (by simp)).mono fun v h3 ⟨d3, i, hi, ei⟩ => ?_
      obtain ⟨z, rfl⟩ : ∃ z : String, v = .str (Str.ofString z) := by
        have := List.mem_of_getElem? ei
        simp at this
        rcases this with q | q | q | q | q | q | q | q | q <;> exact ⟨_, q⟩
      exact q _ _ (g1.trans (g2.trans (Dg.of d3))) fun _ _ _ => .str _ (shaped_ofString _)
    · obtain ⟨j, rfl⟩ : ∃ j, k = j + 1 := by
        rcases k with _ | j
        · exfalso
          simp at r2
          omega
        · exact ⟨j, rfl⟩
      refine take_then (take_ok (by omega)) g1.st (by omega) fun s h2 s1 s2 d2 => ?_
      obtain ⟨n, rfl, hn⟩ : ∃ n : Nat, s = (n : Int) ∧ n < 1000 := ⟨s.toNat, by omega, by omega⟩
      have g2 := g1.trans (Dg.of d2)
      simp
      refine ⟨by unfold small62; simp; omega, ?_⟩
      refine lc_rng (fun i acc h' => Dg h h' ∧ acc.length = i ∧ ∀ v ∈ acc, Nw h h' j v) ⟨g2, rfl, nofun⟩ ?_ ?_
      · rintro i acc h3 hi ⟨g3, la, hv⟩
        simp [wipeE]
        refine ih j (by omega) (by omega) g3.st fun h4 v g4 w4 => ⟨by omega, g3.trans g4, by omega, fun u hu => ?_⟩
        rcases hu with z | z
        · exact (hv u z).dg g4
        · rw [z]
          exact w4.base g3.len
      · rintro acc h3 ⟨g3, la, hv⟩
        have g4 := Dg.new g3.st [Ob.lst acc]
        have n4 := get_new h3 (Ob.lst acc)
        refine ⟨by omega, ?_⟩
        refine ⟨fun _ => q _ _ (g3.trans g4) fun N h2 hN => .lst _ _ n4 (fun z => by have := hN _ z; have := g3.len; omega) (by omega) fun i x hx => ((hv x (List.mem_of_getElem? hx)).dg g4) N h2 hN, fun _ => q _ _ (g3.trans g4) fun N h2 hN => .tup _ (by omega) fun i x hx => ((hv x (List.mem_of_getElem? hx)).dg g4) N h2 hN⟩
abbrev KS := List (Nat × List Nat)
structure VI (h : Mem) (V : Nat) (K : KS) (c : Nat) (h' : Mem) : Prop where
  dg : Dg h h'
  v1 : h.length ≤ V
  v3 : 3 ≤ V
  ev : ∃ vs, h'[V]? = some (.lst vs) ∧ vs.length ≤ c ∧ ∀ v ∈ vs, Sd [2, V] h' 6 v
  kp : ∀ p ∈ K, h'[p.1]? = some (.lst (nI p.2)) ∧ p.1 ≠ V
theorem fr_VI (d : Dg h' h'') (V : Nat) : Fr [2, V] h' h'' := d.fr.mono fun x _ hx => by
  rw [show x = 2 by simpa using hx]
  simp
theorem fr_set (h : Mem) (V : Nat) (o : Ob) : Fr [2, V] h (h.set V o) := (Fr.set h V o).mono fun x _ hx => by
  rw [show x = V by simpa using hx]
  simp
theorem VI.dr (I : VI h V K c h') (d : Dg h' h'') : VI h V K c h'' := by
  obtain ⟨vs, e, l, s⟩ := I.ev
  refine ⟨I.dg.trans d, I.v1, I.v3, ⟨vs, d.get e (by have := I.v3; omega), l, fun v hv => (s v hv).fr (fr_VI d V)⟩, fun p hp => ⟨d.get (I.kp p hp).1 (not2n I.dg.st (I.kp p hp).1), (I.kp p hp).2⟩⟩
theorem VI.ext (I : VI h V K c h') {vs ws : List Val} {c' : Nat} (e : h'[V]? = some (.lst vs)) (hw : ∀ v ∈ ws, Sd [2, V] h' 6 v) (hc : c + ws.length ≤ c') : VI h V K c' (h'.set V (.lst (vs ++ ws))) := by
  obtain ⟨vs', e', l, s⟩ := I.ev
  rw [e] at e'
  cases e'
  refine ⟨I.dg.later I.v1 I.v3 _, I.v1, I.v3, ⟨vs ++ ws, get_set e, by rw [List.length_append]; omega, fun v hv => Sd.fr ?_ (fr_set _ _ _)⟩, fun p hp => ⟨get_set_ne (I.kp p hp).1 (Ne.symm (I.kp p hp).2), (I.kp p hp).2⟩⟩
  rcases List.mem_append.mp hv with q | q
  · exact s v q
  · exact hw v q
theorem VI.weak (I : VI h V K c h') {c' : Nat} (hc : c ≤ c') : VI h V K c' h' := by
  obtain ⟨vs, e, l, s⟩ := I.ev
  exact ⟨I.dg, I.v1, I.v3, ⟨vs, e, by omega, s⟩, I.kp⟩
theorem VI.new (I : VI h V K c h') {n : Nat} {v : Val} (w : Nw h' h'' n v) (hn : n ≤ 6) : Sd [2, V] h'' 6 v := by
  obtain ⟨vs, e, l, s⟩ := I.ev
  have := lt_of_get e
  have := I.v3
  refine (w [2, V] (by simp) fun b hb => ?_).up 6 hn
  simp at hb
  rcases hb with q | q <;> omega
theorem sd_one {N : List Nat} {a n : Nat} {y : Val} (e : h[a]? = some (.lst [y])) (hN : a ∉ N) (s : Sd N h n y) : Sd N h (n + 1) (.ref a) := .lst a _ e hN (by simp) fun i x hx => by
  have : x = y := by simpa using List.mem_of_getElem? hx
  rw [this]; exact s
theorem sd_snoc {N : List Nat} {a n : Nat} {y : Val} {os : List Nat} (e : h[a]? = some (.lst (nI os ++ [y]))) (hN : a ∉ N) (hl : os.length < 500) (s : Sd N h n y) : Sd N h (n + 1) (.ref a) := .lst a _ e hN (by simp [nI_len]; omega) fun i x hx => by
  rcases List.mem_append.mp (List.mem_of_getElem? hx) with q | q
  · obtain ⟨j, _, rfl⟩ := List.mem_map.mp q
    exact .int _
  · rw [show x = y by simpa using q]; exact s
theorem gap (h l : Mem) (k : Nat) : (h ++ l)[h.length + k]? = l[k]? := by
  rw [List.getElem?_append_right (by omega)]
  congr 1
  omega
theorem rev_nI (os : List Nat) : (nI os).reverse = nI os.reverse := by simp [nI]
theorem nI_app (a b : List Nat) : nI a ++ nI b = nI (a ++ b) := by simp [nI]
/-- one more value -/
theorem app_ok {d : Nat} {ρ : Mp.Env} {as kas : MA} {X : XQ} {Q : Val → Mem → Prop} (I : VI h V K c h')
    (ha : (as ρ h').W (fun us h'' => ∃ v n, us = [v] ∧ Dg h' h'' ∧ Nw h' h'' n v ∧ n ≤ 6) nX) (hc : c + 1 ≤ 1000)
    (q : ∀ h'', VI h V K (c + 1) h'' → Fr [2, V] h' h'' → Q .non h'') : (methBy Γ (callF Γ d) "append" 1 [] as kas ρ (.ref V) h').W Q X := by
  obtain ⟨vs, e, l, s⟩ := I.ev
  have ls := sizeLine_eq
  rw [meth_ref, e]
  simp only [lm_append, W_bind]
  refine ha.mono fun us h'' ⟨v, n, e1, d1, w, hn⟩ => ?_
  subst e1
  have I2 := I.dr d1
  obtain ⟨vs2, e2, l2, s2⟩ := I2.ev
  rw [lmr_append, e2]
  simp only
  rw [if_pos (by omega), W_ok]
  exact q _ (I2.ext e2 (fun u hu => by rw [show u = v by simpa using hu]; exact I.new w hn) (by simp)) ((fr_VI d1 V).trans (fr_set _ _ _))
theorem ext_ok {d : Nat} {ρ : Mp.Env} {as kas : MA} {X : XQ} {Q : Val → Mem → Prop} {c' : Nat} (I : VI h V K c h')
    (ha : (as ρ h').W (fun us h'' => ∃ b ws, us = [.ref b] ∧ Dg h' h'' ∧ h''[b]? = some (.lst ws) ∧ (∀ v ∈ ws, Sd [2, V] h'' 6 v) ∧ c + ws.length ≤ c') nX) (hc : c' ≤ 1000)
    (q : ∀ h'', VI h V K c' h'' → Q .non h'') : (methBy Γ (callF Γ d) "extend" 1 [] as kas ρ (.ref V) h').W Q X := by
  obtain ⟨vs, e, l, s⟩ := I.ev
  have ls := sizeLine_eq
  rw [meth_ref, e]
  simp only [lm_extend, W_bind]
  refine ha.mono fun us h'' ⟨b, ws, e1, d1, eb, hw, hl⟩ => ?_
  subst e1
  have I2 := I.dr d1
  obtain ⟨vs2, e2, l2, s2⟩ := I2.ev
  rw [lmr_extend, e2, eb]
  simp only
  rw [if_pos (by omega), W_ok]
  exact q _ (I2.ext e2 hw hl)
@[irreducible] def FwI (r : Res Fl) (P : Po) : Prop := Fw r P
theorem FwI_iff (r : Res Fl) (P : Po) : FwI r P ↔ Fw r P := by unfold FwI; exact Iff.rfl
theorem seqI {a b : MS} {ρ : Mp.Env} {h : Mem} {P : Po} : Fw (sSeq a b ρ h) P ↔ Fw (a ρ h) ⟨fun ρ h => FwI (b ρ h) P, P.rt, P.bk, P.ct, P.xc⟩ := by
  rw [w_sSeq]
  simp only [FwI_iff]
theorem sapp {d i : Nat} {ρ : Mp.Env} {as : MA} {rest : MS} {P : Po} (hi : ρ[i]? = some (some (.ref V))) (I : VI h V K c h')
    (ha : (as ρ h').W (fun us h'' => ∃ v n, us = [v] ∧ Dg h' h'' ∧ Nw h' h'' n v ∧ n ≤ 6) nX) (hc : c + 1 ≤ 1000)
    (q : ∀ h'', VI h V K (c + 1) h'' → FwI (rest ρ h'') P) : FwI (sSeq (sExpr (eMeth Γ (callF Γ d) "append" 1 [] (eVar i) as aNil)) rest ρ h') P := by
  rw [FwI_iff, seqI, w_sExpr, w_eMeth, w_eVar, hi]
  simp only [optP_some]
  exact app_ok I ha hc fun h'' i _ => q h'' i
def ExtQ (V c c' : Nat) (h' : Mem) (us : List Val) (h'' : Mem) : Prop := ∃ b ws, us = [.ref b] ∧ Dg h' h'' ∧ h''[b]? = some (.lst ws) ∧ (∀ v ∈ ws, Sd [2, V] h'' 6 v) ∧ c + ws.length ≤ c'
theorem sext {d i : Nat} {ρ : Mp.Env} {as : MA} {rest : MS} {P : Po} {c' : Nat} (hi : ρ[i]? = some (some (.ref V))) (I : VI h V K c h')
    (ha : (as ρ h').W (fun us h'' => ExtQ V c c' h' us h'') nX) (hc : c' ≤ 1000)
    (q : ∀ h'', VI h V K c' h'' → FwI (rest ρ h'') P) : FwI (sSeq (sExpr (eMeth Γ (callF Γ d) "extend" 1 [] (eVar i) as aNil)) rest ρ h') P := by
  rw [FwI_iff, seqI, w_sExpr, w_eMeth, w_eVar, hi]
  simp only [optP_some]
  exact ext_ok I ha hc q
theorem subset_ok {e : Nat} (he : 3 ≤ e) (st : St h) {a : Nat} {os : List Nat} (ea : h[a]? = some (.lst (nI os))) (hl : os.length < 1000) {Q : Val → Mem → Prop} {X : XQ}
    (q : ∀ h' (n : Nat) (os' : List Nat), Dg h h' → h.length ≤ n → h'[n]? = some (.lst (nI os')) → os'.length ≤ os.length → (∀ x ∈ os', x ∈ os) → Q (.ref n) h') : (callF Γ e "_law_subset" [.ref 2, .ref a] h).W Q X := by
  obtain ⟨d, rfl⟩ : ∃ d, e = d + 1 := ⟨e - 1, by omega⟩
  have ls := sizeLine_eq
  have l3 := st.lt
  have na := not2n st ea
  rw [c__law_subset]
  simp only [W_fin, s__law_subset]
  simp [ea]
  refine lc_lst (fun i acc h' => Dg h h' ∧ ∃ os' : List Nat, acc = nI os' ∧ os'.length ≤ i ∧ ∀ x ∈ os', x ∈ os) ⟨Dg.refl st, [], rfl, by simp, nofun⟩ (fun i acc h' _ I => I.1.get ea na) ?_ ?_
  · rintro i x acc h' hx ⟨g, os', rfl, hl', hp⟩
    obtain ⟨y, hy, rfl⟩ := map_inv hx
    have hi := list_get hy
    simp [wipeE]
    refine take_then (take_ok (by omega)) g.st (by omega) fun r h3 r1 r2 d3 => ?_
    have g3 := g.trans (Dg.of d3)
    simp
    by_cases hr : r = 1
    · simp [hr]
      refine ⟨by rw [nI_len]; omega, g3, os' ++ [y], by rw [nI_snoc], by simp; omega, fun x hx => ?_⟩
      rcases List.mem_append.mp hx with q | q
      · exact hp x q
      · have : x = y := by simpa using q
        rw [this]; exact List.mem_of_getElem? hy
    · simp [hr]
      exact ⟨g3, os', rfl, by omega, hp⟩
  · rintro acc h' ⟨g, os', rfl, hl', hp⟩
    rw [nI_len] at hl'
    refine ⟨by rw [nI_len]; omega, ?_⟩
    exact q _ _ os' (g.trans (Dg.new g.st _)) g.len (get_new _ _) hl' hp
end
end K40
set_option Elab.async false
set_option linter.all false
set_option maxRecDepth 100000
set_option maxHeartbeats 1000000
namespace K40
open Mp PySem L2
section
variable {h h' : Mem}
theorem fresh_ok {e : Nat} (he : 1 ≤ e) {a m : Nat} {r : Int} {tk : List Nat} (ea : h[a]? = some (.lst (nI tk))) (hl : tk.length < m) (hm : m ≤ 1000) (hr : 0 ≤ r) {Q : Val → Mem → Prop} {X : XQ}
    (q : ∀ w : Nat, w < m → w ∉ tk → Q (.int (w : Nat)) h) : (callF Γ e "_law_fresh" [.int r, .ref a, .int (m : Nat)] h).W Q X := by
  obtain ⟨d, rfl⟩ : ∃ d, e = d + 1 := ⟨e - 1, by omega⟩
  have ls := sizeLine_eq
  rw [c__law_fresh]
  simp only [W_fin, s__law_fresh]
  simp [ea, nI_len]
  refine ⟨by unfold small62; simp; omega, ?_⟩
  have et : ((tk.length : Int) + 1).toNat = tk.length + 1 := by omega
  try rw [et]
  obtain ⟨rn, rfl⟩ : ∃ rn : Nat, r = (rn : Int) := ⟨r.toNat, by omega⟩
  refine for_rng (fun i ρ h' => h' = h ∧ (∀ k, k < i → (rn + k) % m ∈ tk) ∧ ∃ y3 y4, ρ = [some (.int (rn : Int)), some (.ref a), some (.int (m : Int)), y3, y4]) ⟨rfl, nofun, _, _, rfl⟩ ?_ ?_
  · rintro i ρ h1 hi ⟨rfl, hk, y3, y4, rfl⟩
    have ec : ((rn : Int) + (i : Int)) % (m : Int) = (((rn + i) % m : Nat) : Int) := by rw [Int.natCast_emod, Int.natCast_add]
    rw [show (0 : Int) + (i : Nat) = (i : Int) by omega]
    have ni := notin_nI ((rn + i) % m) ea (by omega)
    simp [ea]
    rw [ec, ni]
    refine ⟨by omega, ?_⟩
    by_cases hm2 : (rn + i) % m ∈ tk
    · simp [hm2]
      intro k hk2
      by_cases e : k = i
      · rw [e]; exact hm2
      · exact hk k (by omega)
    · simp [hm2]
      exact q _ (Nat.mod_lt _ (by omega)) hm2
  · rintro ρ h1 ⟨rfl, hk, y3, y4, rfl⟩
    exfalso
    have nd : ((List.range (tk.length + 1)).map fun k => (rn + k) % m).Nodup := by
      unfold List.Nodup
      rw [List.pairwise_map]
      refine List.Pairwise.imp_of_mem (R := (· < ·)) (fun {x y} hx hy hlt => ?_) List.pairwise_lt_range
      have hx := List.mem_range.mp hx
      have hy := List.mem_range.mp hy
      intro z
      have h1 : (rn + x) % m = (rn + y) % m := z
      have d1 := Nat.div_add_mod (rn + x) m
      have d2 := Nat.div_add_mod (rn + y) m
      rw [← h1] at d2
      have : y - x = m * ((rn + y) / m - (rn + x) / m) := by
        rw [Nat.mul_sub]
        omega
      have h2 : (rn + y) / m - (rn + x) / m = 0 ∨ 1 ≤ (rn + y) / m - (rn + x) / m := by omega
      rcases h2 with h2 | h2
      · rw [h2] at this; omega
      · have := Nat.mul_le_mul_left m h2
        omega
    have := Q42.nodup_le nd (R := tk) fun x hx => by
      obtain ⟨k, hk2, rfl⟩ := List.mem_map.mp hx
      exact hk k (List.mem_range.mp hk2)
    rw [List.length_map, List.length_range] at this
    omega
theorem distinct_draw {e : Nat} (he : 3 ≤ e) (st : St h) {m : Nat} {cnt : Int} (hm : m ≤ 1000) (hc : 0 ≤ cnt) (hc2 : cnt ≤ 1000) {Q : Val → Mem → Prop} {X : XQ}
    (q : ∀ (h' : Mem) (n : Nat) (os : List Nat), Dg h h' → h.length ≤ n → h'[n]? = some (.lst (nI os)) → os.Nodup → (∀ x ∈ os, x < m) → (os.length : Int) ≤ cnt → os.length ≤ m → Q (.ref n) h') : (callF Γ e "_law_distinct" [.ref 2, .int (m : Nat), .int cnt] h).W Q X := by
  obtain ⟨d, rfl⟩ : ∃ d, e = d + 1 := ⟨e - 1, by omega⟩
  have ls := sizeLine_eq
  have l3 := st.lt
  rw [c__law_distinct]
  simp only [W_fin, s__law_distinct]
  have n1 := get_new h (Ob.lst (nI []))
  have g1 := Dg.new st [Ob.lst (nI [])]
  have en : nI [] = [] := rfl
  rw [en] at n1 g1
  simp
  generalize h ++ [Ob.lst []] = h1 at n1 g1
  obtain ⟨K, eK, k1, k2⟩ : ∃ K : Nat, (if (m : Int) < cnt then (m : Int) else cnt) = (K : Int) ∧ K ≤ m ∧ (K : Int) ≤ cnt := by
    refine ⟨(if (m : Int) < cnt then (m : Int) else cnt).toNat, ?_, ?_, ?_⟩ <;> split <;> omega
  rw [eK]
  refine ⟨by unfold small62; simp; omega, ?_⟩
  rw [Int.toNat_natCast]
  refine for_rng (fun i ρ h' => Dg h h' ∧ ∃ (os : List Nat) (y : Option Val), h'[h.length]? = some (.lst (nI os)) ∧ os.length = i ∧ os.Nodup ∧ (∀ x ∈ os, x < m) ∧ ρ = [some (.ref 2), some (.int (m : Int)), some (.int cnt), some (.ref h.length), y]) ⟨g1, [], _, n1, rfl, List.nodup_nil, nofun, rfl⟩ ?_ ?_
  · rintro i ρ h2 hi ⟨g2, os, y, e2, l2, nd, lt, rfl⟩
    simp [e2]
    refine take_then (take_ok (by omega)) g2.st (by omega) fun r h3 r1 r2 d3 => ?_
    have e3 := d3.get e2 (by omega)
    refine fresh_ok (by omega) e3 (by omega) hm r1 fun w hw hn => ?_
    rw [e3]
    simp [nI_len]
    rw [← nI_snoc]
    refine ⟨by omega, (g2.trans (Dg.of d3)).later (Nat.le_refl _) l3 _, os ++ [w], ?_, by simp [l2], ?_, fun x hx => ?_⟩
    · have := lt_of_get e3
      first | exact get_set e3 | simp [this]
    · rw [List.nodup_append]
      refine ⟨nd, by simp, fun a ha b hb => ?_⟩
      rw [show b = w by simpa using hb]
      exact fun z => hn (z ▸ ha)
    · rcases List.mem_append.mp hx with q | q
      · exact lt x q
      · rw [show x = w by simpa using q]; exact hw
  · rintro ρ h2 ⟨g2, os, y, e2, l2, nd, lt, rfl⟩
    simp
    exact q h2 _ os g2 (Nat.le_refl _) e2 nd lt (by omega) (by omega)
end
/-! ### waits -/
def wT (adr : Nat → Nat) (p : Nat) : Val := .tup [.int (p : Nat), .ref (adr p)]
structure Ws (h : Mem) (a : Nat) (ps : List Nat) (oth : Nat → List Nat) (adr : Nat → Nat) : Prop where
  ls : h[a]? = some (.lst (ps.map (wT adr)))
  at_ : ∀ p ∈ ps, h[adr p]? = some (.lst (nI (oth p)))
  nd : ps.Nodup
  len : ps.length ≤ 16
  lt : ∀ p ∈ ps, p < 100
  ol : ∀ p ∈ ps, (oth p).length ≤ 16
  ot : ∀ p ∈ ps, ∀ x ∈ oth p, x < 100
  on : ∀ p ∈ ps, (oth p).Nodup
theorem not2w {h : Mem} (st : St h) {a : Nat} {adr : Nat → Nat} {ps : List Nat} (e : h[a]? = some (.lst (ps.map (wT adr)))) : a ≠ 2 := by
  rintro rfl
  obtain ⟨ms, p, c, t, s, e2, e1, hp, hc⟩ := st.ex
  rw [e] at e2
  have := Ob.lst.inj (Option.some.inj e2)
  cases ps with
  | nil => simp at this
  | cons n ns => simp [wT] at this
section
variable {h h' : Mem} {a : Nat} {ps : List Nat} {oth : Nat → List Nat} {adr : Nat → Nat}
theorem Ws.gr (w : Ws h a ps oth adr) (g : Gr h h') : Ws h' a ps oth adr := ⟨Gr.get g w.ls, fun p hp => Gr.get g (w.at_ p hp), w.nd, w.len, w.lt, w.ol, w.ot, w.on⟩
theorem Ws.dg (w : Ws h a ps oth adr) (st : St h) (d : Dg h h') : Ws h' a ps oth adr := ⟨d.get w.ls (not2w st w.ls), fun p hp => d.get (w.at_ p hp) (not2n st (w.at_ p hp)), w.nd, w.len, w.lt, w.ol, w.ot, w.on⟩
end
end K40
set_option Elab.async false
set_option linter.all false
set_option maxRecDepth 100000
set_option maxHeartbeats 1000000
namespace K40
open Mp PySem L2
section
variable {h h' : Mem} {a : Nat} {ps : List Nat} {oth : Nat → List Nat} {adr : Nat → Nat}
theorem shuffled_perm {e : Nat} (he : 3 ≤ e) (st : St h) {a : Nat} {os : List Nat} (ea : h[a]? = some (.lst (nI os))) (hl : os.length < 1000) {Q : Val → Mem → Prop} {X : XQ}
    (q : ∀ (h' : Mem) (n : Nat) (os' : List Nat), Dg h h' → h.length ≤ n → h'[n]? = some (.lst (nI os')) → os'.Perm os → Q (.ref n) h') : (callF Γ e "_law_shuffled" [.ref 2, .ref a] h).W Q X := by
  obtain ⟨d, rfl⟩ : ∃ d, e = d + 1 := ⟨e - 1, by omega⟩
  have ls := sizeLine_eq
  have l3 := st.lt
  have na := not2n st ea
  rw [c__law_shuffled]
  simp only [W_fin, s__law_shuffled]
  have e1 : (h ++ [Ob.lst (nI os), Ob.lst []])[a]? = some (.lst (nI os)) := get_app _ ea
  have e2 : (h ++ [Ob.lst (nI os), Ob.lst []])[h.length]? = some (.lst (nI os)) := by simp
  have e3 : (h ++ [Ob.lst (nI os), Ob.lst []])[h.length + 1]? = some (.lst []) := by simp
  have g1 := Dg.new st [Ob.lst (nI os), Ob.lst []]
  simp [ea]
  generalize h ++ [Ob.lst (nI os), Ob.lst []] = h1 at e1 e2 e3 g1
  refine ⟨by rw [nI_len]; omega, ?_⟩
  simp [e1, nI_len]
  refine ⟨by unfold small62; simp; omega, ?_⟩
  refine for_rng (fun i ρ h' => Dg h h' ∧ ∃ rest acc y, h'[h.length]? = some (.lst (nI rest)) ∧ h'[h.length + 1]? = some (.lst (nI acc)) ∧ rest.length + i = os.length ∧ acc.length = i ∧ (rest ++ acc).Perm os ∧ ρ = [some (.ref 2), some (.ref a), some (.ref h.length), some (.ref (h.length + 1)), y]) ⟨g1, os, [], _, e2, e3, by simp, rfl, by simp, rfl⟩ ?_ ?_
  · rintro i ρ h2 hi ⟨g2, rest, acc, y, er, ec, hr, hc, pm, rfl⟩
    simp [er, ec, nI_len]
    refine take_then (take_ok (by omega)) g2.st (by omega) fun r h3 r1 r2 d3 => ?_
    have er3 := d3.get er (by omega)
    have ec3 := d3.get ec (by omega)
    have hrl : r.toNat < rest.length := by omega
    have ir : ixN (nI rest).length r = some r.toNat := ixN_pos r1 (by rw [nI_len]; omega)
    have gr : (nI rest)[r.toNat]? = some (.int (rest[r.toNat] : Nat)) := by simp [nI, hrl]
    have ee : (nI rest).eraseIdx r.toNat = nI (rest.eraseIdx r.toNat) := by simp [nI, List.eraseIdx_eq_take_drop_succ]
    rw [lmr_popI, er3]
    simp only [ir, gr, ee, W_ok]
    have ec4 : (h3.set h.length (Ob.lst (nI (rest.eraseIdx r.toNat))))[h.length + 1]? = some (.lst (nI acc)) := get_set_ne ec3 (by omega)
    have er4 : (h3.set h.length (Ob.lst (nI (rest.eraseIdx r.toNat))))[h.length]? = some (.lst (nI (rest.eraseIdx r.toNat))) := get_set er3
    have g4 := (g2.trans (Dg.of d3)).later (a := h.length) (Nat.le_refl _) l3 (Ob.lst (nI (rest.eraseIdx r.toNat)))
    generalize h3.set h.length (Ob.lst (nI (rest.eraseIdx r.toNat))) = h4 at ec4 er4 g4
    rw [ec4]
    simp [nI_len]
    have g5 := g4.later (a := h.length + 1) (by omega) (by omega) (Ob.lst (nI (acc ++ [rest[r.toNat]])))
    have ec5 : (h4.set (h.length + 1) (Ob.lst (nI (acc ++ [rest[r.toNat]]))))[h.length + 1]? = _ := get_set ec4
    rw [nI_snoc] at g5 ec5
    refine ⟨by omega, g5, rest.eraseIdx r.toNat, er4, acc ++ [rest[r.toNat]], by rw [nI_snoc]; first | exact ec5 | (have := lt_of_get ec4; simp [this]), ?_, by simp [hc], ?_⟩
    · rw [List.length_eraseIdx, if_pos hrl]; omega
    · have p1 : (rest[r.toNat] :: rest.eraseIdx r.toNat).Perm rest := by
        rw [List.eraseIdx_eq_take_drop_succ]
        have : rest = rest.take r.toNat ++ rest[r.toNat] :: rest.drop (r.toNat + 1) := by
          rw [List.getElem_cons_drop, List.take_append_drop]
        conv => rhs; rw [this]
        exact List.perm_middle.symm
      have p2 : (rest.eraseIdx r.toNat ++ (acc ++ [rest[r.toNat]])).Perm (rest[r.toNat] :: (rest.eraseIdx r.toNat ++ acc)) := by
        rw [← List.append_assoc]
        exact List.perm_append_singleton _ _
      exact p2.trans ((p1.append_right acc).trans pm)
  · rintro ρ h2 ⟨g2, rest, acc, y, er, ec, hr, hc, pm, rfl⟩
    have : rest = [] := List.eq_nil_of_length_eq_zero (by omega)
    subst this
    simp
    exact q h2 _ acc g2 (by omega) ec (by simpa using pm)
theorem Ws.push (w : Ws h a ps oth adr) {p r : Nat} {os : List Nat} (hp : p ∉ ps) (l15 : ps.length < 16) (p100 : p < 100) (er : h[r]? = some (.lst (nI os))) (ra : r ≠ a) (lo : os.length ≤ 16) (ho : ∀ x ∈ os, x < 100) (no : os.Nodup) :
    Ws (h.set a (.lst (ps.map (wT adr) ++ [.tup [.int (p : Nat), .ref r]]))) a (ps ++ [p]) (fun x => if x = p then os else oth x) (fun x => if x = p then r else adr x) := by
  have ne : ∀ q ∈ ps, q ≠ p := fun q hq z => hp (z ▸ hq)
  have em : (ps ++ [p]).map (wT fun x => if x = p then r else adr x) = ps.map (wT adr) ++ [.tup [.int (p : Nat), .ref r]] := by
    rw [List.map_append]
    congr 1
    · refine List.map_congr_left fun q hq => ?_
      simp [wT, ne q hq]
    · simp [wT]
  have na : ∀ q ∈ ps, a ≠ adr q := fun q hq z => by
    have e1 := w.at_ q hq
    rw [← z, w.ls] at e1
    have := Ob.lst.inj (Option.some.inj e1)
    cases ps with
    | nil => cases hq
    | cons x xs =>
      cases ho2 : oth q with
      | nil => rw [ho2] at this; simp [nI] at this
      | cons y ys => rw [ho2] at this; simp [nI, wT] at this
  refine ⟨by rw [get_set w.ls, em], fun q hq => ?_, ?_, by simp; omega, fun q hq => ?_, fun q hq => ?_, fun q hq => ?_, fun q hq => ?_⟩
  · by_cases e : q = p
    · rw [if_pos e, if_pos e]; exact get_set_ne er (Ne.symm ra)
    · rw [if_neg e, if_neg e]
      have hq' : q ∈ ps := by
        rcases List.mem_append.mp hq with z | z
        · exact z
        · exact absurd (by simpa using z) e
      exact get_set_ne (w.at_ q hq') (na q hq')
  · rw [List.nodup_append]
    refine ⟨w.nd, by simp, fun x hx y hy => ?_⟩
    rw [show y = p by simpa using hy]
    exact ne x hx
  all_goals
    by_cases e : q = p
    · first
        | (rw [e]; exact p100)
        | (rw [if_pos e]; exact lo)
        | (rw [if_pos e]; exact ho)
        | (rw [if_pos e]; exact no)
    · have hq' : q ∈ ps := by
        rcases List.mem_append.mp hq with z | z
        · exact z
        · exact absurd (by simpa using z) e
      first
        | exact w.lt q hq'
        | (rw [if_neg e]; exact w.ol q hq')
        | (rw [if_neg e]; exact w.ot q hq')
        | (rw [if_neg e]; exact w.on q hq')
theorem Ws.nil (e : h[a]? = some (.lst [])) : Ws h a [] oth adr := ⟨e, nofun, List.nodup_nil, by simp, nofun, nofun, nofun, nofun⟩
theorem waits_ok {e : Nat} (he : 6 ≤ e) (st : St h) {Q : Val → Mem → Prop} {X : XQ}
    (q : ∀ (h' : Mem) (a : Nat) (ps : List Nat) (oth : Nat → List Nat) (adr : Nat → Nat), Dg h h' → h.length ≤ a → Ws h' a ps oth adr → Q (.ref a) h') : (callF Γ e "_law_waits" [.ref 2] h).W Q X := by
  obtain ⟨d, rfl⟩ : ∃ d, e = d + 1 := ⟨e - 1, by omega⟩
  have ls := sizeLine_eq
  have l3 := st.lt
  rw [c__law_waits]
  simp only [W_fin, s__law_waits]
  try simp
  refine size_then (size_ok (by omega)) st (by omega) (by omega) fun r0 h1 r01 r02 d1 => ?_
  try simp
  refine distinct_draw (m := 100) (by omega) d1.st (by omega) (by omega) (by omega) fun h2 P pool g2' hP eP ndP ltP lP _ => ?_
  have g2 := (Dg.of d1).trans g2'
  refine take_then (take_ok (by omega)) g2.st (by omega) fun wy h3 w1 w2 d3 => ?_
  have g3 := g2.trans (Dg.of d3)
  have P3 := d3.get eP (not2n g2.st eP)
  try simp
  have n4 := get_new h3 (Ob.lst [])
  have g4' := Dg.new g3.st [Ob.lst []]
  have l30 := g3.len
  have P4 := g4'.get P3 (not2n g3.st P3)
  have ll4 : (h3 ++ [Ob.lst []]).length = h3.length + 1 := by simp
  generalize h3 ++ [Ob.lst []] = h4 at n4 g4' P4 ll4
  have g4 := g3.trans g4'
  refine shuffled_perm (by omega) g4.st P4 (by omega) fun h5 S sh g5' hS eS pm => ?_
  have g5 := g4.trans g5'
  have P5 := g5'.get P4 (not2n g4.st P4)
  have n5 := g5'.get n4 (by omega)
  have ndS : sh.Nodup := pm.nodup_iff.mpr ndP
  have ltS : ∀ x ∈ sh, x < 100 := fun x hx => ltP x (pm.mem_iff.mp hx)
  have lS : sh.length ≤ 16 := by have := pm.length_eq; omega
  simp [eS]
  refine for_lst (xs := nI sh) (fun i ρ h' => Dg h h' ∧ h'[S]? = some (.lst (nI sh)) ∧ h'[P]? = some (.lst (nI pool)) ∧ ∃ (ps : List Nat) (oth : Nat → List Nat) (adr : Nat → Nat) (y4 y5 : Option Val), Ws h' h3.length ps oth adr ∧ (∀ p ∈ ps, p ∈ sh.take i) ∧ ps.length ≤ i ∧ ρ = [some (.ref 2), some (.ref P), some (.int wy), some (.ref h3.length), y4, y5, none]) ⟨g5, eS, P5, [], fun _ => [], fun _ => 0, _, _, Ws.nil n5, nofun, by simp, rfl⟩ (fun i ρ h' _ I => I.2.1) ?_ ?_
  · rintro i x ρ h6 hx ⟨g6, S6, P6, ps, oth, adr, y4, y5, w6, sub, lp, rfl⟩
    obtain ⟨p, hp, rfl⟩ := map_inv hx
    have hi := list_get hp
    have pnot : p ∉ ps := fun z => by
      have := sub p z
      obtain ⟨j, hj, ej⟩ := List.mem_iff_getElem.mp this
      rw [List.length_take] at hj
      rw [List.getElem_take] at ej
      have e2 : sh[j]? = some p := by rw [List.getElem?_eq_getElem (by omega), ej]
      have := Q42.idx_get ndS e2
      have := Q42.idx_get ndS hp
      omega
    generalize ePP : Po.mk _ _ _ _ _ = PP
    have hnx : ∀ (h' : Mem) (y4 y5 : Option Val) (ps' : List Nat) (oth' : Nat → List Nat) (adr' : Nat → Nat), Dg h h' → h'[S]? = some (.lst (nI sh)) → h'[P]? = some (.lst (nI pool)) → Ws h' h3.length ps' oth' adr' → (∀ p ∈ ps', p ∈ sh.take (i + 1)) → ps'.length ≤ i + 1 → PP.nx [some (.ref 2), some (.ref P), some (.int wy), some (.ref h3.length), y4, y5, none] h' := by
      intro h' y4 y5 ps' oth' adr' g s p w sb l
      rw [← ePP]
      exact ⟨g, s, p, ps', oth', adr', _, _, w, sb, l, rfl⟩
    clear ePP
    -- one row more
    have row : ∀ (h' : Mem) (mn : Int), Dg h h' → h'[S]? = some (.lst (nI sh)) → h'[P]? = some (.lst (nI pool)) → Ws h' h3.length ps oth adr → 0 ≤ mn → mn ≤ 16 →
        FwI (sExpr (eMeth Γ (callF Γ d) "append" 1 [] (eVar 3) (aCons (eTup (aCons (eVar 4) (aCons (eLc [6] (.nm 6) (iVal (eCall ((callF Γ d) "_law_distinct") (aCons (eVar 0) (aCons (eBi .len (aCons (eVar 1) aNil)) (aCons (eVar 5) aNil))))) tYesM (eIdx (eVar 1) (eVar 6))) aNil))) aNil) aNil) [some (.ref 2), some (.ref P), some (.int wy), some (.ref h3.length), some (.int (p : Int)), some (.int mn), none] h') PP := by
      intro h' mn g s pp w mn0 mn1
      rw [FwI_iff]
      simp [w.ls, pp, nI_len]
      refine distinct_draw (m := pool.length) (by omega) g.st (by omega) mn0 (by omega) fun h7 D idx g7' hD eD ndD ltD lD _ => ?_
      have g7 := g.trans g7'
      have pp7 := g7'.get pp (not2n g.st pp)
      have s7 := g7'.get s (not2n g.st s)
      have w7 := w.dg g.st g7'
      simp [eD]
      refine lcm_lst (fun k => .int ((pool.getD k 0 : Nat) : Int)) eD (by omega) (fun k h8 hk g8 => ?_) fun h8 g8 => ?_
      · have hkl := ltD k hk
        have pp8 := Gr.get g8 pp7
        simp [wipeE, pp8, Mp.atI_nat, nI, hkl]
        exact g8
      · have d8 := Dg.gr g7.st g8
        have em : (idx.map fun k => Val.int ((pool.getD k 0 : Nat) : Int)) = nI (idx.map fun k => pool.getD k 0) := by simp [nI]
        rw [em]
        have n9 := get_new h8 (Ob.lst (nI (idx.map fun k => pool.getD k 0)))
        have d9 := Dg.new d8.st [Ob.lst (nI (idx.map fun k => pool.getD k 0))]
        have g9 := g7.trans (d8.trans d9)
        have w9 := w7.dg g7.st (d8.trans d9)
        have s9 := (d8.trans d9).get s7 (not2n g7.st s7)
        have pp9 := (d8.trans d9).get pp7 (not2n g7.st pp7)
        have la : h3.length ≠ h8.length := by
          have := lt_of_get (d8.get w7.ls (not2w g7.st w7.ls))
          omega
        generalize hos : (idx.map fun k => pool.getD k 0) = os at n9 d9 g9 w9 s9 pp9
        have los : os.length ≤ 16 := by rw [← hos, List.length_map]; omega
        have hos2 : ∀ x ∈ os, x < 100 := fun x hx => by
          rw [← hos] at hx
          obtain ⟨k, hk, rfl⟩ := List.mem_map.mp hx
          have hkl := ltD k hk
          rw [List.getD_eq_getElem?_getD, List.getElem?_eq_getElem hkl]
          exact ltP _ (List.getElem_mem hkl)
        have nos : os.Nodup := by
          rw [← hos]
          unfold List.Nodup
          rw [List.pairwise_map]
          refine List.Pairwise.imp_of_mem (fun {x y} hx hy hne => ?_) ndD
          have hx := ltD x hx
          have hy := ltD y hy
          intro z
          rw [List.getD_eq_getElem?_getD, List.getElem?_eq_getElem hx, List.getD_eq_getElem?_getD, List.getElem?_eq_getElem hy] at z
          have e1 := Q42.idx_get ndP (List.getElem?_eq_getElem hx)
          have e2 := Q42.idx_get ndP (List.getElem?_eq_getElem hy)
          have z : pool[x] = pool[y] := z
          rw [z] at e1
          omega
        refine ⟨by rw [nI_len]; omega, by omega, ?_⟩
        generalize h8 ++ [Ob.lst (nI os)] = h9 at n9 d9 g9 w9 s9 pp9
        have w10 := w9.push pnot (by omega) (ltS p (List.mem_of_getElem? hp)) n9 (Ne.symm la) los hos2 nos
        have sne : h3.length ≠ S := by omega
        have pne : h3.length ≠ P := by
          have := lt_of_get P3
          omega
        simp [w9.ls]
        refine ⟨by omega, hnx _ _ _ _ _ _ (g9.later (by omega) (by omega) _) (get_set_ne s9 sne) (get_set_ne pp9 pne) w10 ?_ (by simp; omega)⟩
        intro x hx
        rw [take_snoc hp]
        rcases List.mem_append.mp hx with z | z
        · exact List.mem_append_left _ (sub x z)
        · exact List.mem_append_right _ z
    -- the suite of one pid
    have suite : ∀ (h' : Mem) (y5 : Option Val), Dg h h' → h'[S]? = some (.lst (nI sh)) → h'[P]? = some (.lst (nI pool)) → Ws h' h3.length ps oth adr →
        FwI (sSeq (sSet 5 (eCall ((callF Γ d) "_law_take") (aCons (eVar 0) (aCons (eBin .Add (eBi .min (aCons (eBi .len (aCons (eVar 1) aNil)) (aCons (eC (.int (4))) aNil))) (eC (.int (1)))) aNil)))) (sSeq (sIf (tE (eCmp .Lt (eVar 2) (eC (.int (2))))) (sSet 5 (eBi .max (aCons (eC (.int (1))) (aCons (eVar 5) aNil)))) sSkip) (sSeq (sIf (tE (eCmp .Eq (eCall ((callF Γ d) "_law_take") (aCons (eVar 0) (aCons (eC (.int (12))) aNil))) (eC (.int (1))))) (sSet 5 (eBi .len (aCons (eVar 1) aNil))) sSkip) (sExpr (eMeth Γ (callF Γ d) "append" 1 [] (eVar 3) (aCons (eTup (aCons (eVar 4) (aCons (eLc [6] (.nm 6) (iVal (eCall ((callF Γ d) "_law_distinct") (aCons (eVar 0) (aCons (eBi .len (aCons (eVar 1) aNil)) (aCons (eVar 5) aNil))))) tYesM (eIdx (eVar 1) (eVar 6))) aNil))) aNil) aNil)))) [some (.ref 2), some (.ref P), some (.int wy), some (.ref h3.length), some (.int (p : Int)), y5, none] h') PP := by
      intro h' y5 g s pp w
      have third : ∀ (h' : Mem) (mn : Int), Dg h h' → h'[S]? = some (.lst (nI sh)) → h'[P]? = some (.lst (nI pool)) → Ws h' h3.length ps oth adr → 0 ≤ mn → mn ≤ 16 → FwI (sSeq (sIf (tE (eCmp .Eq (eCall ((callF Γ d) "_law_take") (aCons (eVar 0) (aCons (eC (.int (12))) aNil))) (eC (.int (1))))) (sSet 5 (eBi .len (aCons (eVar 1) aNil))) sSkip) (sExpr (eMeth Γ (callF Γ d) "append" 1 [] (eVar 3) (aCons (eTup (aCons (eVar 4) (aCons (eLc [6] (.nm 6) (iVal (eCall ((callF Γ d) "_law_distinct") (aCons (eVar 0) (aCons (eBi .len (aCons (eVar 1) aNil)) (aCons (eVar 5) aNil))))) tYesM (eIdx (eVar 1) (eVar 6))) aNil))) aNil) aNil)) [some (.ref 2), some (.ref P), some (.int wy), some (.ref h3.length), some (.int (p : Int)), some (.int mn), none] h') PP := by
        intro h' mn g s pp w m0 m1
        rw [FwI_iff, seqI]
        simp
        refine take_then (take_ok (by omega)) g.st (by omega) fun r h7 r1 r2 d7 => ?_
        have g7 := g.trans (Dg.of d7)
        have s7 := d7.get s (not2n g.st s)
        have pp7 := d7.get pp (not2n g.st pp)
        have w7 := w.dg g.st (Dg.of d7)
        simp [pp7, nI_len]
        exact ⟨fun _ => row h7 _ g7 s7 pp7 w7 (by omega) (by omega), fun _ => row h7 _ g7 s7 pp7 w7 m0 m1⟩
      rw [FwI_iff, seqI]
      simp [pp, nI_len]
      refine take_then (take_ok (by omega)) g.st (by split <;> omega) fun r h7 r1 r2 d7 => ?_
      have g7 := g.trans (Dg.of d7)
      have s7 := d7.get s (not2n g.st s)
      have pp7 := d7.get pp (not2n g.st pp)
      have w7 := w.dg g.st (Dg.of d7)
      have rb : r ≤ 16 := by split at r2 <;> omega
      rw [FwI_iff, seqI]
      simp
      refine ⟨fun _ => third h7 _ g7 s7 pp7 w7 (by split <;> omega) (by split <;> omega), fun _ => third h7 _ g7 s7 pp7 w7 r1 rb⟩
    rw [w_sIf]
    simp only [← FwI_iff]
    simp
    refine ⟨fun _ => suite h6 _ g6 S6 P6 w6, fun _ => ?_⟩
    refine take_then (take_ok (by omega)) g6.st (by omega) fun r h7 r1 r2 d7 => ?_
    have g7 := g6.trans (Dg.of d7)
    have s7 := d7.get S6 (not2n g6.st S6)
    have pp7 := d7.get P6 (not2n g6.st P6)
    have w7 := w6.dg g6.st (Dg.of d7)
    simp
    refine ⟨fun _ => suite h7 _ g7 s7 pp7 w7, fun _ => ?_⟩
    rw [FwI_iff, w_sSkip]
    exact hnx _ _ _ _ _ _ g7 s7 pp7 w7 (fun x hx => by rw [take_snoc hp]; exact List.mem_append_left _ (sub x hx)) (by omega)
  · rintro ρ h6 ⟨g6, S6, P6, ps, oth, adr, y4, y5, w6, sub, lp, rfl⟩
    simp
    refine take_then (take_ok (by omega)) g6.st (by omega) fun r h7 r1 r2 d7 => ?_
    have g7 := g6.trans (Dg.of d7)
    have w7 := w6.dg g6.st (Dg.of d7)
    simp
    refine ⟨fun _ => ?_, fun _ => q _ _ _ _ _ g7 (by omega) w7⟩
    refine q _ _ [] oth adr (g7.trans (Dg.new g7.st _)) g7.len (Ws.nil (get_new _ _))
end
end K40
set_option Elab.async false
set_option linter.all false
set_option maxRecDepth 100000
set_option maxHeartbeats 1000000
namespace K40
open Mp PySem L2
section
variable {h h' : Mem} {a : Nat} {ps : List Nat} {oth : Nat → List Nat} {adr : Nat → Nat}
theorem wT_get {adr : Nat → Nat} {ps : List Nat} {i : Nat} {x : Val} (hx : (ps.map (wT adr))[i]? = some x) : ∃ p, ps[i]? = some p ∧ x = .tup [.int (p : Nat), .ref (adr p)] := map_inv hx
theorem Ws.other (w : Ws h a ps oth adr) {O : Nat} (h1 : O ≠ a) (h2 : ∀ q ∈ ps, O ≠ adr q) (o : Ob) : Ws (h.set O o) a ps oth adr := ⟨get_set_ne w.ls h1, fun q hq => get_set_ne (w.at_ q hq) (h2 q hq), w.nd, w.len, w.lt, w.ol, w.ot, w.on⟩
theorem wait_list_ok {e : Nat} (he : 8 ≤ e) (st : St h) {Q : Val → Mem → Prop} {X : XQ}
    (q : ∀ (h' : Mem) (a : Nat) (ps : List Nat) (oth : Nat → List Nat) (adr : Nat → Nat), Dg h h' → h.length ≤ a → Ws h' a ps oth adr → Q (.ref a) h') : (callF Γ e "_law_wait_list" [.ref 2] h).W Q X := by
  obtain ⟨d, rfl⟩ : ∃ d, e = d + 1 := ⟨e - 1, by omega⟩
  have ls := sizeLine_eq
  have l3 := st.lt
  rw [c__law_wait_list]
  simp only [W_fin, s__law_wait_list]
  simp
  refine waits_ok (by omega) st fun h1 a ps oth adr g1 ha w1 => ?_
  refine take_then (take_ok (by omega)) g1.st (by omega) fun r h2 r1 r2 d2 => ?_
  have g2 := g1.trans (Dg.of d2)
  have w2 := w1.dg g1.st (Dg.of d2)
  have n3 := get_new h2 (Ob.lst [])
  have g3' := Dg.new g2.st [Ob.lst []]
  have l2 := g2.len
  simp
  generalize h2 ++ [Ob.lst []] = h3 at n3 g3'
  have g3 := g2.trans g3'
  have w3 := w2.dg g2.st g3'
  have aR : a ≠ h2.length := by have := lt_of_get w2.ls; omega
  have adrR : ∀ q ∈ ps, adr q ≠ h2.length := fun q hq => by have := lt_of_get (w2.at_ q hq); omega
  simp [w3.ls]
  generalize hb : decide (r = 0) = b
  rw [show ps.length = (ps.map (wT adr)).length by simp]
  refine for_lst (xs := ps.map (wT adr)) (fun i ρ h' => Dg h h' ∧ Ws h' a ps oth adr ∧ ∃ (oth' : Nat → List Nat) (adr' : Nat → Nat) (y4 y5 y6 : Option Val), Ws h' h2.length (ps.take i) oth' adr' ∧ ρ = [some (.ref 2), some (.ref a), some (.bl b), some (.ref h2.length), y4, y5, y6]) ⟨g3, w3, oth, adr, _, _, _, Ws.nil n3, rfl⟩ (fun i ρ h' _ I => I.2.1.ls) ?_ ?_
  · rintro i x ρ h4 hx ⟨g4, w4, oth', adr', y4, y5, y6, v4, rfl⟩
    obtain ⟨p, hp, rfl⟩ := wT_get hx
    have hpm := List.mem_of_getElem? hp
    have hi := list_get hp
    have eo := w4.at_ p hpm
    have pnot : p ∉ ps.take i := fun z => by
      obtain ⟨j, hj, ej⟩ := List.mem_iff_getElem.mp z
      rw [List.length_take] at hj
      rw [List.getElem_take] at ej
      have e2 : ps[j]? = some p := by rw [List.getElem?_eq_getElem (by omega), ej]
      have := Q42.idx_get w4.nd e2
      have := Q42.idx_get w4.nd hp
      omega
    have l16 := w4.len
    have ol := w4.ol p hpm
    generalize ePP : Po.mk _ _ _ _ _ = PP
    have hnx : ∀ (h' : Mem) (y4 y5 y6 : Option Val) (oth' : Nat → List Nat) (adr' : Nat → Nat), Dg h h' → Ws h' a ps oth adr → Ws h' h2.length (ps.take (i + 1)) oth' adr' → PP.nx [some (.ref 2), some (.ref a), some (.bl b), some (.ref h2.length), y4, y5, y6] h' := by
      intro h' y4 y5 y6 oth' adr' g w v
      rw [← ePP]
      exact ⟨g, w, oth', adr', _, _, _, v, rfl⟩
    clear ePP
    -- the row is appended
    have last : ∀ (h' : Mem) (O : Nat) (os : List Nat) (y6 : Option Val), Dg h h' → Ws h' a ps oth adr → Ws h' h2.length (ps.take i) oth' adr' → h'[O]? = some (.lst (nI os)) → O ≠ h2.length → os.length ≤ 16 → (∀ x ∈ os, x < 100) → os.Nodup →
        FwI (sExpr (eMeth Γ (callF Γ d) "append" 1 [] (eVar 3) (aCons (eTup (aCons (eIdx (eVar 4) (eC (.int (0)))) (aCons (eVar 5) aNil))) aNil) aNil) [some (.ref 2), some (.ref a), some (.bl b), some (.ref h2.length), some (.tup [.int (p : Int), .ref (adr p)]), some (.ref O), y6] h') PP := by
      intro h' O os y6 g w v eO nO lo ho no
      have lv := v.len
      obtain ⟨tk, htk⟩ : ∃ tk, tk = ps.take i := ⟨_, rfl⟩
      have ltk : tk.length = i := by rw [htk, List.length_take]; omega
      rw [← htk] at v lv
      have pnot : p ∉ tk := by rw [htk]; exact pnot
      have v2 := v.push pnot (by omega) (w.lt p hpm) eO nO lo ho no
      rw [htk, ← take_snoc hp, ← htk] at v2
      rw [FwI_iff]
      simp [v.ls]
      refine ⟨by omega, by omega, hnx _ _ _ _ _ _ (g.later (by omega) (by omega) _) ?_ v2⟩
      refine ⟨get_set_ne w.ls (Ne.symm aR), fun q hq => ?_, w.nd, w.len, w.lt, w.ol, w.ot, w.on⟩
      exact get_set_ne (w.at_ q hq) (Ne.symm (adrR q hq))
    rw [seqI]
    simp [eo]
    refine ⟨by rw [nI_len]; omega, ?_⟩
    have n5 := get_new h4 (Ob.lst (nI (oth p)))
    have d5 := Dg.new g4.st [Ob.lst (nI (oth p))]
    have l4 := g4.len
    have lR := lt_of_get v4.ls
    generalize h4 ++ [Ob.lst (nI (oth p))] = h5 at n5 d5
    have g5 := g4.trans d5
    have w5 := w4.dg g4.st d5
    have v5 := v4.dg g4.st d5
    rw [FwI_iff, seqI]
    have nO : h4.length ≠ h2.length := by omega
    cases b with
    | false =>
      simp
      exact last h5 h4.length (oth p) _ g5 w5 v5 n5 nO ol (w4.ot p hpm) (w4.on p hpm)
    | true =>
      simp
      refine take_then (take_ok (by omega)) g5.st (by omega) fun r h6 r1 r2 d6 => ?_
      have g6 := g5.trans (Dg.of d6)
      have w6 := w5.dg g5.st (Dg.of d6)
      have v6 := v5.dg g5.st (Dg.of d6)
      have n6 := d6.get n5 (not2n g5.st n5)
      simp
      refine ⟨fun _ => ?_, fun _ => last h6 h4.length (oth p) _ g6 w6 v6 n6 nO ol (w4.ot p hpm) (w4.on p hpm)⟩
      refine take_then (take_ok (by omega)) g6.st (by omega) fun r h7 r1 r2 d7 => ?_
      have g7 := g6.trans (Dg.of d7)
      have w7 := w6.dg g6.st (Dg.of d7)
      have v7 := v6.dg g6.st (Dg.of d7)
      have n7 := d7.get n6 (not2n g6.st n6)
      simp
      refine distinct_draw (m := 100) (by omega) g7.st (by omega) (by omega) (by omega) fun h8 D ds g8' hD eD ndD ltD lD _ => ?_
      have g8 := g7.trans g8'
      have w8 := w7.dg g7.st g8'
      have v8 := v7.dg g7.st g8'
      have n8 := g8'.get n7 (not2n g7.st n7)
      have nDO : h4.length ≠ D := by have := lt_of_get n7; omega
      simp [eD]
      refine for_lst (xs := nI ds) (fun j ρ h' => Dg h h' ∧ Ws h' a ps oth adr ∧ Ws h' h2.length (ps.take i) oth' adr' ∧ h'[D]? = some (.lst (nI ds)) ∧ ∃ (os : List Nat) (y6 : Option Val), h'[h4.length]? = some (.lst (nI os)) ∧ os.length ≤ 16 ∧ (∀ x ∈ os, x < 100) ∧ os.Nodup ∧ ρ = [some (.ref 2), some (.ref a), some (.bl true), some (.ref h2.length), some (.tup [.int (p : Int), .ref (adr p)]), some (.ref h4.length), y6]) ⟨g8, w8, v8, eD, _, _, n8, ol, w4.ot p hpm, w4.on p hpm, rfl⟩ (fun j ρ h' _ I => I.2.2.2.1) ?_ ?_
      · rintro j x ρ h9 hx ⟨g9, w9, v9, eD9, os, y6', n9, lo, ho, no, rfl⟩
        obtain ⟨z, hz, rfl⟩ := map_inv hx
        have ni := notin_nI z n9 (by omega)
        have e1 : h4.length ≠ a := by have := lt_of_get w4.ls; omega
        have e2 : ∀ q ∈ ps, h4.length ≠ adr q := fun q hq => by have := lt_of_get (w4.at_ q hq); omega
        have e3 : ∀ q ∈ ps.take i, h4.length ≠ adr' q := fun q hq => by have := lt_of_get (v4.at_ q hq); omega
        by_cases hm : z ∈ os
        · simp [n9, ni, hm]
          exact ⟨g9, w9, v9, eD9, os, rfl, lo, ho, no⟩
        · simp [n9, ni, hm, nI_len]
          refine ⟨fun h16 => ⟨by omega, ?_⟩, fun _ => ⟨g9, w9, v9, eD9, os, rfl, lo, ho, no⟩⟩
          rw [← nI_snoc]
          refine ⟨g9.later (by omega) (by omega) _, w9.other e1 e2 _, v9.other nO e3 _, get_set_ne eD9 nDO, os ++ [z], ?_, by simp; omega, fun x hx => ?_, ?_⟩
          · have := lt_of_get n9
            first | exact get_set n9 | simp [this]
          · rcases List.mem_append.mp hx with q | q
            · exact ho x q
            · rw [show x = z by simpa using q]; exact ltD z (List.mem_of_getElem? hz)
          · rw [List.nodup_append]
            refine ⟨no, by simp, fun x hx y hy => ?_⟩
            rw [show y = z by simpa using hy]
            exact fun e => hm (e ▸ hx)
      · rintro ρ h9 ⟨g9, w9, v9, eD9, os, y6', n9, lo, ho, no, rfl⟩
        simp
        exact last h9 h4.length os _ g9 w9 v9 n9 nO lo ho no
  · rintro ρ h4 ⟨g4, w4, oth', adr', y4, y5, y6, v4, rfl⟩
    rw [List.length_map, List.take_length] at v4
    simp
    exact q _ _ _ _ _ g4 (by omega) v4
end
end K40
set_option Elab.async false
set_option linter.all false
set_option maxRecDepth 100000
set_option maxHeartbeats 1000000
namespace K40
open Mp PySem L2
/-- while: a measure goes down, or it ends -/
theorem while_meas {t : MT} {body els : MS} {P : Po} (I : Nat → Mp.Env → Mem → Prop)
    (turn : ∀ n ρ h, I n ρ h → (t ρ h).W (fun k h1 => (k = true → Fw (body ρ h1) ⟨fun ρ' h' => ∃ m, m < n ∧ I m ρ' h', P.rt, P.nx, fun ρ' h' => ∃ m, m < n ∧ I m ρ' h', P.xc⟩) ∧ (k = false → Fw (els ρ h1) P)) (P.xc ρ)) : ∀ (n fuel : Nat) (ρ : Mp.Env) (h : Mem), n < fuel → I n ρ h → Fw (sWhile fuel t body els ρ h) P := by
  intro n
  induction n using Nat.strongRecOn with
  | _ n ih =>
    intro fuel ρ h hf hI
    obtain ⟨f, rfl⟩ : ∃ f, fuel = f + 1 := ⟨fuel - 1, by omega⟩
    have tt := turn n ρ h hI
    have go : ∀ ρ' h', (∃ m, m < n ∧ I m ρ' h') → Fw (whileF t body els f ρ' h') P := fun ρ' h' ⟨m, hm, hI'⟩ => ih m hm f ρ' h' (by omega) hI'
    unfold sWhile
    rw [whileF, Fw_onE]
    refine tt.imp (fun k h1 ⟨k1, k2⟩ => ?_) fun _ _ _ z => z
    cases k with
    | false => exact k2 rfl
    | true =>
      rw [if_pos rfl]
      have b := k1 rfl
      cases e : body ρ h1 with
      | ok fl h2 =>
        rw [e] at b
        cases fl with
        | nx ρ2 => simp only [e]; exact go ρ2 h2 b
        | ct ρ2 => simp only [e]; exact go ρ2 h2 b
        | rt v => simp only [e]; exact b
        | bk ρ2 => simp only [e]; exact b
        | xc ρ2 c fs => simp only [e]; exact b
      | exc c fs h2 => rw [e] at b; exact b.elim
      | bad => rw [e] at b; exact b.elim
/-! ### dicts of pids -/
def dk (adr : Nat → Nat) (K : List Nat) : List (L2.Key × Val) := K.map fun p : Nat => (Sum.inl (p : Int), Val.ref (adr p))
theorem dk_len (adr : Nat → Nat) (K : List Nat) : (dk adr K).length = K.length := by simp [dk]
theorem dGet_dk (adr : Nat → Nat) (p : Nat) : ∀ K : List Nat, dGet (dk adr K) (.inl (p : Int)) = if p ∈ K then some (.ref (adr p)) else none
  | [] => by simp [dk, dGet]
  | k :: K => by
    have ih := dGet_dk adr p K
    unfold dk at ih ⊢
    rw [List.map_cons, dGet_cons]
    by_cases e : k = p
    · subst e; simp
    · have h1 : ¬ ((Sum.inl (k : Int) : L2.Key) = Sum.inl (p : Int)) := fun z => e (by cases z; rfl)
      rw [if_neg h1, ih]
      simp [Ne.symm e]
theorem dk_any (adr : Nat → Nat) (p : Nat) (K : List Nat) : ((dk adr K).any fun kv => decide (kv.1 = (Sum.inl (p : Int) : L2.Key))) = decide (p ∈ K) := by
  rw [Bool.eq_iff_iff, List.any_eq_true, decide_eq_true_iff]
  constructor
  · rintro ⟨kv, hm, e⟩
    obtain ⟨q, hq, rfl⟩ := List.mem_map.mp hm
    have : (q : Int) = (p : Int) := by simpa using e
    rw [show p = q by omega]; exact hq
  · intro hp
    exact ⟨_, List.mem_map.mpr ⟨p, hp, rfl⟩, by simp⟩
theorem dPut_dk {adr : Nat → Nat} {p : Nat} {K : List Nat} (hp : p ∉ K) : dPut (dk adr K) (.inl (p : Int)) (.ref (adr p)) = dk adr (K ++ [p]) := by
  unfold dPut
  rw [dk_any, if_neg (by simpa using hp)]
  simp [dk]
theorem dDrop_dk {adr : Nat → Nat} {p : Nat} {K : List Nat} : dDrop (dk adr K) (.inl (p : Int)) = dk adr (K.filter fun q => decide (q ≠ p)) := by
  unfold dDrop dk
  rw [List.filter_map]
  congr 1
  apply List.filter_congr
  intro q _
  have : ((Sum.inl (q : Int) : L2.Key) ≠ Sum.inl (p : Int)) ↔ q ≠ p := ⟨fun h z => h (by rw [z]), fun h z => h (by cases z; rfl)⟩
  simp [Function.comp]
  exact Int.natCast_inj
theorem dk_get {adr : Nat → Nat} {K : List Nat} {i : Nat} {kv : L2.Key × Val} (h : (dk adr K)[i]? = some kv) : ∃ p, K[i]? = some p ∧ kv = (Sum.inl (p : Int), Val.ref (adr p)) := map_inv h
section
variable {h h' : Mem} {a : Nat} {ps : List Nat} {oth : Nat → List Nat} {adr : Nat → Nat}
theorem wT_pair (adr : Nat → Nat) (ps : List Nat) : ps.map (wT adr) = (ps.map fun p : Nat => ((Val.int (p : Int), Val.ref (adr p)) : Val × Val)).map fun p => .tup [p.1, p.2] := by
  rw [List.map_map]; rfl
theorem take_not {p : Nat} {i : Nat} (nd : ps.Nodup) (hp : ps[i]? = some p) : p ∉ ps.take i := fun z => by
  have hi := list_get hp
  obtain ⟨j, hj, ej⟩ := List.mem_iff_getElem.mp z
  rw [List.length_take] at hj
  rw [List.getElem_take] at ej
  have e2 : ps[j]? = some p := by rw [List.getElem?_eq_getElem (by omega), ej]
  have := Q42.idx_get nd e2
  have := Q42.idx_get nd hp
  omega
theorem obp_ok {e : Nat} (he : 1 ≤ e) (w : Ws h a ps oth adr) : callF Γ e "others_by_pid" [.ref a] h = .ok (.ref h.length) (h ++ [.dic (dk adr ps)]) := by
  obtain ⟨d, rfl⟩ : ∃ d, e = d + 1 := ⟨e - 1, by omega⟩
  have ls := sizeLine_eq
  have l16 := w.len
  rw [c_others_by_pid]
  refine W_eq ?_
  simp only [W_fin, s_others_by_pid]
  simp [w.ls]
  rw [show ps.length = (ps.map fun p : Nat => ((Val.int (p : Int), Val.ref (adr p)) : Val × Val)).length by simp]
  refine dc_pair (fun i acc h' => h' = h ∧ acc = dk adr (ps.take i)) ⟨rfl, rfl⟩ (fun i acc h' _ I => by rw [I.1, w.ls, wT_pair]) ?_ ?_
  · rintro i pr acc h' hx ⟨rfl, rfl⟩
    obtain ⟨p, hp, rfl⟩ := map_inv hx
    have hi := list_get hp
    have pn := take_not w.nd hp
    simp [wipeE]
    refine ⟨by rw [dk_len, List.length_take]; omega, ?_⟩
    rw [dPut_dk pn, take_snoc hp]
  · rintro acc h' ⟨rfl, rfl⟩
    rw [List.length_map, List.take_length]
    exact ⟨rfl, rfl, rfl⟩
theorem pairs_ok {e : Nat} (he : 1 ≤ e) (w : Ws h a ps oth adr) {Q : Val → Mem → Prop} {X : XQ} (q : ∀ h', Gr h h' → h'[h.length]? = some (.dic (dk adr ps)) → Q (.ref h.length) h') : (callF Γ e "_law_pairs" [.ref a] h).W Q X := by
  obtain ⟨d, rfl⟩ : ∃ d, e = d + 1 := ⟨e - 1, by omega⟩
  have ls := sizeLine_eq
  have l16 := w.len
  rw [c__law_pairs]
  simp only [W_fin, s__law_pairs]
  have g1 := Gr.new h [Ob.dic []]
  have n1 := get_new h (Ob.dic [])
  simp
  generalize h ++ [Ob.dic []] = h1 at g1 n1
  have w1 := w.gr g1
  simp [w1.ls]
  rw [show ps.length = (ps.map (wT adr)).length by simp]
  refine for_lst (xs := ps.map (wT adr)) (fun i ρ h' => Gr h h' ∧ h'[h.length]? = some (.dic (dk adr (ps.take i))) ∧ ∃ y, ρ = [some (.ref a), some (.ref h.length), y]) ⟨g1, n1, _, rfl⟩ (fun i ρ h' _ I => Gr.get I.1 w.ls) ?_ ?_
  · rintro i x ρ h2 hx ⟨g2, n2, y, rfl⟩
    obtain ⟨p, hp, rfl⟩ := wT_get hx
    have hi := list_get hp
    have pn := take_not w.nd hp
    simp [n2]
    refine ⟨by rw [dk_len, List.length_take]; omega, Gr.later g2 (Nat.le_refl _) _, ?_⟩
    rw [dPut_dk pn, ← take_snoc hp]
    first | exact get_set n2 | (have := lt_of_get n2; simp [this])
  · rintro ρ h2 ⟨g2, n2, y, rfl⟩
    rw [List.length_map, List.take_length] at n2
    simp
    exact q h2 g2 n2
theorem filter_two {α : Type} (p : α → Bool) : ∀ l : List α, (l.filter p).length + (l.filter fun x => !p x).length = l.length
  | [] => rfl
  | x :: l => by
    have ih := filter_two p l
    cases h : p x <;> simp [h] <;> omega
def ne0 (oth : Nat → List Nat) (ps : List Nat) : List Nat := ps.filter fun p => !(oth p).isEmpty
def ring (oth : Nat → List Nat) (ps : List Nat) : List Nat := Q42.ringK oth (ne0 oth ps)
def srt (K : List Nat) : List Val := ((K.map fun i : Nat => (i : Int)).mergeSort (fun a b => decide (a ≤ b))).map .int
theorem ring_ok {e : Nat} (he : 1 ≤ e) (w : Ws h a ps oth adr) {Q : Val → Mem → Prop} {X : XQ} (q : ∀ (h' : Mem) (n : Nat), Gr h h' → h.length ≤ n → h'[n]? = some (.lst (srt (ring oth ps))) → Q (.ref n) h') : (callF Γ e "find_ring" [.ref a] h).W Q X := by
  obtain ⟨d, rfl⟩ : ∃ d, e = d + 1 := ⟨e - 1, by omega⟩
  have ls := sizeLine_eq
  have l16 := w.len
  rw [c_find_ring]
  simp only [W_fin, s_find_ring]
  rw [seqI]
  simp [w.ls]
  rw [show ps.length = (ps.map fun p : Nat => ((Val.int (p : Int), Val.ref (adr p)) : Val × Val)).length by simp]
  refine dc_pair (fun i acc h' => h' = h ∧ acc = dk adr (ne0 oth (ps.take i))) ⟨rfl, rfl⟩ (fun i acc h' _ I => by rw [I.1, w.ls, wT_pair]) ?_ ?_
  · rintro i pr acc h' hx ⟨rfl, rfl⟩
    obtain ⟨p, hp, rfl⟩ := map_inv hx
    have hi := list_get hp
    have pn := take_not w.nd hp
    have eo := w.at_ p (List.mem_of_getElem? hp)
    have pn2 : p ∉ ne0 oth (ps.take i) := fun z => pn (List.mem_filter.mp z).1
    have lt : (ne0 oth (ps.take i)).length ≤ 16 := Nat.le_trans (List.length_filter_le _ _) (by rw [List.length_take]; omega)
    have sn : ne0 oth (ps.take (i + 1)) = if (oth p).isEmpty then ne0 oth (ps.take i) else ne0 oth (ps.take i) ++ [p] := by
      unfold ne0
      rw [take_snoc hp, List.filter_append]
      cases ho : (oth p).isEmpty <;> simp [ho]
    rw [sn]
    cases ho : oth p with
    | nil => simp [wipeE, eo, ho, nI]
    | cons y ys =>
      simp [wipeE, eo, ho, nI]
      exact ⟨by rw [dk_len]; omega, dPut_dk pn2⟩
  · rintro acc h1 ⟨rfl, rfl⟩
    rw [List.length_map, List.take_length]
    have n2 := get_new h1 (Ob.dic (dk adr (ne0 oth ps)))
    have g2 := Gr.new h1 [Ob.dic (dk adr (ne0 oth ps))]
    generalize h1 ++ [Ob.dic (dk adr (ne0 oth ps))] = h2 at n2 g2
    rw [FwI_iff, seqI]
    simp
    rw [FwI_iff, seqI]
    have subs : ∀ {K : List Nat}, K.Sublist (ne0 oth ps) → ∀ p ∈ K, p ∈ ps := fun s p hp => (List.mem_filter.mp (s.subset hp)).1
    refine while_meas (fun n ρ h' => Gr h1 h' ∧ ∃ (K : List Nat) (b : Bool) (y2 y5 : Option Val), h'[h1.length]? = some (.dic (dk adr K)) ∧ K.Sublist (ne0 oth ps) ∧ Q42.ringK oth K = ring oth ps ∧ ((b = true ∧ n = K.length + 1) ∨ (b = false ∧ n = 0 ∧ Q42.nxt oth K = K)) ∧ ρ = [some (.ref a), some (.ref h1.length), y2, none, some (.bl b), y5, none]) ?_ ((ne0 oth ps).length + 1) _ _ _ ?_ ⟨g2, _, true, _, _, n2, List.Sublist.refl _, rfl, .inl ⟨rfl, rfl⟩, rfl⟩
    · rintro n ρ h3 ⟨g3, K, b, y2, y5, n3, sub, rk, hb, rfl⟩
      have w3 := w.gr g3
      have lK : K.length ≤ 16 := Nat.le_trans sub.length_le (Nat.le_trans (List.length_filter_le _ _) (by omega))
      rcases hb with ⟨rfl, rfl⟩ | ⟨rfl, rfl, st⟩
      · simp only [w_tE, w_eVar, List.getElem?_cons_zero, List.getElem?_cons_succ, optP_some, tru_bl]
        refine ⟨fun _ => ?_, nofun⟩
        generalize ePP : Po.mk _ _ _ _ _ = PP
        have hnx : ∀ (h' : Mem) (K' : List Nat) (b : Bool) (y2 y5 : Option Val), Gr h1 h' → h'[h1.length]? = some (.dic (dk adr K')) → K'.Sublist (ne0 oth ps) → Q42.ringK oth K' = ring oth ps → ((b = true ∧ K'.length < K.length) ∨ (b = false ∧ Q42.nxt oth K' = K')) → PP.nx [some (.ref a), some (.ref h1.length), y2, none, some (.bl b), y5, none] h' := by
          intro h' K' b y2 y5 g n s r hb
          rw [← ePP]
          rcases hb with ⟨rfl, l⟩ | ⟨rfl, f⟩
          · exact ⟨K'.length + 1, by omega, g, K', true, _, _, n, s, r, .inl ⟨rfl, rfl⟩, rfl⟩
          · exact ⟨0, by omega, g, K', false, _, _, n, s, r, .inr ⟨rfl, rfl, f⟩, rfl⟩
        clear ePP
        rw [seqI]
        -- the locked dict
        have nL := get_set (o := Ob.frd (dk adr K)) n3
        have gL : Gr h1 (h3.set h1.length (.frd (dk adr K))) := Gr.later g3 (Nat.le_refl _) _
        simp [n3]
        generalize h3.set h1.length (.frd (dk adr K)) = hL at nL gL
        simp [nL]
        refine lc_key (fun i acc h' => Gr hL h' ∧ acc = nI ((K.take i).filter fun p => !((oth p).all fun x => decide (x ∈ K)))) ⟨Fr.refl _ _, rfl⟩ (fun i acc h' _ I => Gr.get I.1 nL) ?_ ?_
        · rintro i kv acc h4 hkv ⟨g4, rfl⟩
          obtain ⟨p, hp, rfl⟩ := dk_get hkv
          have hi := list_get hp
          have hpK := List.mem_of_getElem? hp
          have n4 := Gr.get g4 nL
          have w4 := w.gr (Fr.trans gL g4)
          have eo := w4.at_ p (subs sub p hpK)
          have gp := dGet_dk adr p K
          rw [if_pos hpK] at gp
          have ol := w.ol p (subs sub p hpK)
          simp [wipeE, keyV, n4, gp, eo]
          refine lcm_lst (fun x => .bl (decide (x ∈ K))) eo (by omega) (fun x h5 hx g5 => ?_) fun h5 g5 => ?_
          · have n5 := Gr.get g5 n4
            have gx := dGet_dk adr x K
            have ex : (dGet (dk adr K) (Sum.inl (x : Int))).isSome = decide (x ∈ K) := by
              rw [gx]
              by_cases hm : x ∈ K <;> simp [hm]
            simp [n5, ex]
            exact g5
          · have bo : blsOf ((oth p).map fun x => Val.bl (decide (x ∈ K))) = some ((oth p).map fun x => decide (x ∈ K)) := by
              have := blsOf_map ((oth p).map fun x => decide (x ∈ K))
              rw [List.map_map] at this
              exact this
            have la : (((oth p).map fun x => decide (x ∈ K)).all id) = (oth p).all fun x => decide (x ∈ K) := by rw [List.all_map]; rfl
            refine ⟨by simp; omega, ?_⟩
            have g6 := Gr.new h5 [Ob.lst ((oth p).map fun x => Val.bl (decide (x ∈ K)))]
            rw [bo, optP_some]
            generalize h5 ++ [Ob.lst ((oth p).map fun x => Val.bl (decide (x ∈ K)))] = h6 at g6
            have g46 : Gr hL h6 := Fr.trans g4 (Fr.trans g5 g6)
            have fm : false ∈ ((oth p).map fun x => decide (x ∈ K)) ↔ ((oth p).all fun x => decide (x ∈ K)) = false := by
              rw [List.all_eq_false, List.mem_map]
              exact ⟨fun ⟨x, h1, h2⟩ => ⟨x, h1, by simp at h2 ⊢; exact h2⟩, fun ⟨x, h1, h2⟩ => ⟨x, h1, by simp at h2 ⊢; exact h2⟩⟩
            have lf : (nI ((K.take i).filter fun p => !((oth p).all fun x => decide (x ∈ K)))).length < sizeLine := by
              rw [nI_len]
              exact Nat.lt_of_le_of_lt (List.length_filter_le _ _) (by rw [List.length_take]; omega)
            rw [take_snoc hp, List.filter_append]
            cases hc : (oth p).all fun x => decide (x ∈ K) with
            | true =>
              rw [if_neg (by rw [fm, hc]; simp), List.filter_cons, hc]
              exact ⟨g46, by simp⟩
            | false =>
              rw [if_pos (fm.mpr hc), List.filter_cons, hc]
              refine ⟨lf, g46, ?_⟩
              simp only [Bool.not_false, if_true, List.filter_nil, nI_snoc]
        · rintro acc h4 ⟨g4, rfl⟩
          rw [dk_len, List.take_length]
          obtain ⟨gs, hgs⟩ : ∃ gs, gs = K.filter fun p => !((oth p).all fun x => decide (x ∈ K)) := ⟨_, rfl⟩
          have lgs : gs.length ≤ K.length := by rw [hgs]; exact List.length_filter_le _ _
          rw [← hgs]
          have n5 : (h4 ++ [Ob.lst (nI gs)])[h1.length]? = some (.frd (dk adr K)) := get_app _ (Gr.get g4 nL)
          have e5 := get_new h4 (Ob.lst (nI gs))
          have g5 : Gr h1 (h4 ++ [Ob.lst (nI gs)]) := Fr.trans gL (Fr.trans g4 (Gr.new _ _))
          have l4 := (Fr.trans gL g4).len
          have lt4 := lt_of_get (Gr.get g4 nL)
          refine ⟨by rw [nI_len]; omega, ?_⟩
          generalize h4 ++ [Ob.lst (nI gs)] = h5 at n5 e5 g5
          refine ⟨_, n5, ?_⟩
          have n6 := get_set (o := Ob.dic (dk adr K)) n5
          have e6 : (h5.set h1.length (.dic (dk adr K)))[h4.length]? = some (.lst (nI gs)) := get_set_ne e5 (by omega)
          have g6 : Gr h1 (h5.set h1.length (.dic (dk adr K))) := Gr.later g5 (Nat.le_refl _) _
          generalize h5.set h1.length (.dic (dk adr K)) = h6 at n6 e6 g6
          rw [FwI_iff, seqI]
          simp [e6]
          refine for_lst (xs := nI gs) (fun i ρ h' => Gr h1 h' ∧ h'[h4.length]? = some (.lst (nI gs)) ∧ h'[h1.length]? = some (.dic (dk adr (K.filter fun p => decide (p ∉ gs.take i)))) ∧ ∃ y2, ρ = [some (.ref a), some (.ref h1.length), y2, none, some (.bl true), some (.ref h4.length), none]) ⟨g6, e6, ?_, _, rfl⟩ (fun i ρ h' _ I => I.2.1) ?_ ?_
          · have : (K.filter fun p => decide (p ∉ gs.take 0)) = K := List.filter_eq_self.mpr fun _ _ => by simp
            rw [this]; exact n6
          · rintro i x ρ h7 hx ⟨g7, e7, n7, y2, rfl⟩
            obtain ⟨p, hp, rfl⟩ := map_inv hx
            have hpg := List.mem_of_getElem? hp
            have ndg : gs.Nodup := by
              rw [hgs]
              exact ((w.nd.filter _).sublist sub).filter _
            have pnot := take_not (ps := gs) ndg hp
            have hpK : p ∈ K := by rw [hgs] at hpg; exact (List.mem_filter.mp hpg).1
            have hpm : p ∈ K.filter fun p => decide (p ∉ gs.take i) := List.mem_filter.mpr ⟨hpK, by simpa using pnot⟩
            have gp := dGet_dk adr p (K.filter fun p => decide (p ∉ gs.take i))
            rw [if_pos hpm] at gp
            have ff : ((K.filter fun p => decide (p ∉ gs.take i)).filter fun q => decide (q ≠ p)) = K.filter fun q => decide (q ∉ gs.take (i + 1)) := by
              rw [List.filter_filter]
              apply List.filter_congr
              intro q _
              rw [take_snoc hp]
              by_cases e1 : q = p <;> by_cases e2 : q ∈ gs.take i <;> simp [e1, e2]
            generalize (K.filter fun p => decide (p ∉ gs.take i)) = K1 at n7 gp ff
            simp [n7, gp]
            rw [dDrop_dk, ff]
            refine ⟨Gr.later g7 (Nat.le_refl _) _, get_set_ne e7 (by omega), ?_⟩
            first | exact get_set n7 | (have := lt_of_get n7; simp [this])
          · rintro ρ h7 ⟨g7, e7, n7, y2, rfl⟩
            rw [nI_len, List.take_length] at n7
            have en : (K.filter fun p => decide (p ∉ gs)) = Q42.nxt oth K := by
              unfold Q42.nxt
              apply List.filter_congr
              intro q hq
              rw [hgs]
              have : (q ∉ K.filter fun p => !((oth p).all fun x => decide (x ∈ K))) ↔ ((oth q).all fun x => decide (x ∈ K)) = true := by
                rw [List.mem_filter]
                cases (oth q).all fun x => decide (x ∈ K) <;> simp [hq]
              by_cases hc : ((oth q).all fun x => decide (x ∈ K)) = true
              · rw [hc]; simp only [decide_eq_true_iff]; exact this.mpr hc
              · have h2 : ¬ (q ∉ K.filter fun p => !((oth p).all fun x => decide (x ∈ K))) := fun z => hc (this.mp z)
                rw [Bool.not_eq_true] at hc
                rw [hc]
                exact decide_eq_false h2
            rw [en] at n7
            have lens : (Q42.nxt oth K).length + gs.length = K.length := by
              rw [hgs]
              unfold Q42.nxt
              exact filter_two (fun p => (oth p).all fun x => decide (x ∈ K)) K
            simp only [w_sSkip]
            rw [FwI_iff]
            simp [e7, nI_len]
            by_cases hg : gs.length = 0
            · have hs : Q42.nxt oth K = K := Q42.nxt_eq (by omega)
              rw [hs] at n7
              have : decide (0 < gs.length) = false := decide_eq_false (by omega)
              rw [this]
              exact hnx h7 K false _ _ g7 n7 sub rk (.inr ⟨rfl, hs⟩)
            · have : decide (0 < gs.length) = true := decide_eq_true (by omega)
              rw [this]
              exact hnx h7 _ true _ _ g7 n7 (List.filter_sublist.trans sub) (by rw [Q42.ring_step (by omega)]; exact rk) (.inl ⟨rfl, by omega⟩)
      · have hK : K = ring oth ps := by rw [← rk, Q42.ring_self st]
        simp
        rw [FwI_iff]
        have ik : intsOf ((dk adr K).map fun kv => keyV kv.1) = some (K.map fun i : Nat => (i : Int)) := by
          have : ((dk adr K).map fun kv => keyV kv.1) = (K.map fun i : Nat => (i : Int)).map Val.int := by simp [dk, keyV]
          rw [this]; exact intsOf_map _
        have lk : (dk adr K).length < 64 := by rw [dk_len]; omega
        simp [n3, lk, ik]
        have := q (h3 ++ [Ob.lst (srt K)]) h3.length (Fr.trans g3 (Gr.new _ _)) g3.len (by rw [get_new, hK])
        refine ⟨by omega, ?_⟩
        unfold srt at this
        exact this
    · have : (ne0 oth ps).length ≤ 16 := Nat.le_trans (List.length_filter_le _ _) (by omega)
      unfold wFuel
      omega
end
end K40
set_option Elab.async false
set_option linter.all false
set_option maxRecDepth 100000
set_option maxHeartbeats 1000000
namespace K40
open Mp PySem L2
theorem sub_filter : ∀ {K ps : List Nat}, K.Sublist ps → ps.Nodup → (ps.filter fun p => decide (p ∈ K)) = K
  | [], ps, _, _ => List.filter_eq_nil_iff.mpr fun _ _ => by simp
  | k :: K, [], s, _ => by cases s
  | k :: K, q :: ps, s, nd => by
    have nd' := List.nodup_cons.mp nd
    cases s with
    | cons _ s' =>
      have hq : q ∉ k :: K := fun z => nd'.1 (s'.subset z)
      rw [List.filter_cons, if_neg (by simpa using hq)]
      exact sub_filter s' nd'.2
    | cons_cons _ s' =>
      rw [List.filter_cons, if_pos (by simp)]
      congr 1
      have : (ps.filter fun p => decide (p ∈ k :: K)) = ps.filter fun p => decide (p ∈ K) := by
        apply List.filter_congr
        intro x hx
        have : x ≠ k := fun z => nd'.1 (z ▸ hx)
        simp [this]
      rw [this]
      exact sub_filter s' nd'.2
theorem srt_in {h : Mem} {R : Nat} {K : List Nat} (p : Nat) (e : h[R]? = some (.lst (srt K))) (l : K.length < 1000) : cmpop .In h (.int (p : Nat)) (.ref R) = some (decide (p ∈ K)) := by
  unfold srt at e
  rw [in_ints _ e (by rw [List.length_mergeSort, List.length_map]; omega)]
  congr 1
  rw [decide_eq_decide, List.mem_mergeSort, mem_cast]
theorem srt_notin {h : Mem} {R : Nat} {K : List Nat} (p : Nat) (e : h[R]? = some (.lst (srt K))) (l : K.length < 1000) : cmpop .NotIn h (.int (p : Nat)) (.ref R) = some (decide (p ∉ K)) := by
  unfold srt at e
  rw [notin_ints _ e (by rw [List.length_mergeSort, List.length_map]; omega)]
  congr 1
  rw [← decide_not, decide_eq_decide, List.mem_mergeSort, mem_cast]
theorem srt_len (K : List Nat) : (srt K).length = K.length := by unfold srt; rw [List.length_map, List.length_mergeSort, List.length_map]
section
variable {h h' : Mem} {a : Nat} {ps : List Nat} {oth : Nat → List Nat} {adr : Nat → Nat}
theorem sort_nI {S : Nat} {os : List Nat} (e : h[S]? = some (.lst (nI os))) (l : os.length < 1000) : biRun .sorted [.ref S] h = .ok (.ref h.length) (h ++ [.lst (srt os)]) := by
  have ls := sizeLine_eq
  have sk : sortK h (.ref S) = some (os.map fun i : Nat => (i : Int)) := by rw [sortK_ref, e]; exact nI_of os
  rw [bi_sorted, sk]
  show newL (srt os) h = _
  unfold newL
  rw [if_pos (by rw [srt_len]; omega)]
end
end K40
set_option Elab.async false
set_option linter.all false
set_option maxRecDepth 100000
set_option maxHeartbeats 1000000
namespace K40
open Mp PySem L2
@[simp] theorem get_ne_pop : (Str.ofString "get" = Str.ofString "pop") = False := eq_false (by decide)
def ot (oth : Nat → List Nat) (ps : List Nat) (p : Nat) : List Nat := if p ∈ ps then oth p else []
section
variable {h h' : Mem} {a : Nat} {ps : List Nat} {oth : Nat → List Nat} {adr : Nat → Nat}
theorem get_ot (w : Ws h a ps oth adr) (p : Nat) (Z : Nat) (eZ : h[Z]? = some (.lst (nI []))) : ∃ r, (dGet (dk adr ps) (.inl (p : Int))).getD (.ref Z) = .ref r ∧ h[r]? = some (.lst (nI (ot oth ps p))) ∧ (ot oth ps p).length ≤ 16 := by
  rw [dGet_dk]
  unfold ot
  by_cases hp : p ∈ ps
  · rw [if_pos hp, if_pos hp]
    exact ⟨adr p, rfl, w.at_ p hp, w.ol p hp⟩
  · rw [if_neg hp, if_neg hp]
    exact ⟨Z, rfl, eZ, by simp⟩
theorem ring_in {p : Nat} (hp : p ∈ ring oth ps) : p ∈ ps ∧ oth p ≠ [] := by
  have := (Q42.ring_sub (oth := oth) (ne0 oth ps)).subset hp
  have := List.mem_filter.mp this
  exact ⟨this.1, by simpa using this.2⟩
theorem ring_len : (ring oth ps).length ≤ ps.length := Nat.le_trans (Q42.ring_sub (oth := oth) (ne0 oth ps)).length_le (List.length_filter_le _ _)
theorem Ws.sh (w : Ws h a ps oth adr) : Sh h 3 (.ref a) := .lst a _ w.ls (by rw [List.length_map]; have := w.len; omega) fun i x hx => by
  obtain ⟨p, hp, rfl⟩ := wT_get hx
  have hpm := List.mem_of_getElem? hp
  refine .tup _ (by simp) fun j y hy => ?_
  rcases j with _ | _ | j
  · cases hy; exact .int _
  · cases hy
    refine .lst _ _ (w.at_ p hpm) (by rw [nI_len]; have := w.ol p hpm; omega) fun k z hz => ?_
    obtain ⟨m, _, rfl⟩ := map_inv hz
    exact .int _
  · simp at hy
theorem Ws.alk (w : Ws h a ps oth adr) {n : Nat} {u : Val} (A : Alk h n (.ref a) u) : ∃ b adr', u = .ref b ∧ Ws h b ps oth adr' := by
  cases A with
  | lst _ b xs ys e1 e2 hl hs ka =>
    rw [w.ls] at e1
    cases e1
    have key : ∀ (i p : Nat), ps[i]? = some p → ∃ r : Nat, ys[i]? = some (Val.tup [Val.int (p : Nat), Val.ref r]) ∧ h[r]? = some (Ob.lst (nI (oth p))) := fun i p hp => by
      have hi := list_get hp
      have hiy : i < ys.length := by rw [← hl, List.length_map]; exact hi
      have A := ka i (wT adr p) ys[i] (by rw [List.getElem?_map, hp]; rfl) (by simp [hiy])
      generalize hy : ys[i] = y at A
      unfold wT at A
      cases A with
      | tup xs' zs hl2 hs2 kb =>
        rcases zs with _ | ⟨z0, _ | ⟨z1, _ | ⟨z2, r⟩⟩⟩
        · simp at hl2
        · simp at hl2
        · have B0 := kb 0 _ z0 rfl rfl
          have B1 := kb 1 _ z1 rfl rfl
          have eo := w.at_ p (List.mem_of_getElem? hp)
          rw [nI_ints] at eo
          obtain ⟨r, rfl, er⟩ := alk_row eo B1
          rw [← nI_ints] at er
          rw [alk_eq_int B0] at hy
          exact ⟨r, by rw [List.getElem?_eq_getElem hiy, hy], er⟩
        · simp at hl2
    have idx : ∀ p ∈ ps, ps[ps.idxOf p]? = some p := fun p hp => by
      have := List.idxOf_lt_length_of_mem hp
      rw [List.getElem?_eq_getElem this, List.getElem_idxOf]
    let adr' : Nat → Nat := fun p => match ys[ps.idxOf p]? with
      | some (.tup [_, .ref r]) => r
      | _ => 0
    have hadr : ∀ p ∈ ps, ∃ r : Nat, adr' p = r ∧ ys[ps.idxOf p]? = some (Val.tup [Val.int (p : Nat), Val.ref r]) ∧ h[r]? = some (Ob.lst (nI (oth p))) := fun p hp => by
      obtain ⟨r, q1, q2⟩ := key _ p (idx p hp)
      exact ⟨r, by show (match ys[ps.idxOf p]? with | some (.tup [_, .ref r]) => r | _ => 0) = r; rw [q1], q1, q2⟩
    refine ⟨b, adr', rfl, ?_, fun p hp => ?_, w.nd, w.len, w.lt, w.ol, w.ot, w.on⟩
    · rw [e2]
      congr 2
      apply List.ext_getElem?
      intro i
      rw [List.getElem?_map]
      cases hp : ps[i]? with
      | none =>
        have : ys.length ≤ i := by
          rw [← hl, List.length_map]
          exact List.getElem?_eq_none_iff.mp hp
        rw [List.getElem?_eq_none_iff.mpr this]
        rfl
      | some p =>
        have hpm := List.mem_of_getElem? hp
        obtain ⟨r, q1, q2, q3⟩ := hadr p hpm
        have : ps.idxOf p = i := Q42.idx_get w.nd hp
        rw [this] at q2
        rw [q2]
        show _ = some (Val.tup [.int (p : Nat), .ref (adr' p)])
        rw [q1]
    · obtain ⟨r, q1, q2, q3⟩ := hadr p hp
      rw [q1]; exact q3
theorem alk_nI {a b : Nat} {os : List Nat} (ea : h[a]? = some (.lst (nI os))) (eb : h[b]? = some (.lst (nI os))) (hl : os.length < 1000) (n : Nat) : Alk h (n + 1) (.ref a) (.ref b) := .lst a b _ _ ea eb rfl (by rw [nI_len]; omega) fun i x y e1 e2 => by
  rw [e1] at e2
  cases e2
  obtain ⟨j, _, rfl⟩ := map_inv e1
  exact .int _
theorem alk_srt {a b : Nat} {K : List Nat} (ea : h[a]? = some (.lst (srt K))) (eb : h[b]? = some (.lst (srt K))) (hl : K.length < 1000) (n : Nat) : Alk h (n + 1) (.ref a) (.ref b) := .lst a b _ _ ea eb rfl (by rw [srt_len]; omega) fun i x y e1 e2 => by
  rw [e1] at e2
  cases e2
  obtain ⟨j, _, rfl⟩ := map_inv e1
  exact .int _
theorem ot_lt (w : Ws h a ps oth adr) (p : Nat) : ∀ x ∈ ot oth ps p, x < 100 := fun x hx => by
  unfold ot at hx
  by_cases hp : p ∈ ps
  · rw [if_pos hp] at hx; exact w.ot p hp x hx
  · rw [if_neg hp] at hx; cases hx
theorem not2d {h : Mem} (st : St h) {a : Nat} {kvs : List (L2.Key × Val)} (e : h[a]? = some (.dic kvs)) : a ≠ 2 := by
  rintro rfl
  obtain ⟨ms, p, c, t, s, e2, e1, hp, hc⟩ := st.ex
  rw [e] at e2
  cases e2
end
end K40
set_option Elab.async false
set_option linter.all false
set_option maxRecDepth 100000
set_option maxHeartbeats 1000000
namespace K40
open Mp PySem L2
/-! ### the greatest closed set -/
def Closed (oth : Nat → List Nat) (ps V : List Nat) : Prop := ∀ p ∈ V, p ∈ ps ∧ oth p ≠ [] ∧ ∀ x ∈ oth p, x ∈ V
section
variable {oth : Nat → List Nat} {ps V : List Nat}
theorem closed_nxt (C : Closed oth ps V) {K : List Nat} (h : ∀ p ∈ V, p ∈ K) : ∀ p ∈ V, p ∈ Q42.nxt oth K := fun p hp => by
  unfold Q42.nxt
  refine List.mem_filter.mpr ⟨h p hp, List.all_eq_true.mpr fun x hx => decide_eq_true (h x ((C p hp).2.2 x hx))⟩
theorem closed_lim (C : Closed oth ps V) : ∀ (n : Nat) (K : List Nat), (∀ p ∈ V, p ∈ K) → ∀ p ∈ V, p ∈ Q42.lim oth n K
  | 0, K, h => h
  | n + 1, K, h => by
    unfold Q42.lim
    split
    · exact h
    · exact closed_lim C n _ (closed_nxt C h)
theorem closed_ring (C : Closed oth ps V) : ∀ p ∈ V, p ∈ ring oth ps := closed_lim C _ _ fun p hp => List.mem_filter.mpr ⟨(C p hp).1, by have := (C p hp).2.1; simpa using this⟩
theorem ring_closed : Closed oth ps (ring oth ps) := fun p hp => ⟨(ring_in hp).1, (ring_in hp).2, Q42.ring_oth hp⟩
theorem ring_less {pid : Nat} {oth' : Nat → List Nat} (h1 : oth' pid = []) (h2 : ∀ x, x ≠ pid → oth' x = oth x) : (∀ p ∈ ring oth' ps, p ∈ ring oth ps) ∧ pid ∉ ring oth' ps := by
  have hn : pid ∉ ring oth' ps := fun z => (ring_in z).2 h1
  refine ⟨closed_ring fun p hp => ?_, hn⟩
  have hne : p ≠ pid := fun e => hn (e ▸ hp)
  have c := ring_closed (oth := oth') (ps := ps) p hp
  rw [h2 p hne] at c
  exact c
theorem ring_self1 {pid : Nat} (hp : pid ∈ ps) (h1 : oth pid = [pid]) : pid ∈ ring oth ps := closed_ring (V := [pid]) (fun p hp' => by
  have : p = pid := by simpa using hp'
  subst this
  exact ⟨hp, by rw [h1]; simp, by rw [h1]; simp⟩) pid (by simp)
end
/-! ### plain data can be read -/
theorem rds_of {h : Mem} {P : PyData → Prop} {F : Nat} : ∀ (xs : List Val), (∀ x ∈ xs, ∀ k, F ≤ k → ∃ d, rd h k x = some d ∧ P d) → ∀ m, F + xs.length + 1 ≤ m → ∃ ds, rds h m xs = some ds ∧ ∀ d ∈ ds, P d
  | [], _, m, hm => by
    obtain ⟨k, rfl⟩ : ∃ k, m = k + 1 := ⟨m - 1, by simp at hm; omega⟩
    exact ⟨[], by simp [rds], nofun⟩
  | x :: xs, h, m, hm => by
    obtain ⟨k, rfl⟩ : ∃ k, m = k + 1 := ⟨m - 1, by simp at hm; omega⟩
    simp only [List.length_cons] at hm
    obtain ⟨d, e1, p1⟩ := h x (by simp) k (by omega)
    obtain ⟨ds, e2, p2⟩ := rds_of xs (fun y hy => h y (by simp [hy])) k (by omega)
    refine ⟨d :: ds, by simp only [rds, e1, e2], fun z hz => ?_⟩
    rcases List.mem_cons.mp hz with q | q
    · rw [q]; exact p1
    · exact p2 z q
theorem lay_all : ∀ {ds : List PyData} {n : Nat}, (∀ d ∈ ds, d.canLay0 = true ∧ d.depth ≤ n) → PyData.canLayAll0 ds = true ∧ PyData.depthAll ds ≤ n
  | [], n, _ => ⟨rfl, by simp [PyData.depthAll]⟩
  | d :: ds, n, h => by
    obtain ⟨h1, h2⟩ := h d (by simp)
    obtain ⟨h3, h4⟩ := lay_all (ds := ds) (n := n) fun x hx => h x (by simp [hx])
    exact ⟨by simp [PyData.canLayAll0, h1, h3], by simp [PyData.depthAll]; omega⟩
theorem rd_sh {h : Mem} {n : Nat} {v : Val} (S : Sh h n v) : ∀ m, 1002 * (n + 1) ≤ m → ∃ d, rd h m v = some d ∧ d.canLay0 = true ∧ d.depth ≤ n := by
  induction S with
  | non => intro m hm; obtain ⟨k, rfl⟩ : ∃ k, m = k + 1 := ⟨m - 1, by omega⟩; exact ⟨.none, rfl, rfl, by simp [PyData.depth]⟩
  | bl b => intro m hm; obtain ⟨k, rfl⟩ : ∃ k, m = k + 1 := ⟨m - 1, by omega⟩; exact ⟨.bool b, rfl, rfl, by simp [PyData.depth]⟩
  | int i => intro m hm; obtain ⟨k, rfl⟩ : ∃ k, m = k + 1 := ⟨m - 1, by omega⟩; exact ⟨.int i, rfl, rfl, by simp [PyData.depth]⟩
  | str x hx =>
    intro m hm
    obtain ⟨k, rfl⟩ : ∃ k, m = k + 1 := ⟨m - 1, by omega⟩
    exact ⟨.str x, rfl, SeqAt.canLay_of_shaped hx, by simp [PyData.depth]⟩
  | @tup n xs hs ha ih =>
    intro m hm
    obtain ⟨k, rfl⟩ : ∃ k, m = k + 1 := ⟨m - 1, by omega⟩
    obtain ⟨ds, e, p⟩ := rds_of (h := h) (P := fun d => d.canLay0 = true ∧ d.depth ≤ n) (F := 1002 * (n + 1)) xs (fun x hx j hj => by
      obtain ⟨i, hi⟩ := List.mem_iff_getElem?.mp hx
      obtain ⟨d, q1, q2, q3⟩ := ih i x hi j hj
      exact ⟨d, q1, q2, q3⟩) k (by omega)
    obtain ⟨l1, l2⟩ := lay_all p
    exact ⟨.tuple ds, by simp only [rd, e]; rfl, by simp only [PyData.canLay0]; exact l1, by simp only [PyData.depth]; omega⟩
  | @lst n a xs e1 hs ha ih =>
    intro m hm
    obtain ⟨k, rfl⟩ : ∃ k, m = k + 1 := ⟨m - 1, by omega⟩
    obtain ⟨ds, e, p⟩ := rds_of (h := h) (P := fun d => d.canLay0 = true ∧ d.depth ≤ n) (F := 1002 * (n + 1)) xs (fun x hx j hj => by
      obtain ⟨i, hi⟩ := List.mem_iff_getElem?.mp hx
      obtain ⟨d, q1, q2, q3⟩ := ih i x hi j hj
      exact ⟨d, q1, q2, q3⟩) k (by omega)
    obtain ⟨l1, l2⟩ := lay_all p
    exact ⟨.list ds, by simp only [rd, e1, e]; rfl, by simp only [PyData.canLay0]; exact l1, by simp only [PyData.depth]; omega⟩
theorem notin_some {h : Mem} {v : Nat} {xs : List Val} (S : Sh h 6 (.ref v)) (e : h[v]? = some (.lst xs)) (x : Int) : ∃ b, cmpop .NotIn h (.int x) (.ref v) = some b := by
  obtain ⟨d, q1, q2, q3⟩ := rd_sh S 20000 (by omega)
  have hs : rdS h (.ref v) = some d := by
    unfold rdS
    rw [q1]
    have : SeqAt.shaped d = true := by
      unfold SeqAt.shaped
      rw [q2]
      simp
      omega
    simp only [this, if_true]
  have hd : ∃ ds, d = .list ds := by
    have q1' : rd h 20000 (.ref v) = some d := q1
    rw [show (20000 : Nat) = 19999 + 1 from rfl] at q1'
    simp only [rd, e] at q1'
    cases hr : rds h 19999 xs with
    | none => rw [hr] at q1'; cases q1'
    | some ds => rw [hr] at q1'; exact ⟨ds, (Option.some.inj q1').symm⟩
  obtain ⟨ds, rfl⟩ := hd
  refine ⟨!(ds.any fun z => PyData.eqv z (.int x)), ?_⟩
  show (inOp h (.int x) (.ref v)).map _ = _
  simp only [inOp, e, rdS_int, hs]
  rfl
/-! ### rings, judged -/
def ringB (oth : Nat → List Nat) (ps os : List Nat) : Bool := os.all fun p => !(ot oth ps p).isEmpty && (ot oth ps p).all fun x => decide (x ∈ os)
def ringV (oth : Nat → List Nat) (ps : List Nat) (xs : List Val) : Bool := distB 99 xs && !xs.isEmpty && ringB oth ps (natsOf xs)
section
variable {h h' : Mem} {a : Nat} {ps : List Nat} {oth : Nat → List Nat} {adr : Nat → Nat}
theorem ringV_yes {os : List Nat} (nd : os.Nodup) (lt : ∀ x ∈ os, x < 100) (h0 : os ≠ []) : ringV oth ps (nI os) = ringB oth ps os := by
  unfold ringV
  have : distB 99 (nI os) = true := distB_of (n := 100) nd lt
  rw [this, natsOf_nI]
  cases os with
  | nil => exact absurd rfl h0
  | cons x r => simp [nI]
theorem ringV_no {xs : List Val} (h : ¬ (distB 99 xs = true ∧ xs ≠ [])) : ringV oth ps xs = false := by
  unfold ringV
  cases h1 : distB 99 xs with
  | false => rfl
  | true =>
    have : xs = [] := Classical.byContradiction fun z => h ⟨h1, z⟩
    simp [this]
theorem ringV_d (xs : List Val) (h : distB ((100 : Nat) - 1 : Int) xs = false) : ringV oth ps xs = false := by
  unfold ringV
  rw [show distB 99 xs = false from h]
  rfl
theorem ringB_closed {os : List Nat} (h : ringB oth ps os = true) : Closed oth ps os := fun p hp => by
  unfold ringB at h
  have := List.all_eq_true.mp h p hp
  rw [Bool.and_eq_true] at this
  obtain ⟨h1, h2⟩ := this
  have h1 : ot oth ps p ≠ [] := by simpa using h1
  have hpp : p ∈ ps := by
    by_cases hp : p ∈ ps
    · exact hp
    · unfold ot at h1; rw [if_neg hp] at h1; exact absurd rfl h1
  have eo : ot oth ps p = oth p := by unfold ot; rw [if_pos hpp]
  rw [eo] at h1 h2
  refine ⟨hpp, h1, fun x hx => ?_⟩
  have := List.all_eq_true.mp h2 x hx
  simpa using this
theorem is_ring_no {e : Nat} (he : 2 ≤ e) {v u : Val} (t : Ty h v) (nl : ∀ n, v ≠ .ref n) : callF Γ e "is_ring" [v, u] h = .ok (.bl false) h := by
  obtain ⟨d, rfl⟩ : ∃ d, e = d + 1 := ⟨e - 1, by omega⟩
  rw [c_is_ring]
  refine W_eq ?_
  simp only [W_fin, s_is_ring]
  simp [distinct_no (e := d) (by omega) t nl]
theorem is_ring_list {e : Nat} (he : 3 ≤ e) (w : Ws h a ps oth adr) {v : Nat} {xs : List Val} (hx : h[v]? = some (.lst xs)) (hl : xs.length < 1000) (ty : ∀ x ∈ xs, Ty h x) {Q : Val → Mem → Prop} {X : XQ}
    (q : ∀ h', Gr h h' → Q (.bl (ringV oth ps xs)) h') : (callF Γ e "is_ring" [.ref v, .ref a] h).W Q X := by
  obtain ⟨d, rfl⟩ : ∃ d, e = d + 1 := ⟨e - 1, by omega⟩
  have ls := sizeLine_eq
  rw [c_is_ring]
  simp only [W_fin, s_is_ring]
  rw [seqI]
  simp
  refine distinct_ok (by omega) hx hl ty _ fun h1 g1 => ?_
  have x1 := Gr.get g1 hx
  have w1 := w.gr g1
  cases hd : distB 99 xs with
  | false =>
    simp
    have := q h1 g1
    rwa [ringV_no (by rw [hd]; simp)] at this
  | true =>
    obtain ⟨os, rfl, nd, lt⟩ := os_of (n := 100) hd
    simp [x1]
    refine ⟨fun hne => ?_, fun hne => ?_⟩
    · have := q h1 g1
      rwa [ringV_no (fun z => z.2 hne)] at this
    have hne' : os ≠ [] := fun z => hne (by rw [z]; rfl)
    have lo : os.length < 1000 := by rw [← nI_len]; exact hl
    rw [ringV_yes nd lt hne'] at q
    rw [FwI_iff, seqI]
    simp
    rw [obp_ok (by omega) w1]
    have t2 := get_new h1 (Ob.dic (dk adr ps))
    have g2 : Gr h (h1 ++ [Ob.dic (dk adr ps)]) := Fr.trans g1 (Gr.new _ _)
    have x2 : (h1 ++ [Ob.dic (dk adr ps)])[v]? = some (.lst (nI os)) := get_app _ x1
    simp
    generalize h1 ++ [Ob.dic (dk adr ps)] = h2 at t2 g2 x2
    rw [FwI_iff, seqI]
    simp [x2]
    refine for_lst (xs := nI os) (fun i ρ h' => Gr h2 h' ∧ ((os.take i).all fun p => !(ot oth ps p).isEmpty && (ot oth ps p).all fun x => decide (x ∈ os)) = true ∧ ∃ y3 y4, ρ = [some (.ref v), some (.ref a), some (.ref h1.length), y3, y4, none]) ⟨Fr.refl _ _, rfl, _, _, rfl⟩ (fun i ρ h' _ I => Gr.get I.1 x2) ?_ ?_
    · rintro i x ρ h3 hx3 ⟨g3, hall, y3, y4, rfl⟩
      obtain ⟨p, hp, rfl⟩ := map_inv hx3
      have hpm := List.mem_of_getElem? hp
      generalize ePP : Po.mk _ _ _ _ _ = PP
      have hnx : ∀ (h' : Mem) (y3 y4 : Option Val), Gr h2 h' → (!(ot oth ps p).isEmpty && (ot oth ps p).all fun x => decide (x ∈ os)) = true → PP.nx [some (.ref v), some (.ref a), some (.ref h1.length), y3, y4, none] h' := by
        intro h' y3 y4 g hh
        rw [← ePP]
        refine ⟨g, ?_, _, _, rfl⟩
        rw [take_snoc hp, List.all_append, hall]
        simpa using hh
      have hrt : ∀ (h' : Mem), Gr h2 h' → (!(ot oth ps p).isEmpty && (ot oth ps p).all fun x => decide (x ∈ os)) = false → PP.rt (.bl false) h' := by
        intro h' g hh
        rw [← ePP]
        show Q _ _
        have := q h' (Fr.trans g2 g)
        have rf : ringB oth ps os = false := by
          unfold ringB
          rw [List.all_eq_false]
          exact ⟨p, hpm, by rw [hh]; simp⟩
        rwa [rf] at this
      clear ePP
      have t3 := Gr.get g3 t2
      have x3 := Gr.get g3 x2
      have n4 := get_new h3 (Ob.lst (nI []))
      have g4 := Gr.new h3 [Ob.lst (nI [])]
      have en : nI [] = [] := rfl
      have t4 := Gr.get g4 t3
      have x4 := Gr.get g4 x3
      obtain ⟨r, er, h4r, l4⟩ := get_ot (w := (w.gr (Fr.trans g2 (Fr.trans g3 g4)))) p h3.length n4
      rw [en] at g4 t4 h4r x4
      rw [seqI]
      simp [t3]
      generalize h3 ++ [Ob.lst []] = h4 at g4 t4 h4r x4
      try rw [t4]
      try simp only [W_ok]
      rw [er]
      have g24 := Fr.trans g3 g4
      generalize hO : ot oth ps p = O at h4r l4 hnx hrt
      rw [FwI_iff, seqI]
      cases O with
      | nil =>
        simp [h4r, nI]
        exact hrt h4 g24 (by simp)
      | cons o1 O =>
        have hne4 : nI (o1 :: O) ≠ [] := by simp [nI]
        simp [h4r, hne4]
        rw [FwI_iff]
        simp [h4r]
        refine lcm_lst (fun x => .bl (decide (x ∈ os))) h4r (by omega) (fun x h5 hx5 g5 => ?_) fun h5 g5 => ?_
        · have x5 := Gr.get g5 x4
          have ix := in_nI x x5 (by omega)
          simp [wipeE, x5, ix]
          exact g5
        · have bo : blsOf ((o1 :: O).map fun x => Val.bl (decide (x ∈ os))) = some ((o1 :: O).map fun x => decide (x ∈ os)) := by
            have := blsOf_map ((o1 :: O).map fun x => decide (x ∈ os))
            rw [List.map_map] at this
            exact this
          refine ⟨by rw [List.length_map]; omega, ?_⟩
          have g6 := Gr.new h5 [Ob.lst ((o1 :: O).map fun x => Val.bl (decide (x ∈ os)))]
          rw [bo, optP_some]
          generalize h5 ++ [Ob.lst ((o1 :: O).map fun x => Val.bl (decide (x ∈ os)))] = h6 at g6
          have g26 := Fr.trans g24 (Fr.trans g5 g6)
          have fm : false ∈ ((o1 :: O).map fun x => decide (x ∈ os)) ↔ ((o1 :: O).all fun x => decide (x ∈ os)) = false := by
            rw [List.all_eq_false, List.mem_map]
            exact ⟨fun ⟨x, h1, h2⟩ => ⟨x, h1, by simp at h2 ⊢; exact h2⟩, fun ⟨x, h1, h2⟩ => ⟨x, h1, by simp at h2 ⊢; exact h2⟩⟩
          refine ⟨fun hf => hrt h6 g26 (by rw [fm.mp hf]; simp), fun hf => hnx h6 _ _ g26 ?_⟩
          cases hc : (o1 :: O).all fun x => decide (x ∈ os) with
          | true => rfl
          | false => exact absurd (fm.mpr hc) hf
    · rintro ρ h3 ⟨g3, hall, y3, y4, rfl⟩
      rw [nI_len, List.take_length] at hall
      simp only [w_sSkip]
      rw [FwI_iff]
      simp
      have := q h3 (Fr.trans g2 g3)
      have rt : ringB oth ps os = true := hall
      rwa [rt] at this
end
end K40
set_option Elab.async false
set_option linter.all false
set_option maxRecDepth 100000
set_option maxHeartbeats 1000000
namespace K40
open Mp PySem L2
section
variable {h h' : Mem} {a : Nat} {ps : List Nat} {oth : Nat → List Nat} {adr : Nat → Nat}
def nin (zs : List Nat) (x : Nat) : Bool := decide (x ∉ zs)
def okP (oth : Nat → List Nat) (ps os : List Nat) (p : Nat) : Bool := !(ot oth ps p).isEmpty && (ot oth ps p).all fun x => decide (x ∈ os)
theorem ringV_f {xs : List Val} (hh : ∀ os, xs = nI os → ∃ p ∈ os, okP oth ps os p = false) : ringV oth ps xs = false := by
  cases hd : distB 99 xs with
  | false => exact ringV_no (by rw [hd]; simp)
  | true =>
    obtain ⟨os, rfl, nd, lt⟩ := os_of (n := 100) hd
    obtain ⟨p, hp, hf⟩ := hh os rfl
    have hne : os ≠ [] := fun z => by rw [z] at hp; cases hp
    rw [ringV_yes nd lt hne]
    unfold ringB
    rw [List.all_eq_false]
    exact ⟨p, hp, by unfold okP at hf; rw [hf]; simp⟩
theorem lir_no {e : Nat} (he : 2 ≤ e) {v u : Val} (t : Ty h v) (nl : ∀ n, v ≠ .ref n) : callF Γ e "_law_is_ring" [v, u] h = .ok (.bl false) h := by
  obtain ⟨d, rfl⟩ : ∃ d, e = d + 1 := ⟨e - 1, by omega⟩
  rw [c__law_is_ring]
  refine W_eq ?_
  simp only [W_fin, s__law_is_ring]
  cases t with
  | lst n xs e => exact absurd rfl (nl n)
  | _ => simp [subTy]
theorem lir_list {e : Nat} (he : 3 ≤ e) (w : Ws h a ps oth adr) {v : Nat} {xs : List Val} (hx : h[v]? = some (.lst xs)) (hl : xs.length < 1000) (ty : ∀ x ∈ xs, Ty h x) (S : Sh h 6 (.ref v)) {Q : Val → Mem → Prop} {X : XQ}
    (q : ∀ h', Gr h h' → Q (.bl (ringV oth ps xs)) h') : (callF Γ e "_law_is_ring" [.ref v, .ref a] h).W Q X := by
  obtain ⟨d, rfl⟩ : ∃ d, e = d + 1 := ⟨e - 1, by omega⟩
  have ls := sizeLine_eq
  rw [c__law_is_ring]
  simp only [W_fin, s__law_is_ring]
  rw [seqI]
  simp [subTy, hx]
  refine ⟨fun hne => ?_, fun hne => ?_⟩
  · have := q h (Fr.refl _ _)
    rwa [ringV_no (fun z => z.2 (by first | exact hne | exact List.eq_nil_of_length_eq_zero hne))] at this
  have hne : xs ≠ [] := fun z => hne (by rw [z])
  rw [FwI_iff, seqI]
  simp
  refine pairs_ok (by omega) w fun h1 g1 t1 => ?_
  have x1 := Gr.get g1 hx
  rw [FwI_iff, seqI]
  simp [x1]
  refine ⟨by unfold small62; simp; omega, ?_⟩
  refine for_rng (fun i ρ h' => Gr h1 h' ∧ ∃ os y3, xs.take i = nI os ∧ os.Nodup ∧ (∀ x ∈ os, x < 100) ∧ (∀ p ∈ os, ∀ zs, xs = nI zs → okP oth ps zs p = true) ∧ ρ = [some (.ref v), some (.ref a), some (.ref h.length), y3, none]) ⟨Fr.refl _ _, [], _, rfl, List.nodup_nil, nofun, nofun, rfl⟩ ?_ ?_
  · rintro i ρ h2 hi ⟨g2, os, y3, et, nd, lt, hok, rfl⟩
    have x2 := Gr.get g2 x1
    have t2 := Gr.get g2 t1
    obtain ⟨x, hxi⟩ : ∃ x, xs[i]? = some x := ⟨xs[i], by simp [hi]⟩
    have tx := (ty x (List.mem_of_getElem? hxi)).gr (Fr.trans g1 g2)
    have ai : atI xs (i : Int) = some x := by rw [Mp.atI_nat, hxi]
    have ol : os.length = i := by
      have := congrArg List.length et
      rw [nI_len, List.length_take] at this
      omega
    rw [show (0 : Int) + (i : Nat) = (i : Int) by omega]
    generalize ePP : Po.mk _ _ _ _ _ = PP
    have hrt : ∀ (h' : Mem), Gr h1 h' → ringV oth ps xs = false → PP.rt (.bl false) h' := by
      intro h' g hf
      rw [← ePP]
      show Q _ _
      have := q h' (Fr.trans g1 g)
      rwa [hf] at this
    have hnx : ∀ (h' : Mem) (os' : List Nat) (y3 : Option Val), Gr h1 h' → xs.take (i + 1) = nI os' → os'.Nodup → (∀ x ∈ os', x < 100) → (∀ p ∈ os', ∀ zs, xs = nI zs → okP oth ps zs p = true) → PP.nx [some (.ref v), some (.ref a), some (.ref h.length), y3, none] h' := by
      intro h' os' y3 g e1 e2 e3 e4
      rw [← ePP]
      exact ⟨g, os', _, e1, e2, e3, e4, rfl⟩
    clear ePP
    have io := integer_ok (e := d) (by omega) tx 99
    rcases dist_step (n := 100) hxi et nd lt with ⟨r0, d0⟩ | ⟨wd, r1, rfl, wl, d1, d2⟩
    · have r0 : inR 99 x = false := r0
      rw [r0] at io
      rw [seqI]
      simp [x2, ai, io]
      exact hrt h2 g2 (ringV_d xs d0)
    · have r1 : inR 99 (.int (wd : Int)) = true := r1
      rw [r1] at io
      rw [seqI]
      have n4 := get_new h2 (Ob.lst (nI os))
      have g4 := Gr.new h2 [Ob.lst (nI os)]
      simp [x2, ai, io, cut_take, et]
      generalize h2 ++ [Ob.lst (nI os)] = h4 at n4 g4
      refine ⟨by rw [nI_len]; omega, ?_⟩
      have inn := in_nI wd n4 (by omega)
      have x4 := Gr.get g4 x2
      have t4 := Gr.get g4 t2
      simp [n4, inn, x4, ai, t4]
      refine ⟨fun hm => hrt h4 (Fr.trans g2 g4) (ringV_d xs (d1 hm)), fun hm => ?_⟩
      obtain ⟨e1, e2, e3⟩ := d2 hm
      have n5 := get_new h4 (Ob.lst (nI []))
      have g5 := Gr.new h4 [Ob.lst (nI [])]
      have en : nI [] = [] := rfl
      have t5 := Gr.get g5 t4
      have x5 := Gr.get g5 x4
      obtain ⟨r, er, h5r, l5⟩ := get_ot (w := (w.gr (Fr.trans g1 (Fr.trans g2 (Fr.trans g4 g5))))) wd h4.length n5
      rw [en] at g5 t5 h5r x5
      generalize h4 ++ [Ob.lst []] = h5 at g5 t5 h5r x5
      rw [t5]
      simp only [W_ok]
      rw [er]
      simp [h5r]
      have g15 : Gr h1 h5 := Fr.trans g2 (Fr.trans g4 g5)
      have memz : ∀ zs, xs = nI zs → wd ∈ zs := fun zs hz => by
        have := List.mem_of_getElem? hxi
        rw [hz] at this
        obtain ⟨m, hm2, em⟩ := List.mem_map.mp this
        have : (m : Int) = (wd : Int) := by simpa using em
        rw [show wd = m by omega]; exact hm2
      refine ⟨fun hnil => ?_, fun hnn => ?_⟩
      · refine hrt h5 g15 (ringV_f fun zs hz => ⟨wd, memz zs hz, ?_⟩)
        have : ot oth ps wd = [] := by
          cases ho : ot oth ps wd with
          | nil => rfl
          | cons y ys => rw [ho] at hnil; simp [nI] at hnil
        unfold okP
        rw [this]
        rfl
      · have hpp : wd ∈ ps := by
          by_cases hp : wd ∈ ps
          · exact hp
          · exfalso
            apply hnn
            unfold ot
            rw [if_neg hp]
            rfl
        have eo : ot oth ps wd = oth wd := by unfold ot; rw [if_pos hpp]
        have gp := dGet_dk adr wd ps
        rw [if_pos hpp] at gp
        have w5 := w.gr (Fr.trans g1 g15)
        have ewd := w5.at_ wd hpp
        have lwd := w.ol wd hpp
        rw [FwI_iff]
        simp [t5, x5, ai, gp, ewd]
        refine lc_lst (fun j acc h' => Gr h5 h' ∧ acc.length ≤ j ∧ ∀ zs, xs = nI zs → acc = nI (((oth wd).take j).filter (nin zs))) ⟨Fr.refl _ _, by simp, fun _ _ => rfl⟩ (fun j acc h' _ I => Gr.get I.1 ewd) ?_ ?_
        · rintro j y acc h6 hy ⟨g6, la, hz⟩
          obtain ⟨z, hzj, rfl⟩ := map_inv hy
          have hj := list_get hzj
          have x6 := Gr.get g6 x5
          obtain ⟨b, hb⟩ := notin_some (S.gr (Fr.trans g1 (Fr.trans g15 g6))) x6 (z : Int)
          have hbz : ∀ zs, xs = nI zs → b = nin zs z := fun zs e => by
            have x6' := x6
            rw [e] at x6'
            have := notin_nI z x6' (by rw [← nI_len, ← e]; omega)
            rw [hb] at this
            exact Option.some.inj this
          simp [wipeE, x6, hb]
          cases b with
          | true =>
            rw [if_pos rfl]
            refine ⟨by omega, g6, by first | omega | (simp; omega), fun zs e => ?_⟩
            have := hbz zs e
            rw [hz zs e, take_snoc hzj, List.filter_append, List.filter_cons, ← this, if_pos rfl, List.filter_nil, nI_snoc]
          | false =>
            simp only [Bool.false_eq_true, if_false]
            refine ⟨g6, by omega, fun zs e => ?_⟩
            have := hbz zs e
            rw [hz zs e, take_snoc hzj, List.filter_append, List.filter_cons, ← this]
            simp
        · rintro acc h6 ⟨g6, la, hz⟩
          rw [nI_len] at la hz
          have n7 := get_new h6 (Ob.lst acc)
          have g7 : Gr h1 (h6 ++ [Ob.lst acc]) := Fr.trans g15 (Fr.trans g6 (Gr.new _ _))
          refine ⟨by omega, ?_⟩
          try simp
          generalize h6 ++ [Ob.lst acc] = h7 at n7 g7
          refine ⟨fun hpos => hrt h7 g7 (ringV_f fun zs e => ⟨wd, memz zs e, ?_⟩), fun hnil => hnx h7 _ _ g7 e1 e2 (fun x hx => e3 x hx) fun p hp zs e => ?_⟩
          · have := hz zs e
            rw [List.take_length] at this
            unfold okP
            rw [eo]
            have : ((oth wd).all fun x => decide (x ∈ zs)) = false := by
              rw [List.all_eq_false]
              have hne : (oth wd).filter (nin zs) ≠ [] := fun z => by rw [this, z] at hpos; simp [nI] at hpos
              obtain ⟨y, hy⟩ := List.exists_mem_of_ne_nil _ hne
              have := List.mem_filter.mp hy
              exact ⟨y, this.1, by have := this.2; unfold nin at this; simpa using this⟩
            rw [this]
            simp
          · rcases List.mem_append.mp hp with hp | hp
            · exact hok p hp zs e
            · rw [show p = wd by simpa using hp]
              have := hz zs e
              rw [List.take_length] at this
              unfold okP
              rw [eo]
              have h1 : ((oth wd).all fun x => decide (x ∈ zs)) = true := by
                rw [List.all_eq_true]
                intro y hy
                by_cases hyz : y ∈ zs
                · simpa using hyz
                · exfalso
                  have hm2 : y ∈ (oth wd).filter (nin zs) := List.mem_filter.mpr ⟨hy, by unfold nin; simpa using hyz⟩
                  have : acc ≠ [] := fun z => by
                    rw [this] at z
                    have : (oth wd).filter (nin zs) = [] := by
                      cases hf : (oth wd).filter (nin zs) with
                      | nil => rfl
                      | cons y ys => rw [hf] at z; simp [nI] at z
                    rw [this] at hm2
                    cases hm2
                  exact this (by first | exact hnil | simpa using hnil)
              have h2 : (oth wd).isEmpty = false := by
                cases ho : oth wd with
                | nil => rw [eo, ho] at hnn; exact absurd rfl hnn
                | cons y ys => rfl
              rw [h1, h2]
              rfl
  · rintro ρ h2 ⟨g2, os, y3, et, nd, lt, hok, rfl⟩
    rw [List.take_length] at et
    subst et
    have hne' : os ≠ [] := fun z => hne (by rw [z]; rfl)
    simp only [w_sSkip]
    rw [FwI_iff]
    simp
    have := q h2 (Fr.trans g1 g2)
    have rt : ringB oth ps os = true := by
      unfold ringB
      rw [List.all_eq_true]
      intro p hp
      exact hok p hp os rfl
    rwa [ringV_yes nd lt hne', rt] at this
end
end K40
set_option Elab.async false
set_option linter.all false
set_option maxRecDepth 100000
set_option maxHeartbeats 1000000
namespace K40
open Mp PySem L2
theorem sxt : ∀ {l m : List Nat}, l.Pairwise (· < ·) → m.Pairwise (· < ·) → (∀ x, x ∈ l ↔ x ∈ m) → l = m
  | [], [], _, _, _ => rfl
  | [], y :: m, _, _, h => absurd ((h y).mpr (by simp)) (by simp)
  | x :: l, [], _, _, h => absurd ((h x).mp (by simp)) (by simp)
  | x :: l, y :: m, h1, h2, h => by
    rw [List.pairwise_cons] at h1 h2
    have a1 := (h x).mp (by simp)
    have a2 := (h y).mpr (by simp)
    have e : x = y := by
      rcases List.mem_cons.mp a1 with q | q
      · exact q
      · rcases List.mem_cons.mp a2 with q' | q'
        · exact q'.symm
        · have := h2.1 x q; have := h1.1 y q'; omega
    subst e
    rw [sxt h1.2 h2.2 fun z => ⟨fun hz => ?_, fun hz => ?_⟩]
    · rcases List.mem_cons.mp ((h z).mp (by simp [hz])) with q | q
      · have := h1.1 z hz; omega
      · exact q
    · rcases List.mem_cons.mp ((h z).mpr (by simp [hz])) with q | q
      · have := h2.1 z hz; omega
      · exact q
def flat (oth : Nat → List Nat) (l : List Nat) : List Nat := l.flatMap fun p => p :: oth p
/-- the pids that occur, in order -/
def occL (oth : Nat → List Nat) (ps : List Nat) : List Nat := (List.range 100).filter fun x => decide (x ∈ flat oth ps)
section
variable {oth : Nat → List Nat} {ps : List Nat}
theorem occL_pw : (occL oth ps).Pairwise (· < ·) := (List.pairwise_lt_range).filter _
theorem occL_lt : ∀ x ∈ occL oth ps, x < 100 := fun x hx => List.mem_range.mp (List.mem_filter.mp hx).1
theorem occL_len : (occL oth ps).length ≤ 100 := Nat.le_trans (List.length_filter_le _ _) (by simp)
theorem occL_mem (lt : ∀ x ∈ flat oth ps, x < 100) {x : Nat} : x ∈ occL oth ps ↔ x ∈ flat oth ps := by
  unfold occL
  rw [List.mem_filter]
  simp
  exact lt x
theorem mem_flat {x : Nat} : x ∈ flat oth ps ↔ ∃ p ∈ ps, x = p ∨ x ∈ oth p := by
  unfold flat
  rw [List.mem_flatMap]
  simp
theorem flat_lt {h : Mem} {a : Nat} {adr : Nat → Nat} (w : Ws h a ps oth adr) : ∀ x ∈ flat oth ps, x < 100 := fun x hx => by
  obtain ⟨p, hp, q⟩ := mem_flat.mp hx
  rcases q with q | q
  · rw [q]; exact w.lt p hp
  · exact w.ot p hp x q
/-- may go, when those of done have gone -/
def bel (oth : Nat → List Nat) (ps done : List Nat) (x : Nat) : Bool := (ot oth ps x).isEmpty || (ot oth ps x).any fun y => decide (y ∈ done)
def able (oth : Nat → List Nat) (ps done : List Nat) : List Nat := (occL oth ps).filter fun x => decide (x ∉ done) && bel oth ps done x
theorem bel_iff {done : List Nat} {x : Nat} : bel oth ps done x = true ↔ ot oth ps x = [] ∨ ∃ y ∈ ot oth ps x, y ∈ done := by
  unfold bel
  simp
theorem able_iff {done : List Nat} {x : Nat} : x ∈ able oth ps done ↔ x ∈ occL oth ps ∧ x ∉ done ∧ (ot oth ps x = [] ∨ ∃ y ∈ ot oth ps x, y ∈ done) := by
  unfold able
  rw [List.mem_filter, Bool.and_eq_true, bel_iff]
  simp
theorem head_min : ∀ {l : List Nat}, l.Pairwise (· < ·) → ∀ {m : Nat}, m ∈ l → (∀ x ∈ l, m ≤ x) → l.head? = some m
  | [], _, m, hm, _ => by cases hm
  | x :: l, h, m, hm, hl => by
    rw [List.pairwise_cons] at h
    rcases List.mem_cons.mp hm with q | q
    · rw [q]; rfl
    · have := h.1 m q; have := hl x (by simp); omega
/-- the run of the least -/
def Run (oth : Nat → List Nat) (ps od : List Nat) : Prop := ∀ i, i < od.length → (able oth ps (od.take i)).head? = od[i]?
theorem Run.snoc {od : List Nat} (r : Run oth ps od) {m : Nat} (h : (able oth ps od).head? = some m) : Run oth ps (od ++ [m]) := fun i hi => by
  rw [List.length_append] at hi
  simp only [List.length_singleton] at hi
  by_cases q : i < od.length
  · rw [List.take_append_of_le_length (by omega), List.getElem?_append_left q]
    exact r i q
  · have e : i = od.length := by omega
    subst e
    rw [List.take_append_of_le_length (Nat.le_refl _), List.take_length, h]
    simp
theorem Run.at {od : List Nat} (r : Run oth ps od) {i x : Nat} (h : od[i]? = some x) : x ∈ able oth ps (od.take i) := by
  have := r i (list_get h)
  rw [h] at this
  exact List.mem_of_mem_head? (by rw [this]; rfl)
theorem Run.occ {od : List Nat} (r : Run oth ps od) : ∀ x ∈ od, x ∈ occL oth ps := fun x hx => by
  obtain ⟨i, hi⟩ := List.getElem?_of_mem hx
  exact (able_iff.mp (r.at hi)).1
theorem Run.nodup {od : List Nat} (r : Run oth ps od) : od.Nodup := by
  rw [List.nodup_iff_pairwise_ne, List.pairwise_iff_getElem]
  intro i j hi hj hij e
  have a := (able_iff.mp (r.at (i := j) (x := od[j]) (by simp [hj]))).2.1
  apply a
  rw [← e]
  rw [List.mem_take_iff_getElem]
  exact ⟨i, by omega, rfl⟩
/-- what is left over is the ring -/
theorem left_ring {od : List Nat} (lt : ∀ x ∈ flat oth ps, x < 100) (done : able oth ps od = []) (dis : ∀ x ∈ od, x ∉ ring oth ps) (x : Nat) : x ∈ ring oth ps ↔ x ∈ (occL oth ps).filter (fun x => decide (x ∉ od)) := by
  constructor
  · intro hx
    rw [List.mem_filter]
    refine ⟨(occL_mem lt).mpr (mem_flat.mpr ⟨x, (ring_in hx).1, .inl rfl⟩), ?_⟩
    simp
    exact fun z => dis x z hx
  · intro hx
    refine closed_ring (V := (occL oth ps).filter (fun x => decide (x ∉ od))) (fun p hp => ?_) x hx
    have hp' := List.mem_filter.mp hp
    have hnd : p ∉ od := by simpa using hp'.2
    have na : p ∉ able oth ps od := by rw [done]; simp
    rw [able_iff] at na
    have c1 : ot oth ps p ≠ [] := fun z => na ⟨hp'.1, hnd, .inl z⟩
    have c2 : ∀ y ∈ ot oth ps p, y ∉ od := fun y hy z => na ⟨hp'.1, hnd, .inr ⟨y, hy, z⟩⟩
    have hps : p ∈ ps := Classical.byContradiction fun z => c1 (by unfold ot; rw [if_neg z])
    have eo : ot oth ps p = oth p := by unfold ot; rw [if_pos hps]
    rw [eo] at c1 c2
    refine ⟨hps, c1, fun y hy => List.mem_filter.mpr ⟨(occL_mem lt).mpr (mem_flat.mpr ⟨p, hps, .inr hy⟩), ?_⟩⟩
    simp
    exact c2 y hy
theorem ringB_of {os : List Nat} (C : Closed oth ps os) : ringB oth ps os = true := by
  unfold ringB
  rw [List.all_eq_true]
  intro p hp
  obtain ⟨c1, c2, c3⟩ := C p hp
  have eo : ot oth ps p = oth p := by unfold ot; rw [if_pos c1]
  rw [eo, Bool.and_eq_true, List.all_eq_true]
  refine ⟨by simpa using c2, fun x hx => by simpa using c3 x hx⟩
end
end K40
set_option Elab.async false
set_option linter.all false
set_option maxRecDepth 100000
set_option maxHeartbeats 1000000
namespace K40
open Mp PySem L2
/-- for pid, others in waits -/
theorem for_pairs {j k a : Nat} {adr : Nat → Nat} {ps : List Nat} {body els : MS} {P : Po} {ρ : Mp.Env} {h : Mem} (I : Nat → Mp.Env → Mem → Prop) (h0 : I 0 ρ h) (keep : ∀ i ρ h, i ≤ ps.length → I i ρ h → h[a]? = some (.lst (ps.map (wT adr))))
    (turn : ∀ i p ρ h, ps[i]? = some p → I i ρ h → Fw (body ((ρ.set j (some (.int (p : Nat)))).set k (some (.ref (adr p)))) h) ⟨I (i + 1), P.rt, P.nx, I (i + 1), P.xc⟩)
    (stop : ∀ ρ h, I ps.length ρ h → Fw (els ρ h) P) : Fw (forF (wkL a ps.length) (.tp [.nm j, .nm k]) body els (wkL a ps.length).fuel 0 ρ h) P := by
  refine for_wk ps.length I (fun i ρ h hi hI => ?_) (fun ρ h hI => ?_) ps.length 0 _ ρ h rfl (Nat.zero_le _) (Nat.le_refl _) h0
  · have kk := keep i ρ h (by omega) hI
    exact ⟨.tup [.int (ps[i] : Nat), .ref (adr ps[i])], _, by simp [wkL, kk, hi, wT], rfl, turn i _ ρ h (by simp [hi]) hI⟩
  · have kk := keep _ ρ h (Nat.le_refl _) hI
    exact ⟨by simp [wkL, kk], stop ρ h hI⟩
/-- nats out of ints -/
theorem nats_of : ∀ {ns : List Int}, (∀ x ∈ ns, 0 ≤ x ∧ x < 100) → ∃ os : List Nat, ns = os.map (fun i : Nat => (i : Int)) ∧ ∀ x ∈ os, x < 100
  | [], _ => ⟨[], rfl, nofun⟩
  | x :: ns, h => by
    obtain ⟨os, e, hl⟩ := nats_of (ns := ns) fun y hy => h y (by simp [hy])
    have hx := h x (by simp)
    refine ⟨x.toNat :: os, ?_, fun y hy => ?_⟩
    · rw [List.map_cons, ← e]
      congr 1
      omega
    · rcases List.mem_cons.mp hy with q | q
      · omega
      · exact hl y q
section
variable {h h' : Mem} {a : Nat} {ps : List Nat} {oth : Nat → List Nat} {adr : Nat → Nat}
theorem take_flat {i p : Nat} (hp : ps[i]? = some p) : flat oth (ps.take (i + 1)) = flat oth (ps.take i) ++ (p :: oth p) := by
  rw [take_snoc hp]
  unfold flat
  rw [List.flatMap_append]
  simp
theorem flat_sub {i x : Nat} (hx : x ∈ flat oth (ps.take i)) : x ∈ flat oth ps := by
  obtain ⟨p, hp, q⟩ := mem_flat.mp hx
  exact mem_flat.mpr ⟨p, List.mem_of_mem_take hp, q⟩
theorem flat_len (w : Ws h a ps oth adr) : ∀ i, i ≤ ps.length → (flat oth (ps.take i)).length ≤ 17 * i
  | 0, _ => by simp [flat]
  | i + 1, hi => by
    have ih := flat_len w i (by omega)
    obtain ⟨p, hp⟩ : ∃ p, ps[i]? = some p := ⟨ps[i], by simp [show i < ps.length by omega]⟩
    have := w.ol p (List.mem_of_getElem? hp)
    rw [take_flat hp, List.length_append, List.length_cons]
    omega
theorem nats_pw {os : List Nat} (h : (os.map fun i : Nat => (i : Int)).Pairwise (· < ·)) : os.Pairwise (· < ·) := by
  rw [List.pairwise_map] at h
  exact h.imp fun h => by omega
theorem occ_ok {e : Nat} (he : 1 ≤ e) (w : Ws h a ps oth adr) {Q : Val → Mem → Prop} {X : XQ}
    (q : ∀ (h' : Mem) (n : Nat), Gr h h' → h'[n]? = some (.lst (nI (occL oth ps))) → Q (.ref n) h') : (callF Γ e "occurring_pids" [.ref a] h).W Q X := by
  obtain ⟨d, rfl⟩ : ∃ d, e = d + 1 := ⟨e - 1, by omega⟩
  have ls := sizeLine_eq
  have l16 := w.len
  rw [c_occurring_pids]
  simp only [W_fin, s_occurring_pids]
  rw [seqI]
  simp
  have n1 := get_new h (Ob.lst (nI []))
  have g1 := Gr.new h [Ob.lst (nI [])]
  have en : nI [] = [] := rfl
  rw [en] at n1 g1
  generalize h ++ [Ob.lst []] = h1 at n1 g1
  have w1 := w.gr g1
  rw [FwI_iff, seqI]
  simp [w1.ls]
  refine for_pairs (adr := adr) (fun i ρ h' => Gr h h' ∧ ∃ (y2 y3 : Option Val), h'[h.length]? = some (.lst (nI (flat oth (ps.take i)))) ∧ ρ = [some (.ref a), some (.ref h.length), y2, y3]) ⟨g1, _, _, n1, rfl⟩ (fun i ρ h' _ I => Gr.get I.1 w.ls) ?_ ?_
  · rintro i p ρ h2 hp ⟨g2, y2, y3, n2, rfl⟩
    have hi := list_get hp
    have hpm := List.mem_of_getElem? hp
    have lo := w.ol p hpm
    have lL := flat_len w i (by omega)
    have tf := take_flat (oth := oth) hp
    generalize flat oth (ps.take i) = L at n2 lL tf
    generalize ePP : Po.mk _ _ _ _ _ = PP
    have hnx : ∀ (h' : Mem) (y2 y3 : Option Val), Gr h h' → h'[h.length]? = some (.lst (nI (L ++ (p :: oth p)))) → PP.nx [some (.ref a), some (.ref h.length), y2, y3] h' := by
      intro h' y2 y3 g n
      rw [← ePP]
      exact ⟨g, _, _, by rw [tf]; exact n, rfl⟩
    clear ePP
    rw [seqI]
    simp [n2, nI_len]
    rw [← nI_snoc]
    refine ⟨by omega, ?_⟩
    have n3 : (h2.set h.length (.lst (nI (L ++ [p]))))[h.length]? = _ := get_set n2
    have g3 : Gr h (h2.set h.length (.lst (nI (L ++ [p])))) := Gr.later g2 (Nat.le_refl _) _
    generalize h2.set h.length (.lst (nI (L ++ [p]))) = h3 at n3 g3
    have eo := (w.gr g3).at_ p hpm
    rw [FwI_iff]
    simp [n3, eo, nI_app]
    refine ⟨by rw [nI_len, nI_len, List.length_append]; simp only [List.length_singleton]; omega, ?_⟩
    exact hnx _ _ _ (Gr.later g3 (Nat.le_refl _) _) (get_set n3)
  · rintro ρ h2 ⟨g2, y2, y3, n2, rfl⟩
    rw [List.take_length] at n2
    have lL := flat_len w ps.length (Nat.le_refl _)
    rw [List.take_length] at lL
    simp only [w_sSkip]
    rw [FwI_iff]
    have fl := flat_lt w
    have hmem : ∀ x ∈ srtSet ((flat oth ps).map fun i : Nat => (i : Int)), 0 ≤ x ∧ x < 100 := fun x hx => by
      rw [srtSet_mem] at hx
      obtain ⟨m, hm, rfl⟩ := List.mem_map.mp hx
      have := fl m hm
      omega
    obtain ⟨os, eos, los⟩ := nats_of hmem
    have eo : os = occL oth ps := by
      have pw := srtSet_lt ((flat oth ps).map fun i : Nat => (i : Int))
      rw [eos] at pw
      refine sxt (nats_pw pw) occL_pw fun x => ?_
      rw [occL_mem fl, ← mem_cast (od := os), ← eos, srtSet_mem, mem_cast]
    subst eo
    have eI : (srtSet ((flat oth ps).map fun i : Nat => (i : Int))).map Val.int = nI (occL oth ps) := by rw [eos, nI_ints]
    have lL2 : (flat oth ps).length ≤ 4000 := by omega
    have lO := occL_len (oth := oth) (ps := ps)
    simp [n2, nI_of, lL2]
    rw [eI]
    refine ⟨by rw [eos, List.length_map]; omega, q _ _ (Fr.trans g2 (Gr.new _ _)) (get_new _ _)⟩
/-- the followers: a dict of lists of pids -/
structure Fo (h0 h : Mem) (T : Nat) (F : List Nat) (fl : Nat → List Nat) (fa : Nat → Nat) (ps : List Nat) (oth : Nat → List Nat) (c : Nat) (D : Nat → Nat → Prop) : Prop where
  tb : h[T]? = some (.dic (dk fa F))
  at_ : ∀ x ∈ F, h[fa x]? = some (.lst (nI (fl x)))
  nd : F.Nodup
  lt : ∀ x ∈ F, x < 100
  ln : ∀ x ∈ F, (fl x).length ≤ c
  pr : ∀ x ∈ F, ∀ p ∈ fl x, p ∈ ps ∧ x ∈ oth p
  fr : ∀ x ∈ F, h0.length ≤ fa x ∧ fa x ≠ T
  inj : ∀ x ∈ F, ∀ y ∈ F, fa x = fa y → x = y
  t0 : h0.length ≤ T
  dn : ∀ p x, D p x → x ∈ F ∧ p ∈ fl x
theorem dk_congr {f g : Nat → Nat} {K : List Nat} (e : ∀ x ∈ K, f x = g x) : dk f K = dk g K := by
  unfold dk
  exact List.map_congr_left fun x hx => by rw [e x hx]
theorem followers_ok {e : Nat} (he : 1 ≤ e) (w : Ws h a ps oth adr) {Q : Val → Mem → Prop} {X : XQ}
    (q : ∀ (h' : Mem) (T : Nat) (F : List Nat) (fl : Nat → List Nat) (fa : Nat → Nat), Gr h h' → Fo h h' T F fl fa ps oth 300 (fun p x => p ∈ ps ∧ x ∈ oth p) → Q (.ref T) h') : (callF Γ e "followers_by_pid" [.ref a] h).W Q X := by
  obtain ⟨d, rfl⟩ : ∃ d, e = d + 1 := ⟨e - 1, by omega⟩
  have ls := sizeLine_eq
  have l16 := w.len
  rw [c_followers_by_pid]
  simp only [W_fin, s_followers_by_pid]
  rw [seqI]
  simp
  have n1 := get_new h (Ob.dic [])
  have g1 := Gr.new h [Ob.dic []]
  generalize h ++ [Ob.dic []] = h1 at n1 g1
  have w1 := w.gr g1
  rw [FwI_iff, seqI]
  simp [w1.ls]
  refine for_pairs (adr := adr) (fun i ρ h' => Gr h h' ∧ ∃ (F : List Nat) (fl : Nat → List Nat) (fa : Nat → Nat) (y2 y3 y4 : Option Val), Fo h h' h.length F fl fa ps oth (16 * i) (fun p x => p ∈ ps.take i ∧ x ∈ oth p) ∧ ρ = [some (.ref a), some (.ref h.length), y2, y3, y4]) ⟨g1, [], fun _ => [], fun _ => 0, _, _, _, ⟨n1, nofun, List.nodup_nil, nofun, nofun, nofun, nofun, nofun, Nat.le_refl _, fun p x z => by simp at z⟩, rfl⟩ (fun i ρ h' _ I => Gr.get I.1 w.ls) ?_ ?_
  · rintro i p ρ h2 hp ⟨g2, F, fl, fa, y2, y3, y4, o2, rfl⟩
    have hi := list_get hp
    have hpm := List.mem_of_getElem? hp
    have lo := w.ol p hpm
    have eo2 := (w.gr g2).at_ p hpm
    simp [eo2]
    refine for_lst (xs := nI (oth p)) (fun j ρ h' => Gr h h' ∧ ∃ (F : List Nat) (fl : Nat → List Nat) (fa : Nat → Nat) (y4 : Option Val), Fo h h' h.length F fl fa ps oth (16 * i + j) (fun p' x => (p' ∈ ps.take i ∧ x ∈ oth p') ∨ (p' = p ∧ x ∈ (oth p).take j)) ∧ ρ = [some (.ref a), some (.ref h.length), some (.int (p : Nat)), some (.ref (adr p)), y4]) ⟨g2, F, fl, fa, _, ⟨o2.tb, o2.at_, o2.nd, o2.lt, o2.ln, o2.pr, o2.fr, o2.inj, o2.t0, fun p' x z => by simp at z; exact o2.dn p' x z⟩, rfl⟩ (fun j ρ h' _ I => (w.gr I.1).at_ p hpm) ?_ ?_
    · rintro j x ρ h3 hx ⟨g3, F, fl, fa, y4, o3, rfl⟩
      obtain ⟨z, hz, rfl⟩ := map_inv hx
      have hj := list_get hz
      have hzm := List.mem_of_getElem? hz
      generalize ePP : Po.mk _ _ _ _ _ = PP
      have hnx : ∀ (h' : Mem) (F' : List Nat) (fl' : Nat → List Nat) (fa' : Nat → Nat) (y4 : Option Val), Gr h h' → Fo h h' h.length F' fl' fa' ps oth (16 * i + (j + 1)) (fun p' x => (p' ∈ ps.take i ∧ x ∈ oth p') ∨ (p' = p ∧ x ∈ (oth p).take (j + 1))) → PP.nx [some (.ref a), some (.ref h.length), some (.int (p : Nat)), some (.ref (adr p)), y4] h' := by
        intro h' F' fl' fa' y4 g o
        rw [← ePP]
        exact ⟨g, F', fl', fa', _, o, rfl⟩
      clear ePP
      -- append to a list that is there
      have app : ∀ (h' : Mem) (F : List Nat) (fl : Nat → List Nat) (fa : Nat → Nat), Gr h h' → Fo h h' h.length F fl fa ps oth (16 * i + j) (fun p' x => (p' ∈ ps.take i ∧ x ∈ oth p') ∨ (p' = p ∧ x ∈ (oth p).take j)) → z ∈ F → FwI (sExpr (eMeth Γ (callF Γ d) "append" 1 [] (eIdx (eVar 1) (eVar 4)) (aCons (eVar 2) aNil) aNil) [some (.ref a), some (.ref h.length), some (.int (p : Int)), some (.ref (adr p)), some (.int (z : Int))] h') PP := by
        intro h' F fl fa g o hzF
        have gz := dGet_dk fa z F
        rw [if_pos hzF] at gz
        have ez := o.at_ z hzF
        have lz := o.ln z hzF
        have fz := o.fr z hzF
        rw [FwI_iff]
        simp [o.tb, gz, ez, nI_len]
        rw [← nI_snoc]
        refine ⟨by omega, hnx _ F (fun y => if y = z then fl z ++ [p] else fl y) fa _ (Gr.later g fz.1 _) ⟨get_set_ne o.tb fz.2, fun y hy => ?_, o.nd, o.lt, fun y hy => ?_, fun y hy r hr => ?_, o.fr, o.inj, o.t0, fun p' x hD => ?_⟩⟩
        · by_cases e : y = z
          · rw [if_pos e, e]; exact get_set ez
          · rw [if_neg e]; exact get_set_ne (o.at_ y hy) fun q => e (o.inj y hy z hzF q.symm)
        · by_cases e : y = z
          · rw [if_pos e, List.length_append]; simp only [List.length_singleton]; omega
          · rw [if_neg e]; have := o.ln y hy; omega
        · by_cases e : y = z
          · rw [if_pos e] at hr
            rcases List.mem_append.mp hr with q | q
            · rw [e]; exact o.pr z hzF r q
            · rw [show r = p by simpa using q, e]; exact ⟨hpm, hzm⟩
          · rw [if_neg e] at hr; exact o.pr y hy r hr
        · have old : ∀ {x p'}, x ∈ F ∧ p' ∈ fl x → x ∈ F ∧ p' ∈ (if x = z then fl z ++ [p] else fl x) := fun {x p'} hh => by
            by_cases e : x = z
            · subst e; rw [if_pos rfl]; exact ⟨hh.1, by simp [hh.2]⟩
            · rw [if_neg e]; exact hh
          rcases hD with q | ⟨q1, q2⟩
          · exact old (o.dn p' x (.inl q))
          · rw [take_snoc hz] at q2
            rcases List.mem_append.mp q2 with q | q
            · exact old (o.dn p' x (.inr ⟨q1, q⟩))
            · have e : x = z := by simpa using q
              subst e
              rw [q1, if_pos rfl]
              exact ⟨hzF, by simp⟩
      rw [seqI]
      have gz := dGet_dk fa z F
      have lF : F.length ≤ 100 := Nat.le_trans (Q42.nodup_le o3.nd (R := List.range 100) fun x hx => List.mem_range.mpr (o3.lt x hx)) (by simp)
      by_cases hzF : z ∈ F
      · rw [if_pos hzF] at gz
        simp [o3.tb, gz]
        exact app h3 F fl fa g3 o3 hzF
      · rw [if_neg hzF] at gz
        simp [o3.tb, gz]
        have n4 := get_new h3 (Ob.lst (nI []))
        have g4 := Gr.new h3 [Ob.lst (nI [])]
        have en : nI [] = [] := rfl
        rw [en] at n4 g4
        have t4 := Gr.get g4 o3.tb
        have a4 : ∀ x ∈ F, (h3 ++ [Ob.lst []])[fa x]? = some (.lst (nI (fl x))) := fun x hx => Gr.get g4 (o3.at_ x hx)
        have l3 := g3.len
        have lT := lt_of_get o3.tb
        have lfa : ∀ x ∈ F, fa x < h3.length := fun x hx => lt_of_get (o3.at_ x hx)
        generalize h3 ++ [Ob.lst []] = h4 at n4 g4 t4 a4
        simp [t4]
        refine ⟨by rw [dk_len]; omega, ?_⟩
        have ep : dPut (dk fa F) (.inl (z : Int)) (.ref h3.length) = dk (fun y => if y = z then h3.length else fa y) (F ++ [z]) := by
          have e1 : dk fa F = dk (fun y => if y = z then h3.length else fa y) F := dk_congr fun x hx => by
            have hxz : x ≠ z := fun q => hzF (q ▸ hx)
            simp [hxz]
          have e2 := dPut_dk (adr := fun y => if y = z then h3.length else fa y) hzF
          simp only [if_true] at e2
          rw [e1, e2]
        rw [ep]
        refine app _ (F ++ [z]) (fun y => if y = z then [] else fl y) (fun y => if y = z then h3.length else fa y) (Gr.later (Fr.trans g3 g4) (Nat.le_refl _) _) ⟨get_set t4, fun y hy => ?_, ?_, fun y hy => ?_, fun y hy => ?_, fun y hy r hr => ?_, fun y hy => ?_, fun y hy y' hy' => ?_, o3.t0, fun p' x hD => ?_⟩ (by simp)
        · by_cases e : y = z
          · rw [if_pos e, if_pos e]; exact get_set_ne n4 (by omega)
          · rw [if_neg e, if_neg e]
            have hy' : y ∈ F := by
              rcases List.mem_append.mp hy with q | q
              · exact q
              · exact absurd (by simpa using q) e
            exact get_set_ne (a4 y hy') (Ne.symm (o3.fr y hy').2)
        · rw [List.nodup_append]
          refine ⟨o3.nd, by simp, fun x hx y hy => ?_⟩
          rw [show y = z by simpa using hy]
          exact fun q => hzF (q ▸ hx)
        · rcases List.mem_append.mp hy with q | q
          · exact o3.lt y q
          · rw [show y = z by simpa using q]; exact w.ot p hpm z hzm
        · by_cases e : y = z
          · rw [if_pos e]; simp
          · rw [if_neg e]
            rcases List.mem_append.mp hy with q | q
            · exact o3.ln y q
            · exact absurd (by simpa using q) e
        · by_cases e : y = z
          · rw [if_pos e] at hr; cases hr
          · rw [if_neg e] at hr
            rcases List.mem_append.mp hy with q | q
            · exact o3.pr y q r hr
            · exact absurd (by simpa using q) e
        · by_cases e : y = z
          · rw [if_pos e]; exact ⟨by omega, by omega⟩
          · rw [if_neg e]
            rcases List.mem_append.mp hy with q | q
            · exact o3.fr y q
            · exact absurd (by simpa using q) e
        · have inF : ∀ {y}, y ∈ F ++ [z] → y ≠ z → y ∈ F := fun {y} hy e => by
            rcases List.mem_append.mp hy with q | q
            · exact q
            · exact absurd (by simpa using q) e
          intro q
          by_cases e : y = z
          · by_cases e' : y' = z
            · rw [e, e']
            · rw [if_pos e, if_neg e'] at q
              have := lfa y' (inF hy' e')
              omega
          · by_cases e' : y' = z
            · rw [if_neg e, if_pos e'] at q
              have := lfa y (inF hy e)
              omega
            · rw [if_neg e, if_neg e'] at q
              exact o3.inj y (inF hy e) y' (inF hy' e') q
        · have := o3.dn p' x hD
          have hxz : x ≠ z := fun q => hzF (q ▸ this.1)
          rw [if_neg hxz]
          exact ⟨by simp [this.1], this.2⟩
    · rintro ρ h3 ⟨g3, F, fl, fa, y4, o3, rfl⟩
      rw [nI_len] at o3
      simp
      exact ⟨g3, F, fl, fa, ⟨o3.tb, o3.at_, o3.nd, o3.lt, fun x hx => by have := o3.ln x hx; omega, o3.pr, o3.fr, o3.inj, o3.t0, fun p' x hD => o3.dn p' x (by
        rw [take_snoc hp] at hD
        rcases List.mem_append.mp hD.1 with q | q
        · exact .inl ⟨q, hD.2⟩
        · have e : p' = p := by simpa using q
          subst e
          exact .inr ⟨rfl, by rw [List.take_length]; exact hD.2⟩)⟩⟩
  · rintro ρ h2 ⟨g2, F, fl, fa, y2, y3, y4, o2, rfl⟩
    simp only [w_sSkip]
    rw [FwI_iff]
    simp
    exact q _ _ F fl fa g2 ⟨o2.tb, o2.at_, o2.nd, o2.lt, fun x hx => by have := o2.ln x hx; omega, o2.pr, o2.fr, o2.inj, o2.t0, fun p' x hD => o2.dn p' x (by rw [List.take_length]; exact hD)⟩
end
end K40
set_option Elab.async false
set_option linter.all false
set_option maxRecDepth 100000
set_option maxHeartbeats 1000000
namespace K40
open Mp PySem L2
def kt (K : List Nat) : List (L2.Key × Val) := K.map fun p : Nat => (Sum.inl (p : Int), Val.bl true)
theorem kt_len (K : List Nat) : (kt K).length = K.length := by simp [kt]
theorem dGet_kt (p : Nat) : ∀ K : List Nat, (dGet (kt K) (.inl (p : Int))).isSome = decide (p ∈ K)
  | [] => by simp [kt, dGet]
  | k :: K => by
    have ih := dGet_kt p K
    unfold kt at ih ⊢
    rw [List.map_cons, dGet_cons]
    by_cases e : k = p
    · subst e; simp
    · have h1 : ¬ ((Sum.inl (k : Int) : L2.Key) = Sum.inl (p : Int)) := fun z => e (by cases z; rfl)
      rw [if_neg h1, ih]
      simp [Ne.symm e]
theorem dGet_kt_yes {p : Nat} {K : List Nat} (hp : p ∈ K) : ∃ v, dGet (kt K) (.inl (p : Int)) = some v := by
  have := dGet_kt p K
  simp only [hp, decide_true] at this
  exact Option.isSome_iff_exists.mp this
theorem dGet_kt_no {p : Nat} {K : List Nat} (hp : p ∉ K) : dGet (kt K) (.inl (p : Int)) = none := by
  have := dGet_kt p K
  simp only [hp, decide_false] at this
  simpa using this
theorem dPut_kt {p : Nat} {K : List Nat} (hp : p ∉ K) : dPut (kt K) (.inl (p : Int)) (.bl true) = kt (K ++ [p]) := by
  have : ((kt K).any fun kv => decide (kv.1 = (Sum.inl (p : Int) : L2.Key))) = false := by
    rw [List.any_eq_false]
    intro kv hm
    obtain ⟨q, hq, rfl⟩ := List.mem_map.mp hm
    have : q ≠ p := fun z => hp (z ▸ hq)
    simp
    omega
  unfold dPut
  rw [this]
  simp [kt]
theorem minI_mem : ∀ {l : List Int}, l ≠ [] → minI l ∈ l
  | [], h => absurd rfl h
  | [i], _ => by simp [minI]
  | i :: j :: r, _ => by
    have ih := minI_mem (l := j :: r) (by simp)
    rw [minI]
    · split
      · simp
      · exact List.mem_cons_of_mem _ ih
    · simp
theorem minI_le : ∀ {l : List Int}, ∀ x ∈ l, minI l ≤ x
  | [], x, h => by cases h
  | [i], x, h => by rw [show x = i by simpa using h]; simp [minI]
  | i :: j :: r, x, h => by
    have ih := fun y hy => minI_le (l := j :: r) y hy
    rw [minI]
    · rcases List.mem_cons.mp h with q | q
      · subst q; split <;> omega
      · have := ih x q
        split <;> omega
    · simp
theorem bi_min_nI {h : Mem} {r : Nat} {os : List Nat} (e : h[r]? = some (.lst (nI os))) (h0 : os ≠ []) : ∃ m, m ∈ os ∧ (∀ x ∈ os, m ≤ x) ∧ biRun .min [.ref r] h = .ok (.int (m : Nat)) h := by
  have h1 := minI_mem (l := os.map fun i : Nat => (i : Int)) (by simpa using h0)
  have h2 := minI_le (l := os.map fun i : Nat => (i : Int))
  obtain ⟨m, hm, em⟩ := List.mem_map.mp h1
  refine ⟨m, hm, fun x hx => ?_, ?_⟩
  · have := h2 x (List.mem_map.mpr ⟨x, hx, rfl⟩)
    rw [← em] at this
    omega
  rw [em]
  show (match (lstOf h (.ref r)).bind intsOf with | some (i :: ns) => Res.ok (Val.int (minI (i :: ns))) h | _ => .bad) = _
  rw [lst_ref, e]
  simp only [Option.bind_some, nI_of]
  cases os with
  | nil => exact absurd rfl h0
  | cons x xs => rfl
/-- {..: .. for x in a list} -/
theorem dc_lst {j a : Nat} {xs : List Val} {c : MT} {ek ev : ME} {ρ : Mp.Env} {h : Mem} {Q : List (L2.Key × Val) → Mem → Prop} {X : XQ} (I : Nat → List (L2.Key × Val) → Mem → Prop) (h0 : I 0 [] h) (keep : ∀ i acc h, i ≤ xs.length → I i acc h → h[a]? = some (.lst xs))
    (turn : ∀ i x acc h, xs[i]? = some x → I i acc h → (c (ρ.set j (some x)) h).W (fun b h2 => if b = true then (ek (ρ.set j (some x)) h2).W (fun y h3 => (ev (ρ.set j (some x)) h3).W (fun z h4 => ∃ kk, keyOf y = some kk ∧ acc.length < sizeLine ∧ I (i + 1) (dPut acc kk z) h4) nX) nX else I (i + 1) acc h2) nX)
    (stop : ∀ acc h, I xs.length acc h → Q acc h) : (dcF (wkL a xs.length) (.nm j) c ek ev ρ (wkL a xs.length).fuel 0 [] h).W Q X :=
  dc_wk xs.length I (fun i acc h hi hI => ⟨xs[i], _, by simp [wkL, keep i acc h (by omega) hI, hi], rfl, turn i xs[i] acc h (by simp [hi]) hI⟩) (fun acc h hI => ⟨by simp [wkL, keep _ acc h (Nat.le_refl _) hI], stop acc h hI⟩) xs.length 0 _ [] h rfl (Nat.zero_le _) (Nat.le_refl _) h0
theorem erase_cast (l : List Nat) (a : Nat) : ((l.map fun i : Nat => (i : Int)).erase (a : Int)).map Val.int = nI (l.erase a) := nI_erase l a
theorem nd100 {os : List Nat} (nd : os.Nodup) (lt : ∀ x ∈ os, x < 100) : os.length ≤ 100 := Nat.le_trans (Q42.nodup_le nd (R := List.range 100) fun x hx => List.mem_range.mpr (lt x hx)) (by simp)
theorem nd_snoc {l : List Nat} {p : Nat} (nd : l.Nodup) (hp : p ∉ l) : (l ++ [p]).Nodup := by
  rw [List.nodup_append]
  refine ⟨nd, by simp, fun x hx y hy => ?_⟩
  rw [show y = p by simpa using hy]
  exact fun q => hp (q ▸ hx)
/-- the state of find_order's loop -/
structure OS (oth : Nat → List Nat) (ps rd kn od : List Nat) : Prop where
  nk : kn.Nodup
  nr : rd.Nodup
  km : ∀ x, x ∈ kn ↔ x ∈ occL oth ps ∧ (ot oth ps x = [] ∨ ∃ y ∈ ot oth ps x, y ∈ od)
  rm : ∀ x, x ∈ rd ↔ x ∈ kn ∧ x ∉ od
  run : Run oth ps od
section
variable {rd kn od ps : List Nat} {oth : Nat → List Nat}
theorem OS.lk (o : OS oth ps rd kn od) : kn.length ≤ 100 := nd100 o.nk fun x hx => occL_lt x ((o.km x).mp hx).1
theorem OS.lr (o : OS oth ps rd kn od) : rd.length ≤ 100 := nd100 o.nr fun x hx => occL_lt x ((o.km x).mp ((o.rm x).mp hx).1).1
theorem OS.lo (o : OS oth ps rd kn od) : od.length ≤ 100 := nd100 o.run.nodup fun x hx => occL_lt x (o.run.occ x hx)
theorem OS.ab (o : OS oth ps rd kn od) (x : Nat) : x ∈ rd ↔ x ∈ able oth ps od := by
  rw [able_iff, o.rm, o.km]
  constructor
  · rintro ⟨⟨a, b⟩, c⟩; exact ⟨a, c, b⟩
  · rintro ⟨a, c, b⟩; exact ⟨⟨a, b⟩, c⟩
theorem able_pw {done : List Nat} : (able oth ps done).Pairwise (· < ·) := occL_pw.filter _
theorem OS.nil (o : OS oth ps [] kn od) : able oth ps od = [] := by
  cases e : able oth ps od with
  | nil => rfl
  | cons x r =>
    have := (o.ab x).mpr (by rw [e]; simp)
    cases this
theorem OS.min (o : OS oth ps rd kn od) {m : Nat} (hm : m ∈ rd) (hl : ∀ x ∈ rd, m ≤ x) : Run oth ps (od ++ [m]) :=
  o.run.snoc (head_min able_pw ((o.ab m).mp hm) fun x hx => hl x ((o.ab x).mpr hx))
theorem OS.sub (o : OS oth ps rd kn od) : ∀ x ∈ od, x ∈ kn := fun x hx => by
  obtain ⟨i, hi⟩ := List.getElem?_of_mem hx
  have := able_iff.mp (o.run.at hi)
  refine (o.km x).mpr ⟨this.1, ?_⟩
  rcases this.2.2 with q | ⟨y, hy, z⟩
  · exact .inl q
  · exact .inr ⟨y, hy, List.mem_of_mem_take z⟩
end
section
variable {h h' : Mem} {a : Nat} {ps : List Nat} {oth : Nat → List Nat} {adr : Nat → Nat}
theorem order_ok {e : Nat} (he : 2 ≤ e) (w : Ws h a ps oth adr) {Q : Val → Mem → Prop} {X : XQ}
    (q : ∀ (h' : Mem) (n : Nat) (od : List Nat), Gr h h' → h.length ≤ n → h'[n]? = some (.lst (nI od)) → Run oth ps od → able oth ps od = [] → Q (.ref n) h') : (callF Γ e "find_order" [.ref a] h).W Q X := by
  obtain ⟨d, rfl⟩ : ∃ d, e = d + 1 := ⟨e - 1, by omega⟩
  have ls := sizeLine_eq
  have l16 := w.len
  have fl0 := flat_lt w
  rw [c_find_order]
  simp only [W_fin, s_find_order]
  rw [seqI]
  simp
  rw [obp_ok (by omega) w]
  have t1 := get_new h (Ob.dic (dk adr ps))
  have g1 := Gr.new h [Ob.dic (dk adr ps)]
  simp
  generalize h ++ [Ob.dic (dk adr ps)] = h1 at t1 g1
  have w1 := w.gr g1
  rw [FwI_iff, seqI]
  simp
  refine followers_ok (by omega) w1 fun h2 T F fl fa g2 o2 => ?_
  have w2 := w1.gr g2
  have t2 := Gr.get g2 t1
  have g02 := Fr.trans g1 g2
  rw [FwI_iff, seqI]
  simp
  refine occ_ok (by omega) w2 fun h3 n g3 n3 => ?_
  have ndo : (occL oth ps).Nodup := List.nodup_iff_pairwise_ne.mpr (occL_pw.imp fun h => by omega)
  have lo := occL_len (oth := oth) (ps := ps)
  obtain ⟨occ, hocc⟩ : ∃ occ, occ = occL oth ps := ⟨_, rfl⟩
  rw [← hocc] at n3 ndo lo
  have t3 := Gr.get g3 t2
  simp [n3]
  refine lc_lst (xs := nI occ) (fun i acc h' => Gr h3 h' ∧ acc = nI ((occ.take i).filter fun p => (ot oth ps p).isEmpty)) ⟨Fr.refl _ _, rfl⟩ (fun i acc h' _ I => Gr.get I.1 n3) ?_ ?_
  · rintro i x acc h4 hx ⟨g4, rfl⟩
    obtain ⟨p, hp, rfl⟩ := map_inv hx
    have hi := list_get hp
    have t4 := Gr.get g4 t3
    have n5 := get_new h4 (Ob.lst (nI []))
    have g5 := Gr.new h4 [Ob.lst (nI [])]
    have en : nI [] = [] := rfl
    have t5 := Gr.get g5 t4
    obtain ⟨r, er, h5r, l5⟩ := get_ot (w := (w2.gr (Fr.trans g3 (Fr.trans g4 g5)))) p h4.length n5
    rw [en] at g5 t5 h5r
    have lf : (nI ((occ.take i).filter fun p => (ot oth ps p).isEmpty)).length < sizeLine := by
      rw [nI_len]
      exact Nat.lt_of_le_of_lt (List.length_filter_le _ _) (by rw [List.length_take]; omega)
    simp [wipeE, t4]
    generalize h4 ++ [Ob.lst []] = h5 at g5 t5 h5r
    try rw [t5]
    try simp only [W_ok]
    rw [er]
    rw [take_snoc hp, List.filter_append]
    generalize (occ.take i).filter (fun p => (ot oth ps p).isEmpty) = FF at lf
    have g45 : Gr h3 h5 := Fr.trans g4 g5
    cases hO : ot oth ps p with
    | nil =>
      rw [hO] at h5r
      have h5r : h5[r]? = some (.lst []) := h5r
      simp [h5r, hO, nI_snoc]
      exact ⟨lf, g45⟩
    | cons y ys =>
      rw [hO] at h5r
      have hne : nI (y :: ys) ≠ [] := by simp [nI]
      simp [h5r, hO, hne]
      exact g45
  · rintro acc h4 ⟨g4, rfl⟩
    rw [show (nI occ).length = occ.length from nI_len occ, List.take_length]
    have lr : (occ.filter fun p => (ot oth ps p).isEmpty).length ≤ occ.length := List.length_filter_le _ _
    have ndr : (occ.filter fun p => (ot oth ps p).isEmpty).Nodup := ndo.filter _
    have o0 : OS oth ps (occ.filter fun p => (ot oth ps p).isEmpty) (occ.filter fun p => (ot oth ps p).isEmpty) [] := ⟨ndr, ndr, fun x => by rw [List.mem_filter, hocc]; simp, fun x => by simp, fun i hi => by simp at hi⟩
    have e5 := get_new h4 (Ob.lst (nI (occ.filter fun p => (ot oth ps p).isEmpty)))
    have g5 := Gr.new h4 [Ob.lst (nI (occ.filter fun p => (ot oth ps p).isEmpty))]
    refine ⟨by rw [nI_len]; omega, ?_⟩
    generalize occ.filter (fun p => (ot oth ps p).isEmpty) = rd0 at lr ndr o0 e5 g5
    have l24 := (Fr.trans g3 g4).len
    generalize h4 ++ [Ob.lst (nI rd0)] = h5 at e5 g5
    have g25 : Gr h2 h5 := Fr.trans g3 (Fr.trans g4 g5)
    rw [FwI_iff, seqI]
    simp [e5]
    refine dc_lst (xs := nI rd0) (fun i acc h' => h' = h5 ∧ acc = kt (rd0.take i)) ⟨rfl, rfl⟩ (fun i acc h' _ I => by rw [I.1]; exact e5) ?_ ?_
    · rintro i x acc h6 hx ⟨rfl, rfl⟩
      obtain ⟨p, hp, rfl⟩ := map_inv hx
      have hi := list_get hp
      have pn := take_not ndr hp
      simp [wipeE]
      refine ⟨by rw [kt_len, List.length_take]; omega, ?_⟩
      rw [dPut_kt pn, take_snoc hp]
    · rintro acc h6 ⟨rfl, rfl⟩
      rw [show (nI rd0).length = rd0.length from nI_len rd0, List.take_length]
      have k6 := get_new h6 (Ob.dic (kt rd0))
      have g6 := Gr.new h6 [Ob.dic (kt rd0)]
      have e6 : (h6 ++ [Ob.dic (kt rd0)])[h4.length]? = some (.lst (nI rd0)) := get_app _ e5
      have l46 := lt_of_get e5
      have ll6 : (h6 ++ [Ob.dic (kt rd0)]).length = h6.length + 1 := by simp
      generalize h6 ++ [Ob.dic (kt rd0)] = h7 at k6 g6 e6 ll6
      have g27 : Gr h2 h7 := Fr.trans g25 g6
      rw [FwI_iff, seqI]
      simp
      have d8 := get_new h7 (Ob.lst (nI []))
      have g8 := Gr.new h7 [Ob.lst (nI [])]
      have en : nI [] = [] := rfl
      rw [en] at d8 g8
      have k8 := Gr.get g8 k6
      have e8 := Gr.get g8 e6
      generalize h7 ++ [Ob.lst []] = h8 at d8 g8 k8 e8
      have g28 : Gr h2 h8 := Fr.trans g27 g8
      have l02 := g02.len
      have l27 := g27.len
      rw [FwI_iff, seqI]
      refine while_meas (fun m ρ h' => Gr h2 h' ∧ ∃ (rd kn od : List Nat) (y4 y7 : Option Val), h'[h4.length]? = some (.lst (nI rd)) ∧ h'[h6.length]? = some (.dic (kt kn)) ∧ h'[h7.length]? = some (.lst (nI od)) ∧ OS oth ps rd kn od ∧ m = 100 - od.length ∧ ρ = [some (.ref a), some (.ref h.length), some (.ref T), some (.ref h4.length), y4, some (.ref h6.length), some (.ref h7.length), y7]) ?_ 100 _ _ _ (by unfold wFuel; omega) ⟨g28, rd0, rd0, [], _, _, e8, k8, d8, o0, rfl, rfl⟩
      rintro m ρ h9 ⟨g9, rd, kn, od, y4, y7, e9, k9, d9, o9, hm, rfl⟩
      have w9 := w2.gr g9
      have lk := o9.lk
      have lr9 := o9.lr
      have lo9 := o9.lo
      by_cases hrd : rd = []
      · subst hrd
        have e9 : h9[h4.length]? = some (.lst []) := e9
        simp [e9]
        rw [FwI_iff]
        simp
        exact q _ _ od (Fr.trans g02 g9) (by omega) d9 o9.run o9.nil
      · have hne : nI rd ≠ [] := fun z => hrd (by cases rd with | nil => rfl | cons x xs => simp [nI] at z)
        simp only [w_tE, w_eVar, List.getElem?_cons_zero, List.getElem?_cons_succ, optP_some, tru_ref, e9]
        have ht : (!(nI rd).isEmpty) = true := by
          cases hn : nI rd with
          | nil => exact absurd hn hne
          | cons x xs => rfl
        rw [ht]
        refine ⟨fun _ => ?_, nofun⟩
        obtain ⟨le, hle, hlm, hmin⟩ := bi_min_nI e9 hrd
        have rn1 := o9.min hle hlm
        have lek := (o9.rm le).mp hle
        have lo1 : (od ++ [le]).length ≤ 100 := nd100 rn1.nodup fun x hx => occL_lt x (rn1.occ x hx)
        rw [List.length_append] at lo1
        simp only [List.length_singleton] at lo1
        generalize ePP : Po.mk _ _ _ _ _ = PP
        have hnx : ∀ (h' : Mem) (rd' kn' : List Nat) (y4 y7 : Option Val), Gr h2 h' → h'[h4.length]? = some (.lst (nI rd')) → h'[h6.length]? = some (.dic (kt kn')) → h'[h7.length]? = some (.lst (nI (od ++ [le]))) → OS oth ps rd' kn' (od ++ [le]) → PP.nx [some (.ref a), some (.ref h.length), some (.ref T), some (.ref h4.length), y4, some (.ref h6.length), some (.ref h7.length), y7] h' := by
          intro h' rd' kn' y4 y7 g e k dd o
          rw [← ePP]
          exact ⟨100 - (od ++ [le]).length, by rw [List.length_append]; simp only [List.length_singleton]; omega, g, rd', kn', od ++ [le], _, _, e, k, dd, o, rfl, rfl⟩
        clear ePP
        rw [seqI]
        simp
        rw [hmin]
        simp
        rw [FwI_iff, seqI]
        have mc : (le : Int) ∈ rd.map fun i : Nat => (i : Int) := mem_cast.mpr hle
        simp [e9, nI_of, hle]
        rw [erase_cast]
        have e10 : (h9.set h4.length (.lst (nI (rd.erase le))))[h4.length]? = _ := get_set e9
        have k10 : (h9.set h4.length (.lst (nI (rd.erase le))))[h6.length]? = _ := get_set_ne k9 (by omega)
        have d10 : (h9.set h4.length (.lst (nI (rd.erase le))))[h7.length]? = _ := get_set_ne d9 (by omega)
        have g10 : Gr h2 (h9.set h4.length (.lst (nI (rd.erase le)))) := Gr.later g9 (by omega) _
        have rm1 : ∀ x, x ∈ rd.erase le ↔ x ∈ kn ∧ x ∉ od ++ [le] := fun x => by
          rw [o9.nr.mem_erase_iff, o9.rm, List.mem_append, List.mem_singleton]
          constructor
          · rintro ⟨a, b, c⟩; exact ⟨b, fun z => z.elim c a⟩
          · rintro ⟨b, c⟩; exact ⟨fun z => c (.inr z), b, fun z => c (.inl z)⟩
        have nr1 := o9.nr.erase le
        refine ⟨⟨le, hle, rfl⟩, ?_⟩
        generalize h9.set h4.length (.lst (nI (rd.erase le))) = h10 at e10 k10 d10 g10
        generalize rd.erase le = rd1 at e10 rm1 nr1
        rw [FwI_iff, seqI]
        simp [d10, nI_len]
        rw [← nI_snoc]
        refine ⟨by omega, ?_⟩
        have d11 : (h10.set h7.length (.lst (nI (od ++ [le]))))[h7.length]? = _ := get_set d10
        have e11 : (h10.set h7.length (.lst (nI (od ++ [le]))))[h4.length]? = _ := get_set_ne e10 (by omega)
        have k11 : (h10.set h7.length (.lst (nI (od ++ [le]))))[h6.length]? = _ := get_set_ne k10 (by omega)
        have g11 : Gr h2 (h10.set h7.length (.lst (nI (od ++ [le])))) := Gr.later g10 (by omega) _
        generalize h10.set h7.length (.lst (nI (od ++ [le]))) = h11 at d11 e11 k11 g11
        have T11 := Gr.get g11 o2.tb
        rw [FwI_iff]
        have n12 := get_new h11 (Ob.lst (nI []))
        have g12 := Gr.new h11 [Ob.lst (nI [])]
        rw [en] at n12 g12
        have T12 := Gr.get g12 T11
        have d12 := Gr.get g12 d11
        have e12 := Gr.get g12 e11
        have k12 := Gr.get g12 k11
        simp [T11]
        generalize h11 ++ [Ob.lst []] = h12 at n12 g12 T12 d12 e12 k12
        have g212 : Gr h2 h12 := Fr.trans g11 g12
        try rw [T12]
        try simp only [W_ok]
        -- the followers of least
        obtain ⟨r, fs, er, hr12, lfs, pfs, qfs⟩ : ∃ (r : Nat) (fs : List Nat), (dGet (dk fa F) (.inl (le : Int))).getD (.ref h11.length) = .ref r ∧ h12[r]? = some (.lst (nI fs)) ∧ fs.length ≤ 300 ∧ (∀ p ∈ fs, p ∈ ps ∧ le ∈ oth p) ∧ ∀ p ∈ ps, le ∈ oth p → p ∈ fs := by
          rw [dGet_dk]
          by_cases hF : le ∈ F
          · rw [if_pos hF]
            exact ⟨fa le, fl le, rfl, Gr.get g212 (o2.at_ le hF), o2.ln le hF, o2.pr le hF, fun p hp hl => (o2.dn p le ⟨hp, hl⟩).2⟩
          · rw [if_neg hF]
            exact ⟨h11.length, [], rfl, n12, by simp, nofun, fun p hp hl => absurd (o2.dn p le ⟨hp, hl⟩).1 hF⟩
        rw [er]
        have rn : r ≠ h4.length ∧ r ≠ h6.length ∧ r ≠ h7.length := by
          rw [dGet_dk] at er
          by_cases hF : le ∈ F
          · rw [if_pos hF] at er
            have e1 : fa le = r := by simpa using er
            have := lt_of_get (o2.at_ le hF)
            omega
          · rw [if_neg hF] at er
            have e1 : h11.length = r := by simpa using er
            have a1 := lt_of_get d11
            have a2 := lt_of_get e11
            have a3 := lt_of_get k11
            omega
        simp [hr12]
        refine for_lst (xs := nI fs) (fun j ρ h' => Gr h2 h' ∧ ∃ (rd' kn' : List Nat) (y4 : Option Val), h'[r]? = some (.lst (nI fs)) ∧ h'[h4.length]? = some (.lst (nI rd')) ∧ h'[h6.length]? = some (.dic (kt kn')) ∧ h'[h7.length]? = some (.lst (nI (od ++ [le]))) ∧ kn'.Nodup ∧ rd'.Nodup ∧ (∀ x, x ∈ kn' ↔ x ∈ kn ∨ x ∈ fs.take j) ∧ (∀ x, x ∈ rd' ↔ x ∈ kn' ∧ x ∉ od ++ [le]) ∧ ρ = [some (.ref a), some (.ref h.length), some (.ref T), some (.ref h4.length), y4, some (.ref h6.length), some (.ref h7.length), some (.int (le : Nat))]) ⟨g212, rd1, kn, _, hr12, e12, k12, d12, o9.nk, nr1, fun x => by simp, rm1, rfl⟩ (fun j ρ h' _ I => by obtain ⟨_, _, _, _, z, _⟩ := I; exact z) ?_ ?_
        · rintro j x ρ h13 hx ⟨g13, rd', kn', y4, r13, e13, k13, d13, nk13, nr13, km13, rm13, rfl⟩
          obtain ⟨p, hp, rfl⟩ := map_inv hx
          have hpm := pfs p (List.mem_of_getElem? hp)
          have lt13 : ∀ x ∈ kn', x < 100 := fun x hx => by
            rcases (km13 x).mp hx with z | z
            · exact occL_lt x ((o9.km x).mp z).1
            · exact w.lt x (pfs x (List.mem_of_mem_take z)).1
          have lk13 := nd100 nk13 lt13
          have lr13 := nd100 nr13 fun x hx => lt13 x ((rm13 x).mp hx).1
          have pocc : p < 100 := w.lt p hpm.1
          generalize ePP : Po.mk _ _ _ _ _ = PQ
          have hnq : ∀ (h' : Mem) (rd' kn' : List Nat) (y4 : Option Val), Gr h2 h' → h'[r]? = some (.lst (nI fs)) → h'[h4.length]? = some (.lst (nI rd')) → h'[h6.length]? = some (.dic (kt kn')) → h'[h7.length]? = some (.lst (nI (od ++ [le]))) → kn'.Nodup → rd'.Nodup → (∀ x, x ∈ kn' ↔ x ∈ kn ∨ x ∈ fs.take j ++ [p]) → (∀ x, x ∈ rd' ↔ x ∈ kn' ∧ x ∉ od ++ [le]) → PQ.nx [some (.ref a), some (.ref h.length), some (.ref T), some (.ref h4.length), y4, some (.ref h6.length), some (.ref h7.length), some (.int (le : Nat))] h' := by
            intro h' rd' kn' y4 g e1 e2 e3 e4 n1 n2 m1 m2
            rw [← ePP]
            exact ⟨g, rd', kn', _, e1, e2, e3, e4, n1, n2, fun x => by rw [take_snoc hp]; exact m1 x, m2, rfl⟩
          clear ePP
          by_cases hk : p ∈ kn'
          · obtain ⟨vk, gk⟩ := dGet_kt_yes hk
            simp [k13, gk]
            refine hnq _ rd' kn' _ g13 r13 e13 k13 d13 nk13 nr13 (fun x => ?_) rm13
            rw [List.mem_append, List.mem_singleton, ← or_assoc, ← km13]
            exact ⟨.inl, fun z => z.elim id fun z => z ▸ hk⟩
          · have gk := dGet_kt_no hk
            simp only [w_sIf, seqI]
            simp [k13, gk]
            rw [dPut_kt hk]
            refine ⟨by rw [kt_len]; omega, ?_⟩
            have k14 : (h13.set h6.length (.dic (kt (kn' ++ [p]))))[h6.length]? = _ := get_set k13
            have r14 : (h13.set h6.length (.dic (kt (kn' ++ [p]))))[r]? = _ := get_set_ne r13 (Ne.symm rn.2.1)
            have e14 : (h13.set h6.length (.dic (kt (kn' ++ [p]))))[h4.length]? = _ := get_set_ne e13 (by omega)
            have d14 : (h13.set h6.length (.dic (kt (kn' ++ [p]))))[h7.length]? = _ := get_set_ne d13 (by omega)
            have g14 : Gr h2 (h13.set h6.length (.dic (kt (kn' ++ [p])))) := Gr.later g13 (by omega) _
            generalize h13.set h6.length (.dic (kt (kn' ++ [p]))) = h14 at k14 r14 e14 d14 g14
            have pod : p ∉ od ++ [le] := fun z => by
              apply hk
              rw [km13]
              rcases List.mem_append.mp z with z | z
              · exact .inl (o9.sub p z)
              · rw [show p = le by simpa using z]; exact .inl lek.1
            rw [FwI_iff]
            simp [e14, nI_len]
            rw [← nI_snoc]
            refine ⟨by omega, hnq _ (rd' ++ [p]) (kn' ++ [p]) _ (Gr.later g14 (by omega) _) (get_set_ne r14 (Ne.symm rn.1)) (get_set e14) (get_set_ne k14 (by omega)) (get_set_ne d14 (by omega)) (nd_snoc nk13 hk) (nd_snoc nr13 fun z => hk ((rm13 p).mp z).1) (fun x => ?_) (fun x => ?_)⟩
            · rw [List.mem_append, List.mem_append, km13, or_assoc]
            · rw [List.mem_append, List.mem_append, List.mem_singleton, rm13]
              constructor
              · rintro (⟨a, b⟩ | z)
                · exact ⟨.inl a, b⟩
                · rw [z]; exact ⟨.inr rfl, pod⟩
              · rintro ⟨a | a, b⟩
                · exact .inl ⟨a, b⟩
                · exact .inr a
        · rintro ρ h13 ⟨g13, rd', kn', y4, r13, e13, k13, d13, nk13, nr13, km13, rm13, rfl⟩
          simp
          rw [nI_len, List.take_length] at km13
          refine hnx _ rd' kn' _ _ g13 e13 k13 d13 ⟨nk13, nr13, fun x => ?_, rm13, rn1⟩
          rw [km13, o9.km]
          constructor
          · rintro (⟨a, b⟩ | z)
            · exact ⟨a, b.elim .inl fun ⟨y, hy, hz⟩ => .inr ⟨y, hy, by simp [hz]⟩⟩
            · have := pfs x z
              have eo : ot oth ps x = oth x := by unfold ot; rw [if_pos this.1]
              exact ⟨(occL_mem fl0).mpr (mem_flat.mpr ⟨x, this.1, .inl rfl⟩), .inr ⟨le, by rw [eo]; exact this.2, by simp⟩⟩
          · rintro ⟨a, b⟩
            rcases b with b | ⟨y, hy, hz⟩
            · exact .inl ⟨a, .inl b⟩
            · rcases List.mem_append.mp hz with z | z
              · exact .inl ⟨a, .inr ⟨y, hy, z⟩⟩
              · have ey : y = le := by simpa using z
                subst ey
                have hps : x ∈ ps := Classical.byContradiction fun z => by
                  unfold ot at hy
                  rw [if_neg z] at hy
                  cases hy
                have eo : ot oth ps x = oth x := by unfold ot; rw [if_pos hps]
                rw [eo] at hy
                exact .inr (qfs x hps hy)
end
end K40
set_option Elab.async false
set_option linter.all false
set_option maxRecDepth 100000
set_option maxHeartbeats 1000000
namespace K40
open Mp PySem L2
def okI (oth : Nat → List Nat) (ps os : List Nat) (x : Nat) : Bool := decide (x ∈ occL oth ps) && bel oth ps os x
def goB (oth : Nat → List Nat) (ps os : List Nat) : Bool := (List.range os.length).all fun i => okI oth ps (os.take i) (os.getD i 0)
def goV (oth : Nat → List Nat) (ps : List Nat) (xs : List Val) : Bool := distB 99 xs && goB oth ps (natsOf xs)
section
variable {h h' : Mem} {a : Nat} {ps : List Nat} {oth : Nat → List Nat} {adr : Nat → Nat}
theorem goV_d (xs : List Val) (h : distB ((100 : Nat) - 1 : Int) xs = false) : goV oth ps xs = false := by
  unfold goV
  rw [show distB 99 xs = false from h]
  rfl
theorem goV_yes {os : List Nat} (nd : os.Nodup) (lt : ∀ x ∈ os, x < 100) : goV oth ps (nI os) = goB oth ps os := by
  unfold goV
  have : distB 99 (nI os) = true := distB_of (n := 100) nd lt
  rw [this, natsOf_nI]
  rfl
theorem goB_f {zs : List Nat} {i wd : Nat} (hi : zs[i]? = some wd) (hf : okI oth ps (zs.take i) wd = false) : goB oth ps zs = false := by
  unfold goB
  rw [List.all_eq_false]
  refine ⟨i, List.mem_range.mpr (list_get hi), ?_⟩
  rw [List.getD_eq_getElem?_getD, hi, Option.getD_some, hf]
  simp
theorem goV_f {xs : List Val} {i wd : Nat} {os : List Nat} (et : xs.take i = nI os) (hxi : xs[i]? = some (.int (wd : Int))) (hf : okI oth ps os wd = false) : goV oth ps xs = false := by
  cases hd : distB 99 xs with
  | false => exact goV_d xs hd
  | true =>
    obtain ⟨zs, rfl, nd, lt⟩ := os_of (n := 100) hd
    rw [goV_yes nd lt]
    rw [nI_take] at et
    have e1 := nI_inj et
    obtain ⟨w', hw, e2⟩ := map_inv hxi
    have e3 : wd = w' := by
      have : (wd : Int) = (w' : Int) := by simpa using e2
      omega
    subst e3
    exact goB_f hw (by rw [e1]; exact hf)
theorem goB_snoc {os : List Nat} {x : Nat} : goB oth ps (os ++ [x]) = (goB oth ps os && okI oth ps os x) := by
  unfold goB
  rw [List.length_append, List.length_singleton, List.range_succ, List.all_append]
  congr 1
  · rw [Bool.eq_iff_iff, List.all_eq_true, List.all_eq_true]
    refine forall_congr' fun i => forall_congr' fun hi => ?_
    have hi := List.mem_range.mp hi
    rw [List.take_append_of_le_length (by omega), List.getD_eq_getElem?_getD, List.getD_eq_getElem?_getD, List.getElem?_append_left hi]
  · simp
theorem is_order_no {e : Nat} (he : 2 ≤ e) {v u : Val} (t : Ty h v) (nl : ∀ n, v ≠ .ref n) : callF Γ e "is_order" [v, u] h = .ok (.bl false) h := by
  obtain ⟨d, rfl⟩ : ∃ d, e = d + 1 := ⟨e - 1, by omega⟩
  rw [c_is_order]
  refine W_eq ?_
  simp only [W_fin, s_is_order]
  simp [distinct_no (e := d) (by omega) t nl]
theorem is_order_list {e : Nat} (he : 3 ≤ e) (w : Ws h a ps oth adr) {v : Nat} {xs : List Val} (hx : h[v]? = some (.lst xs)) (hl : xs.length < 1000) (ty : ∀ x ∈ xs, Ty h x) {Q : Val → Mem → Prop} {X : XQ}
    (q : ∀ h', Gr h h' → Q (.bl (goV oth ps xs)) h') : (callF Γ e "is_order" [.ref v, .ref a] h).W Q X := by
  obtain ⟨d, rfl⟩ : ∃ d, e = d + 1 := ⟨e - 1, by omega⟩
  have ls := sizeLine_eq
  have lO := occL_len (oth := oth) (ps := ps)
  rw [c_is_order]
  simp only [W_fin, s_is_order]
  rw [seqI]
  simp
  refine distinct_ok (by omega) hx hl ty _ fun h1 g1 => ?_
  have x1 := Gr.get g1 hx
  have w1 := w.gr g1
  cases hd : distB 99 xs with
  | false =>
    simp
    have := q h1 g1
    rwa [goV_d _ hd] at this
  | true =>
    obtain ⟨os, rfl, nd, lt⟩ := os_of (n := 100) hd
    simp
    have lo : os.length ≤ 100 := nd100 nd lt
    rw [goV_yes nd lt] at q
    rw [FwI_iff, seqI]
    simp
    rw [obp_ok (by omega) w1]
    have t2 := get_new h1 (Ob.dic (dk adr ps))
    have g2 : Gr h (h1 ++ [Ob.dic (dk adr ps)]) := Fr.trans g1 (Gr.new _ _)
    have x2 : (h1 ++ [Ob.dic (dk adr ps)])[v]? = some (.lst (nI os)) := get_app _ x1
    simp
    generalize h1 ++ [Ob.dic (dk adr ps)] = h2 at t2 g2 x2
    have w2 := w.gr g2
    rw [FwI_iff, seqI]
    simp
    refine occ_ok (by omega) w2 fun h3 O g3 O3 => ?_
    rw [FwI_iff, seqI]
    simp
    have n4 := get_new h3 (Ob.dic (kt []))
    have g4 := Gr.new h3 [Ob.dic (kt [])]
    have ek : kt [] = [] := rfl
    have t4 := Gr.get (Fr.trans g3 g4) t2
    have x4 := Gr.get (Fr.trans g3 g4) x2
    have O4 := Gr.get g4 O3
    have l03 := (Fr.trans g2 g3).len
    have lv := lt_of_get (Gr.get g3 x2)
    have lT := lt_of_get (Gr.get g3 t2)
    have lOO := lt_of_get O3
    have gh4 : Gr h3 (h3 ++ [Ob.dic []]) := Gr.new _ _
    rw [ek] at n4 t4 x4 O4 g4
    generalize h3 ++ [Ob.dic []] = h4 at n4 t4 x4 O4 g4 gh4
    rw [FwI_iff, seqI]
    simp [x4]
    refine for_lst (xs := nI os) (fun i ρ h' => Gr h3 h' ∧ h'[h3.length]? = some (.dic (kt (os.take i))) ∧ goB oth ps (os.take i) = true ∧ ∃ y5 y6, ρ = [some (.ref v), some (.ref a), some (.ref h1.length), some (.ref O), some (.ref h3.length), y5, y6, none]) ⟨gh4, n4, rfl, _, _, rfl⟩ (fun i ρ h' _ I => Gr.get (Fr.trans g3 I.1) x2) ?_ ?_
    · rintro i x ρ h5 hx5 ⟨g5, k5, hall, y5, y6, rfl⟩
      obtain ⟨p, hp, rfl⟩ := map_inv hx5
      have hi := list_get hp
      have pn := take_not nd hp
      generalize ePP : Po.mk _ _ _ _ _ = PP
      have hnx : ∀ (h' : Mem) (y5 y6 : Option Val), Gr h3 h' → h'[h3.length]? = some (.dic (kt (os.take i ++ [p]))) → okI oth ps (os.take i) p = true → PP.nx [some (.ref v), some (.ref a), some (.ref h1.length), some (.ref O), some (.ref h3.length), y5, y6, none] h' := by
        intro h' y5 y6 g k hh
        rw [← ePP]
        refine ⟨g, by rw [take_snoc hp]; exact k, ?_, _, _, rfl⟩
        rw [take_snoc hp, goB_snoc, hall, hh]
        rfl
      have hrt : ∀ (h' : Mem), Gr h3 h' → okI oth ps (os.take i) p = false → PP.rt (.bl false) h' := by
        intro h' g hh
        rw [← ePP]
        show Q _ _
        have := q h' (Fr.trans g2 (Fr.trans g3 g))
        rwa [goB_f hp hh] at this
      clear ePP
      have t5 := Gr.get (Fr.trans g3 g5) t2
      have O5 := Gr.get g5 O3
      have lt5 : (os.take i).length ≤ 100 := by rw [List.length_take]; omega
      generalize os.take i = pre at pn hnx hrt k5 lt5
      have nn := notin_nI p O5 (by omega)
      rw [seqI]
      by_cases hpo : p ∈ occL oth ps
      · simp [hpo] at nn
        simp [O5, nn]
        rw [FwI_iff, seqI]
        have n6 := get_new h5 (Ob.lst (nI []))
        have g6 := Gr.new h5 [Ob.lst (nI [])]
        have en : nI [] = [] := rfl
        have t6 := Gr.get g6 t5
        have k6 := Gr.get g6 k5
        obtain ⟨r, er, h6r, l6⟩ := get_ot (w := (w.gr (Fr.trans g2 (Fr.trans g3 (Fr.trans g5 g6))))) p h5.length n6
        rw [en] at g6 t6 h6r k6
        simp [t5]
        generalize h5 ++ [Ob.lst []] = h6 at g6 t6 h6r k6
        try rw [t6]
        try simp only [W_ok]
        rw [er]
        have g36 := Fr.trans g5 g6
        have last : ∀ h', Gr h3 h' → h'[h3.length]? = some (.dic (kt pre)) → okI oth ps pre p = true → FwI (sSetIdx (eVar 4) (eVar 5) (eC (.bl true)) [some (.ref v), some (.ref a), some (.ref h1.length), some (.ref O), some (.ref h3.length), some (.int (p : Int)), some (.ref r), none] h') PP := by
          intro h' g k ok
          rw [FwI_iff]
          simp [k]
          rw [dPut_kt pn]
          refine ⟨by rw [kt_len]; omega, hnx _ _ _ (Gr.later g (Nat.le_refl _) _) (get_set k) ok⟩
        have okE : okI oth ps pre p = bel oth ps pre p := by unfold okI; simp [hpo]
        unfold bel at okE
        generalize hO : ot oth ps p = L at h6r l6 okE
        rw [FwI_iff, seqI]
        cases L with
        | nil =>
          simp [h6r, nI]
          exact last h6 g36 k6 (by rw [okE]; rfl)
        | cons o1 L =>
          have hne4 : nI (o1 :: L) ≠ [] := by simp [nI]
          have okE2 : okI oth ps pre p = (o1 :: L).any fun y => decide (y ∈ pre) := by rw [okE]; rfl
          simp [h6r, hne4]
          refine lcm_lst (fun x => .bl (decide (x ∈ pre))) h6r (by omega) (fun x h7 hx7 g7 => ?_) fun h7 g7 => ?_
          · have k7 := Gr.get g7 k6
            have gk := dGet_kt x pre
            by_cases hxp : x ∈ pre
            · obtain ⟨vk, gk⟩ := dGet_kt_yes hxp
              simp [wipeE, k7, gk, hxp]
              exact g7
            · have gk := dGet_kt_no hxp
              simp [wipeE, k7, gk, hxp]
              exact g7
          · have bo : blsOf ((o1 :: L).map fun x => Val.bl (decide (x ∈ pre))) = some ((o1 :: L).map fun x => decide (x ∈ pre)) := by
              have := blsOf_map ((o1 :: L).map fun x => decide (x ∈ pre))
              rwa [List.map_map] at this
            have k7 := Gr.get g7 k6
            have n8 := get_new h7 (Ob.lst ((o1 :: L).map fun x => Val.bl (decide (x ∈ pre))))
            have g8 := Gr.new h7 [Ob.lst ((o1 :: L).map fun x => Val.bl (decide (x ∈ pre)))]
            have k8 := Gr.get g8 k7
            have ea : ((o1 :: L).map fun x => decide (x ∈ pre)).any id = okI oth ps pre p := by rw [okE2, List.any_map]; rfl
            have lL : ((o1 :: L).map fun x => Val.bl (decide (x ∈ pre))).length ≤ 16 := by rw [List.length_map]; exact l6
            generalize (o1 :: L).map (fun x => Val.bl (decide (x ∈ pre))) = BV at bo n8 g8 k8 lL
            generalize (o1 :: L).map (fun x => decide (x ∈ pre)) = BB at bo ea
            refine ⟨by omega, ?_⟩
            generalize h7 ++ [Ob.lst BV] = h8 at n8 g8 k8
            have g38 := Fr.trans g36 (Fr.trans g7 g8)
            have tm : true ∈ BB ↔ okI oth ps pre p = true := by
              rw [← ea, List.any_eq_true]
              exact ⟨fun z => ⟨true, z, rfl⟩, fun ⟨x, z, e⟩ => by rw [show x = true from e] at z; exact z⟩
            rw [bo, optP_some]
            refine ⟨fun hf => hrt h8 g38 ?_, fun hf => last h8 g38 k8 (tm.mp hf)⟩
            cases hc : okI oth ps pre p with
            | false => rfl
            | true => exact absurd (tm.mpr hc) hf
      · simp [hpo] at nn
        simp [O5, nn]
        exact hrt h5 g5 (by unfold okI; simp [hpo])
    · rintro ρ h5 ⟨g5, k5, hall, y5, y6, rfl⟩
      rw [nI_len, List.take_length] at hall
      simp only [w_sSkip]
      rw [FwI_iff]
      simp
      have := q h5 (Fr.trans g2 (Fr.trans g3 g5))
      rwa [hall] at this
end
end K40
set_option Elab.async false
set_option linter.all false
set_option maxRecDepth 100000
set_option maxHeartbeats 1000000
namespace K40
open Mp PySem L2
theorem srt_pw (K : List Int) (nd : K.Nodup) : (K.mergeSort fun a b => decide (a ≤ b)).Pairwise (· < ·) := by
  have h1 : (K.mergeSort fun a b => decide (a ≤ b)).Pairwise (fun a b => decide (a ≤ b) = true) := List.pairwise_mergeSort (fun a b c h1 h2 => by simp at *; omega) (fun a b => by simp; omega) K
  have h2 : (K.mergeSort fun a b => decide (a ≤ b)).Nodup := (List.mergeSort_perm K _).nodup_iff.mpr nd
  rw [List.nodup_iff_pairwise_ne] at h2
  exact (h1.and h2).imp fun ⟨a, b⟩ => by simp at a; omega
theorem srt_eq {K L : List Nat} (nd : K.Nodup) (pw : L.Pairwise (· < ·)) (m : ∀ x, x ∈ K ↔ x ∈ L) : srt K = nI L := by
  have e : (K.map fun i : Nat => (i : Int)).mergeSort (fun a b => decide (a ≤ b)) = L.map fun i : Nat => (i : Int) := by
    refine lt_uniq (srt_pw _ ?_) (by rw [List.pairwise_map]; exact pw.imp fun h => by omega) fun k => ?_
    · rw [List.nodup_iff_pairwise_ne, List.pairwise_map]
      exact (List.nodup_iff_pairwise_ne.mp nd).imp fun h => by omega
    · rw [List.mem_mergeSort, List.mem_map, List.mem_map]
      exact ⟨fun ⟨x, hx, e⟩ => ⟨x, (m x).mp hx, e⟩, fun ⟨x, hx, e⟩ => ⟨x, (m x).mpr hx, e⟩⟩
  unfold srt
  rw [e, nI_ints]
section
variable {h h' : Mem} {a : Nat} {ps : List Nat} {oth : Nat → List Nat} {adr : Nat → Nat}
theorem locc_ok {e : Nat} (he : 1 ≤ e) (w : Ws h a ps oth adr) {Q : Val → Mem → Prop} {X : XQ}
    (q : ∀ (h' : Mem) (n : Nat), Gr h h' → h.length ≤ n → h'[n]? = some (.lst (nI (occL oth ps))) → Q (.ref n) h') : (callF Γ e "_law_occurring" [.ref a] h).W Q X := by
  obtain ⟨d, rfl⟩ : ∃ d, e = d + 1 := ⟨e - 1, by omega⟩
  have ls := sizeLine_eq
  have l16 := w.len
  have fl0 := flat_lt w
  rw [c__law_occurring]
  simp only [W_fin, s__law_occurring]
  rw [seqI]
  simp
  have n1 := get_new h (Ob.lst (nI []))
  have g1 := Gr.new h [Ob.lst (nI [])]
  have en : nI [] = [] := rfl
  rw [en] at n1 g1
  generalize h ++ [Ob.lst []] = h1 at n1 g1
  have w1 := w.gr g1
  rw [FwI_iff, seqI]
  simp [w1.ls, -List.length_map]
  refine for_lst (xs := ps.map (wT adr)) (fun i ρ h' => Gr h h' ∧ ∃ (L : List Nat) (y2 y3 : Option Val), h'[h.length]? = some (.lst (nI L)) ∧ L.Nodup ∧ (∀ x, x ∈ L ↔ x ∈ flat oth (ps.take i)) ∧ ρ = [some (.ref a), some (.ref h.length), y2, y3]) ⟨g1, [], _, _, n1, List.nodup_nil, fun x => by simp [flat], rfl⟩ (fun i ρ h' _ I => Gr.get I.1 w.ls) ?_ ?_
  · rintro i x ρ h2 hx ⟨g2, L, y2, y3, n2, nd, mm, rfl⟩
    obtain ⟨p, hp, rfl⟩ := wT_get hx
    have hpm := List.mem_of_getElem? hp
    have lo := w.ol p hpm
    have l2 := g2.len
    have lh := lt_of_get n2
    have n3 := get_new h2 (Ob.lst (nI [p]))
    have g3 := Gr.new h2 [Ob.lst (nI [p])]
    have e3 := (w.gr (Fr.trans g2 g3)).at_ p hpm
    have n2' := Gr.get g3 n2
    have ep : nI [p] = [.int (p : Int)] := rfl
    rw [ep] at n3 g3 e3 n2'
    have lh3 : h2.length ≤ (h2 ++ [Ob.lst [.int (p : Int)]]).length := by simp
    simp
    refine ⟨by omega, ?_⟩
    generalize h2 ++ [Ob.lst [.int (p : Int)]] = h3 at n3 g3 e3 n2' lh3
    rw [← ep] at n3
    simp [n3, e3, nI_app]
    refine ⟨by have := nI_len (oth p); omega, ?_⟩
    rw [show Val.int (p : Int) :: nI (oth p) = nI (p :: oth p) from rfl, show (nI (oth p)).length + 1 = (nI (p :: oth p)).length from rfl]
    have n4 := get_new h3 (Ob.lst (nI (p :: oth p)))
    have g4 := Gr.new h3 [Ob.lst (nI (p :: oth p))]
    have n24 := Gr.get g4 n2'
    have l23 := lt_of_get n3
    generalize h3 ++ [Ob.lst (nI (p :: oth p))] = h4 at n4 g4 n24
    have g04 : Gr h h4 := Fr.trans g2 (Fr.trans g3 g4)
    have tf := take_flat (oth := oth) hp
    have fsub : ∀ x, x ∈ flat oth (ps.take i) ∨ x ∈ p :: oth p → x < 100 := fun x z => fl0 x (flat_sub (i := i + 1) (by rw [tf, List.mem_append]; exact z))
    generalize ePP : Po.mk _ _ _ _ _ = PP
    have hnx : ∀ (h' : Mem) (L' : List Nat) (y2 y3 : Option Val), Gr h h' → h'[h.length]? = some (.lst (nI L')) → L'.Nodup → (∀ x, x ∈ L' ↔ x ∈ flat oth (ps.take i) ∨ x ∈ p :: oth p) → PP.nx [some (.ref a), some (.ref h.length), y2, y3] h' := by
      intro h' L' y2 y3 g n nd m
      rw [← ePP]
      refine ⟨g, L', ?_⟩
      first
        | exact ⟨_, _, n, nd, fun x => by rw [tf, List.mem_append]; exact m x, rfl⟩
        | exact ⟨n, nd, fun x => by rw [tf, List.mem_append]; exact m x, _, _, rfl⟩
    clear ePP
    refine for_lst (xs := nI (p :: oth p)) (fun j ρ h' => Gr h h' ∧ ∃ (L : List Nat) (y2 y3 : Option Val), h'[h3.length]? = some (.lst (nI (p :: oth p))) ∧ h'[h.length]? = some (.lst (nI L)) ∧ L.Nodup ∧ (∀ x, x ∈ L ↔ x ∈ flat oth (ps.take i) ∨ x ∈ (p :: oth p).take j) ∧ ρ = [some (.ref a), some (.ref h.length), y2, y3]) ⟨g04, L, _, _, n4, n24, nd, fun x => by rw [mm]; simp, rfl⟩ (fun i ρ h' _ I => by obtain ⟨_, _, _, _, z, _⟩ := I; exact z) ?_ ?_
    · rintro j x ρ h5 hx ⟨g5, L, y2, y3, m5, n5, nd, mm, rfl⟩
      obtain ⟨z, hz, rfl⟩ := map_inv hx
      have lL := nd100 nd fun x hx => fsub x (((mm x).mp hx).elim .inl fun z => .inr (List.mem_of_mem_take z))
      have nn := notin_nI z n5 (by omega)
      generalize ePQ : Po.mk _ _ _ _ _ = PQ
      have hnq : ∀ (h' : Mem) (L' : List Nat) (y2 y3 : Option Val), Gr h h' → h'[h3.length]? = some (.lst (nI (p :: oth p))) → h'[h.length]? = some (.lst (nI L')) → L'.Nodup → (∀ x, x ∈ L' ↔ x ∈ flat oth (ps.take i) ∨ x ∈ (p :: oth p).take j ++ [z]) → PQ.nx [some (.ref a), some (.ref h.length), y2, y3] h' := by
        intro h' L' y2 y3 g m n nd mm
        rw [← ePQ]
        exact ⟨g, L', _, _, m, n, nd, fun x => by rw [take_snoc hz]; exact mm x, rfl⟩
      clear ePQ
      by_cases hk : z ∈ L
      · simp [hk] at nn
        simp [n5, nn]
        refine hnq _ L _ _ g5 m5 n5 nd fun x => ?_
        rw [List.mem_append, List.mem_singleton, ← or_assoc, ← mm]
        exact ⟨.inl, fun y => y.elim id fun y => y ▸ hk⟩
      · simp [hk] at nn
        simp [n5, nn, nI_len]
        rw [← nI_snoc]
        refine ⟨by omega, hnq _ (L ++ [z]) _ _ (Gr.later g5 (Nat.le_refl _) _) (get_set_ne m5 (by omega)) (get_set n5) (nd_snoc nd hk) fun x => ?_⟩
        rw [List.mem_append, List.mem_append, mm, or_assoc]
    · rintro ρ h5 ⟨g5, L, y2, y3, m5, n5, nd, mm, rfl⟩
      rw [nI_len, List.take_length] at mm
      simp only [w_sSkip]
      exact hnx _ L _ _ g5 n5 nd mm
  · rintro ρ h2 ⟨g2, L, y2, y3, n2, nd, mm, rfl⟩
    rw [List.length_map, List.take_length] at mm
    simp only [w_sSkip]
    rw [FwI_iff]
    have lL := nd100 nd fun x hx => fl0 x ((mm x).mp hx)
    simp only [w_sRet, w_eBi, w_aCons, w_aNil, w_eVar, List.getElem?_cons_zero, List.getElem?_cons_succ, optP_some]
    rw [sort_nI n2 (by omega), srt_eq nd occL_pw fun x => by rw [mm, occL_mem fl0]]
    exact q _ _ (Fr.trans g2 (Gr.new _ _)) g2.len (get_new _ _)
theorem lig_no {e : Nat} (he : 2 ≤ e) {v u : Val} (t : Ty h v) (nl : ∀ n, v ≠ .ref n) : callF Γ e "_law_is_going" [v, u] h = .ok (.bl false) h := by
  obtain ⟨d, rfl⟩ : ∃ d, e = d + 1 := ⟨e - 1, by omega⟩
  rw [c__law_is_going]
  refine W_eq ?_
  simp only [W_fin, s__law_is_going]
  cases t with
  | lst n xs e => exact absurd rfl (nl n)
  | _ => simp [subTy]
theorem lig_list {e : Nat} (he : 3 ≤ e) (w : Ws h a ps oth adr) {v : Nat} {xs : List Val} (hx : h[v]? = some (.lst xs)) (hl : xs.length < 1000) (ty : ∀ x ∈ xs, Ty h x) {Q : Val → Mem → Prop} {X : XQ}
    (q : ∀ h', Gr h h' → Q (.bl (goV oth ps xs)) h') : (callF Γ e "_law_is_going" [.ref v, .ref a] h).W Q X := by
  obtain ⟨d, rfl⟩ : ∃ d, e = d + 1 := ⟨e - 1, by omega⟩
  have ls := sizeLine_eq
  have lO := occL_len (oth := oth) (ps := ps)
  rw [c__law_is_going]
  simp only [W_fin, s__law_is_going]
  rw [seqI]
  simp [subTy, hx]
  rw [FwI_iff, seqI]
  simp
  refine pairs_ok (by omega) w fun h0 g0 t0 => ?_
  rw [FwI_iff, seqI]
  simp
  refine locc_ok (by omega) (w.gr g0) fun h1 O g1 hO O1 => ?_
  have g01 := Fr.trans g0 g1
  have x1 := Gr.get g01 hx
  have t1 := Gr.get g1 t0
  rw [FwI_iff, seqI]
  simp [x1]
  refine ⟨by unfold small62; simp; omega, ?_⟩
  refine for_rng (fun i ρ h' => Gr h1 h' ∧ ∃ os y4 y5, xs.take i = nI os ∧ os.Nodup ∧ (∀ x ∈ os, x < 100) ∧ goB oth ps os = true ∧ ρ = [some (.ref v), some (.ref a), some (.ref h.length), some (.ref O), y4, y5, none]) ⟨Fr.refl _ _, [], _, _, rfl, List.nodup_nil, nofun, rfl, rfl⟩ ?_ ?_
  · rintro i ρ h2 hi ⟨g2, os, y4, y5, et, nd, lt, hok, rfl⟩
    have x2 := Gr.get g2 x1
    have t2 := Gr.get g2 t1
    have O2 := Gr.get g2 O1
    obtain ⟨x, hxi⟩ : ∃ x, xs[i]? = some x := ⟨xs[i], by simp [hi]⟩
    have tx := (ty x (List.mem_of_getElem? hxi)).gr (Fr.trans g01 g2)
    have ai : atI xs (i : Int) = some x := by rw [Mp.atI_nat, hxi]
    have l100 := nd100 nd lt
    rw [show (0 : Int) + (i : Nat) = (i : Int) by omega]
    generalize ePP : Po.mk _ _ _ _ _ = PP
    have hrt : ∀ (h' : Mem), Gr h1 h' → goV oth ps xs = false → PP.rt (.bl false) h' := by
      intro h' g hf
      rw [← ePP]
      show Q _ _
      have := q h' (Fr.trans g01 g)
      rwa [hf] at this
    have hnx : ∀ (h' : Mem) (os' : List Nat) (y4 y5 : Option Val), Gr h1 h' → xs.take (i + 1) = nI os' → os'.Nodup → (∀ x ∈ os', x < 100) → goB oth ps os' = true → PP.nx [some (.ref v), some (.ref a), some (.ref h.length), some (.ref O), y4, y5, none] h' := by
      intro h' os' y4 y5 g e1 e2 e3 e4
      rw [← ePP]
      exact ⟨g, os', _, _, e1, e2, e3, e4, rfl⟩
    clear ePP
    have io := integer_ok (e := d) (by omega) tx 99
    rcases dist_step (n := 100) hxi et nd lt with ⟨r0, d0⟩ | ⟨wd, r1, rfl, wl, d1, d2⟩
    · have r0 : inR 99 x = false := r0
      rw [r0] at io
      rw [seqI]
      simp [x2, ai, io]
      exact hrt h2 g2 (goV_d xs d0)
    · have r1 : inR 99 (.int (wd : Int)) = true := r1
      rw [r1] at io
      rw [seqI]
      have n4 := get_new h2 (Ob.lst (nI os))
      have g4 := Gr.new h2 [Ob.lst (nI os)]
      simp [x2, ai, io, cut_take, et]
      generalize h2 ++ [Ob.lst (nI os)] = h4 at n4 g4
      refine ⟨by rw [nI_len]; omega, ?_⟩
      have inn := in_nI wd n4 (by omega)
      have x4 := Gr.get g4 x2
      have t4 := Gr.get g4 t2
      have O4 := Gr.get g4 O2
      have nno := notin_nI wd O4 (by omega)
      simp [n4, inn, x4, ai, O4, nno]
      refine ⟨fun hm => hrt h4 (Fr.trans g2 g4) (goV_d xs (d1 hm)), fun hm => ⟨fun hno => hrt h4 (Fr.trans g2 g4) (goV_f et hxi (by unfold okI; simp [hno])), fun hyes => ?_⟩⟩
      obtain ⟨e1, e2, e3⟩ := d2 hm
      have n5 := get_new h4 (Ob.lst (nI []))
      have g5 := Gr.new h4 [Ob.lst (nI [])]
      have en : nI [] = [] := rfl
      have t5 := Gr.get g5 t4
      have x5 := Gr.get g5 x4
      obtain ⟨r, er, h5r, l5⟩ := get_ot (w := (w.gr (Fr.trans g01 (Fr.trans g2 (Fr.trans g4 g5))))) wd h4.length n5
      rw [en] at g5 t5 h5r x5
      have okE : okI oth ps os wd = bel oth ps os wd := by unfold okI; simp [hyes]
      rw [FwI_iff, seqI]
      simp [x4, ai, t4]
      generalize h4 ++ [Ob.lst []] = h5 at g5 t5 h5r x5
      try rw [t5]
      try simp only [W_ok]
      rw [er]
      have g15 : Gr h1 h5 := Fr.trans g2 (Fr.trans g4 g5)
      rw [FwI_iff]
      simp [h5r]
      have nI0 : ∀ {l : List Nat}, nI l = [] → l = [] := fun {l} z => by
        cases l with
        | nil => rfl
        | cons y ys => simp [nI] at z
      refine ⟨fun hpos => ?_, fun hnil => hnx h5 _ _ _ g15 e1 e2 e3 ?_⟩
      · rw [nI_len] at hpos
        refine lcf_lst (fun y => decide (y ∈ os)) h5r (by omega) (by show 6 < 7; omega) ?_ ?_
        · intro y h6 hy g6
          have x6 := Gr.get g6 x5
          have n7 := get_new h6 (Ob.lst (nI os))
          have g7 := Gr.new h6 [Ob.lst (nI os)]
          simp [wipeE, x6, cut_take, et]
          generalize h6 ++ [Ob.lst (nI os)] = h7 at n7 g7
          have iy := in_nI y n7 (by omega)
          refine ⟨by rw [nI_len]; omega, ?_⟩
          simp [n7, iy]
          exact Fr.trans g6 g7
        · intro h6 g6
          have lF : ((ot oth ps wd).filter fun y => decide (y ∈ os)).length ≤ 16 := Nat.le_trans (List.length_filter_le _ _) l5
          have g16 : Gr h1 (h6 ++ [Ob.lst (nI ((ot oth ps wd).filter fun y => decide (y ∈ os)))]) := Fr.trans g15 (Fr.trans g6 (Gr.new _ _))
          have ne : (ot oth ps wd).isEmpty = false := by
            cases ho : ot oth ps wd with
            | nil => rw [ho] at hpos; simp at hpos
            | cons y ys => rfl
          have bE : bel oth ps os wd = (ot oth ps wd).any fun y => decide (y ∈ os) := by unfold bel; rw [ne]; rfl
          refine ⟨by rw [nI_len]; omega, fun hF => hrt _ g16 (goV_f et hxi ?_), fun hF => hnx _ _ _ _ g16 e1 e2 e3 ?_⟩
          · have hF := nI0 hF
            rw [okE, bE, List.any_eq_false]
            intro y hy
            have := List.filter_eq_nil_iff.mp hF y hy
            exact this
          · rw [goB_snoc, hok, okE, bE]
            have hF : (ot oth ps wd).filter (fun y => decide (y ∈ os)) ≠ [] := fun z => hF (by rw [z]; rfl)
            obtain ⟨y, hy⟩ := List.exists_mem_of_ne_nil _ hF
            have := List.mem_filter.mp hy
            rw [Bool.true_and, List.any_eq_true]
            exact ⟨y, this.1, this.2⟩
      · have e0 := nI0 hnil
        rw [goB_snoc, hok, okE]
        unfold bel
        rw [e0]
        rfl
  · rintro ρ h2 ⟨g2, os, y4, y5, et, nd, lt, hok, rfl⟩
    rw [List.take_length] at et
    simp only [w_sSkip]
    rw [FwI_iff]
    simp
    have := q h2 (Fr.trans g01 g2)
    rwa [et, goV_yes nd lt, hok] at this
end
end K40
set_option Elab.async false
set_option linter.all false
set_option maxRecDepth 100000
set_option maxHeartbeats 1000000
namespace K40
open Mp PySem L2
section
variable {h h' : Mem} {a : Nat} {ps : List Nat} {oth : Nat → List Nat} {adr : Nat → Nat}
theorem able_ok {e : Nat} (he : 1 ≤ e) (w : Ws h a ps oth adr) {P T D : Nat} {done : List Nat} (eP : h[P]? = some (.lst (nI (occL oth ps)))) (eT : h[T]? = some (.dic (dk adr ps))) (eD : h[D]? = some (.dic (kt done))) {Q : Val → Mem → Prop} {X : XQ}
    (q : ∀ (h' : Mem) (n : Nat), Gr h h' → h'[n]? = some (.lst (nI (able oth ps done))) → Q (.ref n) h') : (callF Γ e "_law_able" [.ref P, .ref T, .ref D] h).W Q X := by
  obtain ⟨d, rfl⟩ : ∃ d, e = d + 1 := ⟨e - 1, by omega⟩
  have ls := sizeLine_eq
  have lO := occL_len (oth := oth) (ps := ps)
  rw [c__law_able]
  simp only [W_fin, s__law_able]
  rw [seqI]
  simp
  have n1 := get_new h (Ob.lst (nI []))
  have g1 := Gr.new h [Ob.lst (nI [])]
  have en : nI [] = [] := rfl
  rw [en] at n1 g1
  generalize h ++ [Ob.lst []] = h1 at n1 g1
  have P1 := Gr.get g1 eP
  rw [FwI_iff, seqI]
  simp [P1]
  refine for_lst (xs := nI (occL oth ps)) (fun i ρ h' => Gr h h' ∧ h'[h.length]? = some (.lst (nI (((occL oth ps).take i).filter fun x => decide (x ∉ done) && bel oth ps done x))) ∧ ∃ y4 y5, ρ = [some (.ref P), some (.ref T), some (.ref D), some (.ref h.length), y4, y5, none]) ⟨g1, n1, _, _, rfl⟩ (fun i ρ h' _ I => Gr.get I.1 eP) ?_ ?_
  · rintro i x ρ h2 hx ⟨g2, n2, y4, y5, rfl⟩
    obtain ⟨p, hp, rfl⟩ := map_inv hx
    have hi := list_get hp
    generalize ePP : Po.mk _ _ _ _ _ = PP
    have lA : (((occL oth ps).take i).filter fun x => decide (x ∉ done) && bel oth ps done x).length ≤ 100 := Nat.le_trans (List.length_filter_le _ _) (by rw [List.length_take]; omega)
    generalize hA : (((occL oth ps).take i).filter fun x => decide (x ∉ done) && bel oth ps done x) = A at n2 lA
    have hno : ∀ (h' : Mem) (y4 y5 : Option Val), Gr h h' → h'[h.length]? = some (.lst (nI A)) → (decide (p ∉ done) && bel oth ps done p) = false → PP.nx [some (.ref P), some (.ref T), some (.ref D), some (.ref h.length), y4, y5, none] h' := by
      intro h' y4 y5 g n hb
      rw [← ePP]
      refine ⟨g, ?_, _, _, rfl⟩
      rw [take_snoc hp, List.filter_append, hA, List.filter_cons, hb]
      simpa using n
    have hyes : ∀ (h' : Mem) (y4 y5 : Option Val), Gr h h' → h'[h.length]? = some (.lst (nI (A ++ [p]))) → (decide (p ∉ done) && bel oth ps done p) = true → PP.nx [some (.ref P), some (.ref T), some (.ref D), some (.ref h.length), y4, y5, none] h' := by
      intro h' y4 y5 g n hb
      rw [← ePP]
      refine ⟨g, ?_, _, _, rfl⟩
      rw [take_snoc hp, List.filter_append, hA, List.filter_cons, hb]
      simpa using n
    clear ePP
    have T2 := Gr.get g2 eT
    have n5 := get_new h2 (Ob.lst (nI []))
    have g5 := Gr.new h2 [Ob.lst (nI [])]
    have T5 := Gr.get g5 T2
    have m5 := Gr.get g5 n2
    obtain ⟨r, er, h5r, l5⟩ := get_ot (w := (w.gr (Fr.trans g2 g5))) p h2.length n5
    rw [en] at g5 T5 h5r m5
    rw [seqI]
    simp [T2]
    generalize h2 ++ [Ob.lst []] = h5 at g5 T5 h5r m5
    try rw [T5]
    try simp only [W_ok]
    rw [er]
    have g05 := Fr.trans g2 g5
    have D5 := Gr.get g05 eD
    have nI0 : ∀ {l : List Nat}, nI l = [] → l = [] := fun {l} z => by
      cases l with
      | nil => rfl
      | cons y ys => simp [nI] at z
    rw [FwI_iff]
    by_cases hd : p ∈ done
    · obtain ⟨vk, gk⟩ := dGet_kt_yes hd
      simp [D5, gk]
      exact hno _ _ _ g05 m5 (by simp [hd])
    · have gk := dGet_kt_no hd
      simp [D5, gk, h5r]
      refine ⟨fun hnil => ?_, fun hne => ?_⟩
      · simp [m5, nI_len]
        rw [← nI_snoc]
        refine ⟨by omega, hyes _ _ _ (Gr.later g05 (Nat.le_refl _) _) (get_set m5) ?_⟩
        unfold bel
        rw [nI0 hnil]
        simp [hd]
      · have ne : (ot oth ps p).isEmpty = false := by
          cases ho : ot oth ps p with
          | nil => rw [ho] at hne; exact absurd rfl hne
          | cons y ys => rfl
        have bE : (decide (p ∉ done) && bel oth ps done p) = (ot oth ps p).any fun y => decide (y ∈ done) := by unfold bel; rw [ne]; simp [hd]
        rw [bE] at hyes hno
        refine lcf_lst (fun y => decide (y ∈ done)) h5r (by omega) (by show 6 < 7; omega) ?_ ?_
        · intro y h6 hy g6
          have D6 := Gr.get g6 D5
          by_cases hyd : y ∈ done
          · obtain ⟨vk, gk⟩ := dGet_kt_yes hyd
            simp [wipeE, D6, gk, hyd]
            exact g6
          · have gk := dGet_kt_no hyd
            simp [wipeE, D6, gk, hyd]
            exact g6
        · intro h6 g6
          have lF : ((ot oth ps p).filter fun y => decide (y ∈ done)).length ≤ 16 := Nat.le_trans (List.length_filter_le _ _) l5
          have g7 : Gr h (h6 ++ [Ob.lst (nI ((ot oth ps p).filter fun y => decide (y ∈ done)))]) := Fr.trans g05 (Fr.trans g6 (Gr.new _ _))
          have m7 : (h6 ++ [Ob.lst (nI ((ot oth ps p).filter fun y => decide (y ∈ done)))])[h.length]? = some (.lst (nI A)) := Gr.get (Fr.trans g6 (Gr.new _ _)) m5
          refine ⟨by rw [nI_len]; omega, fun hF => ?_, fun hF => ?_⟩
          · generalize h6 ++ [Ob.lst (nI ((ot oth ps p).filter fun y => decide (y ∈ done)))] = h7 at g7 m7
            simp [m7, nI_len]
            rw [← nI_snoc]
            refine ⟨by omega, hyes _ _ _ (Gr.later g7 (Nat.le_refl _) _) (get_set m7) ?_⟩
            rw [nI_len] at hF
            obtain ⟨y, hy⟩ := List.exists_mem_of_length_pos hF
            have := List.mem_filter.mp hy
            rw [List.any_eq_true]
            exact ⟨y, this.1, this.2⟩
          · refine hno _ _ _ g7 m7 ?_
            rw [List.any_eq_false]
            exact fun y hy => List.filter_eq_nil_iff.mp (nI0 hF) y hy
  · rintro ρ h2 ⟨g2, n2, y4, y5, rfl⟩
    rw [nI_len, List.take_length] at n2
    simp only [w_sSkip]
    rw [FwI_iff]
    simp
    exact q _ _ g2 n2
theorem least_ok {e : Nat} (he : 2 ≤ e) (w : Ws h a ps oth adr) {O : Nat} {od : List Nat} (eO : h[O]? = some (.lst (nI od))) (run : Run oth ps od) (ab : able oth ps od = []) {Q : Val → Mem → Prop} {X : XQ}
    (q : ∀ (h' : Mem), Gr h h' → Q (.bl true) h') : (callF Γ e "_law_is_least" [.ref O, .ref a] h).W Q X := by
  obtain ⟨d, rfl⟩ : ∃ d, e = d + 1 := ⟨e - 1, by omega⟩
  have ls := sizeLine_eq
  have nd := run.nodup
  have lod : od.length ≤ 100 := nd100 nd fun x hx => occL_lt x (run.occ x hx)
  rw [c__law_is_least]
  simp only [W_fin, s__law_is_least]
  rw [seqI]
  simp
  refine locc_ok (by omega) w fun h1 P g1 hP P1 => ?_
  rw [FwI_iff, seqI]
  simp
  refine pairs_ok (by omega) (w.gr g1) fun h2 g2 T2 => ?_
  have P2 := Gr.get g2 P1
  have g02 := Fr.trans g1 g2
  rw [FwI_iff, seqI]
  simp
  have n3 := get_new h2 (Ob.dic (kt []))
  have g3 := Gr.new h2 [Ob.dic (kt [])]
  have ek : kt [] = [] := rfl
  rw [ek] at n3 g3
  generalize h2 ++ [Ob.dic []] = h3 at n3 g3
  have O3 := Gr.get (Fr.trans g02 g3) eO
  rw [FwI_iff, seqI]
  simp [O3]
  refine for_lst (xs := nI od) (fun i ρ h' => Gr h2 h' ∧ h'[h2.length]? = some (.dic (kt (od.take i))) ∧ ∃ y5 y6, ρ = [some (.ref O), some (.ref a), some (.ref P), some (.ref h1.length), some (.ref h2.length), y5, y6]) ⟨g3, n3, _, _, rfl⟩ (fun i ρ h' _ I => Gr.get (Fr.trans g02 I.1) eO) ?_ ?_
  · rintro i x ρ h4 hx ⟨g4, D4, y5, y6, rfl⟩
    obtain ⟨p, hp, rfl⟩ := map_inv hx
    have hi := list_get hp
    have pn := take_not nd hp
    have hh := run i hi
    rw [hp] at hh
    rw [seqI]
    simp
    refine able_ok (by omega) (w.gr (Fr.trans g02 g4)) (Gr.get g4 P2) (Gr.get g4 T2) D4 fun h5 n g5 n5 => ?_
    have D5 := Gr.get g5 D4
    have lt5 : (od.take i).length ≤ 100 := by rw [List.length_take]; omega
    rw [FwI_iff, seqI]
    cases hA : able oth ps (od.take i) with
    | nil => rw [hA] at hh; cases hh
    | cons y ys =>
      rw [hA] at hh n5
      have e1 : y = p := by simpa using hh
      subst e1
      have e2 : nI (y :: ys) = .int (y : Int) :: nI ys := rfl
      rw [e2] at n5
      simp [n5]
      rw [FwI_iff]
      simp [D5]
      rw [dPut_kt pn, take_snoc hp]
      exact ⟨fun z => by omega, fun _ => ⟨by rw [kt_len]; omega, Gr.later (Fr.trans g4 g5) (Nat.le_refl _) _, get_set D5⟩⟩
  · rintro ρ h4 ⟨g4, D4, y5, y6, rfl⟩
    rw [nI_len, List.take_length] at D4
    simp only [w_sSkip]
    rw [FwI_iff]
    simp
    refine able_ok (by omega) (w.gr (Fr.trans g02 g4)) (Gr.get g4 P2) (Gr.get g4 T2) D4 fun h5 n g5 n5 => ?_
    rw [ab] at n5
    have n5 : h5[n]? = some (.lst []) := n5
    simp [n5]
    exact q _ (Fr.trans g02 (Fr.trans g4 g5))
end
end K40
set_option Elab.async false
set_option linter.all false
set_option maxRecDepth 100000
set_option maxHeartbeats 1000000
namespace K40
open Mp PySem L2
section
variable {h h' : Mem} {a : Nat} {ps : List Nat} {oth : Nat → List Nat} {adr : Nat → Nat}
theorem j1 {e : Nat} (he : 3 ≤ e) (w : Ws h a ps oth adr) {v : Val} (V : Vl h v) {Q : Val → Mem → Prop} {X : XQ}
    (q : ∀ h', Gr h h' → Q (.bl (valB (ringV oth ps) h v)) h') : (callF Γ e "is_ring" [v, .ref a] h).W Q X := by
  have t := V.ty
  cases t with
  | lst n xs e =>
    have := V.ls n xs rfl e
    refine is_ring_list he w e this.1 this.2 fun h' g => ?_
    have := q h' g
    simpa only [valB, e] using this
  | non => rw [is_ring_no (by omega) V.ty nofun]; exact q h (Fr.refl _ _)
  | bl b => rw [is_ring_no (by omega) V.ty nofun]; exact q h (Fr.refl _ _)
  | int i => rw [is_ring_no (by omega) V.ty nofun]; exact q h (Fr.refl _ _)
  | str s => rw [is_ring_no (by omega) V.ty nofun]; exact q h (Fr.refl _ _)
  | tup ts => rw [is_ring_no (by omega) V.ty nofun]; exact q h (Fr.refl _ _)
theorem j2 {e : Nat} (he : 3 ≤ e) (w : Ws h a ps oth adr) {v : Val} (S : Sh h 6 v) {Q : Val → Mem → Prop} {X : XQ}
    (q : ∀ h', Gr h h' → Q (.bl (valB (ringV oth ps) h v)) h') : (callF Γ e "_law_is_ring" [v, .ref a] h).W Q X := by
  have V := S.vl
  have t := V.ty
  cases t with
  | lst n xs e =>
    have := V.ls n xs rfl e
    refine lir_list he w e this.1 this.2 S fun h' g => ?_
    have := q h' g
    simpa only [valB, e] using this
  | non => rw [lir_no (by omega) V.ty nofun]; exact q h (Fr.refl _ _)
  | bl b => rw [lir_no (by omega) V.ty nofun]; exact q h (Fr.refl _ _)
  | int i => rw [lir_no (by omega) V.ty nofun]; exact q h (Fr.refl _ _)
  | str s => rw [lir_no (by omega) V.ty nofun]; exact q h (Fr.refl _ _)
  | tup ts => rw [lir_no (by omega) V.ty nofun]; exact q h (Fr.refl _ _)
theorem j3 {e : Nat} (he : 3 ≤ e) (w : Ws h a ps oth adr) {v : Val} (V : Vl h v) {Q : Val → Mem → Prop} {X : XQ}
    (q : ∀ h', Gr h h' → Q (.bl (valB (goV oth ps) h v)) h') : (callF Γ e "is_order" [v, .ref a] h).W Q X := by
  have t := V.ty
  cases t with
  | lst n xs e =>
    have := V.ls n xs rfl e
    refine is_order_list he w e this.1 this.2 fun h' g => ?_
    have := q h' g
    simpa only [valB, e] using this
  | non => rw [is_order_no (by omega) V.ty nofun]; exact q h (Fr.refl _ _)
  | bl b => rw [is_order_no (by omega) V.ty nofun]; exact q h (Fr.refl _ _)
  | int i => rw [is_order_no (by omega) V.ty nofun]; exact q h (Fr.refl _ _)
  | str s => rw [is_order_no (by omega) V.ty nofun]; exact q h (Fr.refl _ _)
  | tup ts => rw [is_order_no (by omega) V.ty nofun]; exact q h (Fr.refl _ _)
theorem j4 {e : Nat} (he : 3 ≤ e) (w : Ws h a ps oth adr) {v : Val} (S : Sh h 6 v) {Q : Val → Mem → Prop} {X : XQ}
    (q : ∀ h', Gr h h' → Q (.bl (valB (goV oth ps) h v)) h') : (callF Γ e "_law_is_going" [v, .ref a] h).W Q X := by
  have V := S.vl
  have t := V.ty
  cases t with
  | lst n xs e =>
    have := V.ls n xs rfl e
    refine lig_list he w e this.1 this.2 fun h' g => ?_
    have := q h' g
    simpa only [valB, e] using this
  | non => rw [lig_no (by omega) V.ty nofun]; exact q h (Fr.refl _ _)
  | bl b => rw [lig_no (by omega) V.ty nofun]; exact q h (Fr.refl _ _)
  | int i => rw [lig_no (by omega) V.ty nofun]; exact q h (Fr.refl _ _)
  | str s => rw [lig_no (by omega) V.ty nofun]; exact q h (Fr.refl _ _)
  | tup ts => rw [lig_no (by omega) V.ty nofun]; exact q h (Fr.refl _ _)
theorem judged_ok {e : Nat} (he : 9 ≤ e) (w : Ws h a ps oth adr) {v : Val} (S : Sh h 6 v) {Q : Val → Mem → Prop} {X : XQ}
    (q : ∀ h', Gr h h' → Q (.bl true) h') : (callF Γ e "_law_judged" [v, .ref a] h).W Q X := by
  obtain ⟨d, rfl⟩ : ∃ d, e = d + 1 := ⟨e - 1, by omega⟩
  have ls := sizeLine_eq
  rw [c__law_judged]
  simp only [W_fin, s__law_judged]
  rw [seqI]
  simp
  refine copy_ok 6 (by omega) S fun u h1 g1 A1 => ?_
  rw [FwI_iff, seqI]
  simp
  refine copy_ok 3 (by omega) (w.gr g1).sh fun k h2 g2 A2 => ?_
  have g02 := Fr.trans g1 g2
  obtain ⟨b, adr', rfl, w2⟩ := (w.gr g02).alk A2
  have V0 := S.vl
  have Vu1 := alk_vl (V0.gr g1) A1
  have Vu2 := Vu1.gr g2
  have bs : valB (ringV oth ps) h2 u = valB (ringV oth ps) h v := by
    rw [valB_gr Vu1.ty g2, valB_alk (g := 100) A1 ringV_d, valB_gr V0.ty g1]
  have bt : valB (goV oth ps) h2 u = valB (goV oth ps) h v := by
    rw [valB_gr Vu1.ty g2, valB_alk (g := 100) A1 goV_d, valB_gr V0.ty g1]
  generalize hb : valB (ringV oth ps) h v = bb at bs
  generalize hc : valB (goV oth ps) h v = cc at bt
  rw [FwI_iff, seqI]
  simp
  refine j1 (by omega) w2 Vu2 fun h3 g3 => ?_
  rw [bs]
  refine j3 (by omega) (w2.gr g3) (Vu2.gr g3) fun h4 g4 => ?_
  rw [valB_gr Vu2.ty g3, bt]
  have g24 := Fr.trans g3 g4
  have n5 := get_new h4 (Ob.lst [.bl bb, .bl cc])
  have g5 : Gr h2 (h4 ++ [Ob.lst [.bl bb, .bl cc]]) := Fr.trans g24 (Gr.new _ _)
  refine ⟨by omega, ?_⟩
  generalize h4 ++ [Ob.lst [.bl bb, .bl cc]] = h5 at n5 g5
  rw [FwI_iff, seqI]
  simp [selV]
  refine j1 (by omega) (w2.gr g5) (Vu2.gr g5) fun h6 g6 => ?_
  rw [valB_gr Vu2.ty g5, bs]
  have g26 := Fr.trans g5 g6
  refine j3 (by omega) (w2.gr g26) (Vu2.gr g26) fun h7 g7 => ?_
  rw [valB_gr Vu2.ty g26, bt]
  have g27 := Fr.trans g26 g7
  have n8 := get_new h7 (Ob.lst [.bl bb, .bl cc])
  have g8 := Gr.new h7 [Ob.lst [.bl bb, .bl cc]]
  have n5' := Gr.get (Fr.trans g6 (Fr.trans g7 g8)) n5
  refine ⟨by omega, ?_⟩
  generalize h7 ++ [Ob.lst [.bl bb, .bl cc]] = h8 at n8 g8 n5'
  simp [n8, n5']
  refine ⟨by omega, ?_⟩
  have n9 := get_new h8 (Ob.lst [.bl bb, .bl cc, .bl bb, .bl cc])
  have g9 : Gr h2 (h8 ++ [Ob.lst [.bl bb, .bl cc, .bl bb, .bl cc]]) := Fr.trans g27 (Fr.trans g8 (Gr.new _ _))
  generalize h8 ++ [Ob.lst [.bl bb, .bl cc, .bl bb, .bl cc]] = h9 at n9 g9
  rw [FwI_iff, seqI]
  simp
  have g09 := Fr.trans g02 g9
  refine j2 (by omega) (w.gr g09) (S.gr g09) fun h10 g10 => ?_
  rw [valB_gr V0.ty g09, hb]
  have g010 := Fr.trans g09 g10
  refine j4 (by omega) (w.gr g010) (S.gr g010) fun h11 g11 => ?_
  rw [valB_gr V0.ty g010, hc]
  refine ⟨by omega, by omega, ?_⟩
  obtain ⟨ll, hll⟩ : ∃ ll : Mem, ll = [Ob.lst [Val.bl bb, Val.bl cc], Ob.lst [Val.bl bb, Val.bl cc, Val.bl bb, Val.bl cc]] := ⟨_, rfl⟩
  rw [← hll]
  have n12 : (h11 ++ ll)[h11.length + 1]? = some (.lst [.bl bb, .bl cc, .bl bb, .bl cc]) := by rw [gap, hll]; rfl
  have g12 := Gr.new h11 ll
  generalize h11 ++ ll = h12 at n12 g12
  have n9' := Gr.get (Fr.trans g10 (Fr.trans g11 g12)) n9
  have g012 : Gr h h12 := Fr.trans g010 (Fr.trans g11 g12)
  have g212 : Gr h2 h12 := Fr.trans g9 (Fr.trans g10 (Fr.trans g11 g12))
  have a1 := alike_ok 1 d (by omega) (.ref (h11.length + 1)) (.ref h8.length) h12 (.lst _ _ _ _ n12 n9' rfl (by simp) fun i x y e1 e2 => by
    rw [e1] at e2
    cases e2
    rcases i with _ | _ | _ | _ | i <;> simp at e1
    all_goals (rw [← e1]; exact .bl _))
  have a2 := alike_ok 6 d (by omega) v u h12 (Alk.gr (Fr.trans g2 g212) A1)
  have a3 := alike_ok 3 d (by omega) _ _ h12 (Alk.gr g212 A2)
  rw [a1]
  simp
  rw [FwI_iff]
  simp
  rw [a2]
  simp
  rw [a3]
  exact q h12 g012
end
end K40
set_option Elab.async false
set_option linter.all false
set_option maxRecDepth 100000
set_option maxHeartbeats 1000000
namespace K40
open Mp PySem L2
section
variable {h h' : Mem} {a : Nat} {ps : List Nat} {oth : Nat → List Nat} {adr : Nat → Nat}
theorem run_uniq {o1 o2 : List Nat} (r1 : Run oth ps o1) (a1 : able oth ps o1 = []) (r2 : Run oth ps o2) (a2 : able oth ps o2 = []) : o1 = o2 := by
  have key : ∀ i, i ≤ o1.length → i ≤ o2.length → o1.take i = o2.take i := by
    intro i
    induction i with
    | zero => intros; simp
    | succ i ih =>
      intro h1 h2
      have e := ih (by omega) (by omega)
      have e1 := r1 i (by omega)
      have e2 := r2 i (by omega)
      rw [e] at e1
      rw [e1] at e2
      rw [List.take_succ, List.take_succ, e, e2]
  have l1 : ¬ o1.length < o2.length := fun hl => by
    have e := key o1.length (Nat.le_refl _) (by omega)
    have e2 := r2 o1.length hl
    rw [← e, List.take_length, a1] at e2
    rw [List.getElem?_eq_getElem hl] at e2
    cases e2
  have l2 : ¬ o2.length < o1.length := fun hl => by
    have e := key o2.length (by omega) (Nat.le_refl _)
    have e2 := r1 o2.length hl
    rw [e, List.take_length, a2, List.getElem?_eq_getElem hl] at e2
    cases e2
  have e := key o1.length (Nat.le_refl _) (by omega)
  rw [List.take_length, show o1.length = o2.length by omega, List.take_length] at e
  exact e
theorem Run.dis {od : List Nat} (r : Run oth ps od) : ∀ x ∈ od, x ∉ ring oth ps := by
  have key : ∀ i, i ≤ od.length → ∀ x ∈ od.take i, x ∉ ring oth ps := by
    intro i
    induction i with
    | zero => intro _ x hx; simp at hx
    | succ i ih =>
      intro hi x hx hr
      obtain ⟨p, hp⟩ : ∃ p, od[i]? = some p := ⟨od[i], by simp [show i < od.length by omega]⟩
      rw [take_snoc hp] at hx
      rcases List.mem_append.mp hx with z | z
      · exact ih (by omega) x z hr
      · have e : x = p := by simpa using z
        subst e
        have ab := able_iff.mp (r.at hp)
        have eo : ot oth ps x = oth x := by unfold ot; rw [if_pos (ring_in hr).1]
        rw [eo] at ab
        rcases ab.2.2 with q | ⟨y, hy, hz⟩
        · exact (ring_in hr).2 q
        · exact ih (by omega) y hz (Q42.ring_oth hr y hy)
  intro x hx
  exact key od.length (Nat.le_refl _) x (by rw [List.take_length]; exact hx)
theorem Run.go {od : List Nat} (r : Run oth ps od) : goB oth ps od = true := by
  unfold goB
  rw [List.all_eq_true]
  intro i hi
  have hi := List.mem_range.mp hi
  have e : od[i]? = some (od.getD i 0) := by rw [List.getD_eq_getElem?_getD, List.getElem?_eq_getElem hi]; rfl
  have ab := able_iff.mp (r.at e)
  unfold okI
  rw [Bool.and_eq_true]
  exact ⟨by simpa using ab.1, bel_iff.mpr ab.2.2⟩
def lef (oth : Nat → List Nat) (ps od : List Nat) : List Nat := (occL oth ps).filter (fun x => decide (x ∉ od))
theorem ring_nd (w : Ws h a ps oth adr) : (ring oth ps).Nodup := ((Q42.ring_sub (oth := oth) (ne0 oth ps)).trans List.filter_sublist).nodup w.nd
theorem lef_ring (w : Ws h a ps oth adr) {od : List Nat} (r : Run oth ps od) (ab : able oth ps od = []) : srt (ring oth ps) = nI (lef oth ps od) := srt_eq (ring_nd w) (occL_pw.filter _) fun x => left_ring (flat_lt w) ab r.dis x
theorem lef_len {od : List Nat} : (lef oth ps od).length ≤ 100 := Nat.le_trans (List.length_filter_le _ _) occL_len
theorem ty_nI {os : List Nat} : ∀ x ∈ nI os, Ty h x := fun x hx => by
  obtain ⟨i, _, rfl⟩ := List.mem_map.mp hx
  exact .int _
theorem sh_nI {a : Nat} {os : List Nat} (e : h[a]? = some (.lst (nI os))) (hl : os.length < 1000) (n : Nat) : Sh h (n + 1) (.ref a) := by
  rw [nI_ints] at e
  exact sh_row e (by simpa using hl) n
theorem found_ok {e : Nat} (he : 6 ≤ e) (w : Ws h a ps oth adr) {Q : Val → Mem → Prop} {X : XQ}
    (q : ∀ (h' : Mem) (A B : Nat) (od : List Nat), Gr h h' → h'[A]? = some (.lst (nI (lef oth ps od))) → h'[B]? = some (.lst (nI od)) → Run oth ps od → able oth ps od = [] → Q (.tup [.ref A, .ref B]) h') : (callF Γ e "_law_found" [.ref a] h).W Q X := by
  obtain ⟨d, rfl⟩ : ∃ d, e = d + 1 := ⟨e - 1, by omega⟩
  have ls := sizeLine_eq
  rw [c__law_found]
  simp only [W_fin, s__law_found]
  rw [seqI]
  simp
  refine copy_ok 3 (by omega) w.sh fun k h1 g1 A1 => ?_
  obtain ⟨b, adr', rfl, b1⟩ := (w.gr g1).alk A1
  rw [FwI_iff, seqI]
  simp [selV]
  refine order_ok (by omega) b1 fun h2 O od g2 hO O2 run ab => ?_
  have lod : od.length ≤ 100 := nd100 run.nodup fun x hx => occL_lt x (run.occ x hx)
  have b2 := b1.gr g2
  rw [FwI_iff, seqI]
  simp
  refine ring_ok (by omega) b2 fun h3 R g3 hR R3 => ?_
  rw [lef_ring w run ab] at R3
  have O3 := Gr.get g3 O2
  have g13 := Fr.trans g2 g3
  have g03 := Fr.trans g1 g13
  have w3 := w.gr g03
  have l01 := g1.len
  have l12 := g2.len
  rw [FwI_iff, seqI]
  simp
  rw [alike_ok 3 d (by omega) _ _ h3 (Alk.gr g13 A1)]
  simp
  refine lig_list (by omega) w3 O3 (by rw [nI_len]; omega) ty_nI fun h4 g4 => ?_
  rw [goV_yes run.nodup (fun x hx => occL_lt x (run.occ x hx)), run.go]
  have O4 := Gr.get g4 O3
  simp
  refine least_ok (by omega) (w3.gr g4) O4 run ab fun h5 g5 => ?_
  have O5 := Gr.get g5 O4
  have w5 := w3.gr (Fr.trans g4 g5)
  simp
  rw [FwI_iff, seqI]
  simp
  refine locc_ok (by omega) w5 fun h6 P g6 hP P6 => ?_
  have lP := occL_len (oth := oth) (ps := ps)
  have O6 := Gr.get g6 O5
  simp [P6]
  refine lcf_lst (nin od) P6 (by omega) (by show 5 < 7; omega) ?_ ?_
  · intro x h7 hx g7
    have O7 := Gr.get g7 O6
    have nn := notin_nI x O7 (by omega)
    simp [O7, nn, wipeE, nin]
    exact g7
  · intro h7 g7
    have eL : (occL oth ps).filter (nin od) = lef oth ps od := rfl
    rw [eL]
    have lL := lef_len (oth := oth) (ps := ps) (od := od)
    refine ⟨by rw [nI_len]; omega, ?_⟩
    have n8 := get_new h7 (Ob.lst (nI (lef oth ps od)))
    have g8 := Gr.new h7 [Ob.lst (nI (lef oth ps od))]
    generalize h7 ++ [Ob.lst (nI (lef oth ps od))] = h8 at n8 g8
    have g38 : Gr h3 h8 := Fr.trans g4 (Fr.trans g5 (Fr.trans g6 (Fr.trans g7 g8)))
    have R8 := Gr.get g38 R3
    have O8 := Gr.get g38 O3
    have w8 := w3.gr g38
    rw [FwI_iff, seqI]
    simp
    rw [alike_ok 1 d (by omega) _ _ h8 (alk_nI n8 R8 (by omega) 0)]
    simp [n8, nI_len]
    have lO2 := lt_of_get O2
    have lO7 : O < h7.length := lt_of_get (Gr.get (Fr.trans g4 (Fr.trans g5 (Fr.trans g6 g7))) O3)
    have lR7 : R < h7.length := lt_of_get (Gr.get (Fr.trans g4 (Fr.trans g5 (Fr.trans g6 g7))) R3)
    have last : ∀ h', Gr h8 h' → FwI ((sSeq (sSet 6 (eTup (aCons (eVar 4) (aCons (eBi .list (aCons (eVar 2) aNil)) aNil)))) (sSeq (sExpr (eMeth Γ (callF Γ d) "append" 1 [] (eVar 2) (aCons (eC (.int 0)) aNil) aNil)) (sSeq (sExpr (eMeth Γ (callF Γ d) "append" 1 [] (eVar 3) (aCons (eC (.int 0)) aNil) aNil)) (sRet (eVar 6))))) [some (.ref a), some (.ref b), some (.ref O), some (.ref R), some (.ref h7.length), none, none] h') ⟨fun _ h => Q .non h, Q, fun _ _ => False, fun _ _ => False, fun _ => X⟩ := by
      intro h9 g9
      have O9 := Gr.get g9 O8
      have R9 := Gr.get g9 R8
      have n9 := Gr.get g9 n8
      have l79 := lt_of_get n9
      rw [FwI_iff, seqI]
      simp [O9]
      refine ⟨by rw [nI_len]; omega, by omega, ?_⟩
      have B10 := get_new h9 (Ob.lst (nI od))
      have g10 := Gr.new h9 [Ob.lst (nI od)]
      generalize h9 ++ [Ob.lst (nI od)] = h10 at B10 g10
      have O10 := Gr.get g10 O9
      have R10 := Gr.get g10 R9
      have n10 := Gr.get g10 n9
      have g010 : Gr h h10 := Fr.trans g03 (Fr.trans g38 (Fr.trans g9 g10))
      rw [FwI_iff, seqI]
      simp [O10, nI_len]
      refine ⟨by omega, ?_⟩
      have R11 : (h10.set O (.lst (nI od ++ [.int 0])))[R]? = _ := get_set_ne R10 (by omega)
      have n11 : (h10.set O (.lst (nI od ++ [.int 0])))[h7.length]? = _ := get_set_ne n10 (by omega)
      have B11 : (h10.set O (.lst (nI od ++ [.int 0])))[h9.length]? = _ := get_set_ne B10 (by omega)
      have g011 : Gr h (h10.set O (.lst (nI od ++ [.int 0]))) := Gr.later g010 (by omega) _
      generalize h10.set O (.lst (nI od ++ [.int 0])) = h11 at R11 n11 B11 g011
      rw [FwI_iff, seqI]
      simp [R11, nI_len]
      refine ⟨by omega, ?_⟩
      rw [FwI_iff]
      simp
      exact q _ _ _ od (Gr.later g011 (by omega) _) (get_set_ne n11 (by omega)) (get_set_ne B11 (by omega)) run ab
    refine ⟨fun hpos => ?_, fun _ => last h8 (Fr.refl _ _)⟩
    have lt8 : ∀ x ∈ lef oth ps od, x < 100 := fun x hx => occL_lt x (List.mem_filter.mp hx).1
    have nd8 : (lef oth ps od).Nodup := List.nodup_iff_pairwise_ne.mpr ((occL_pw.filter _).imp fun h => by omega)
    have hm := left_ring (flat_lt w) ab run.dis
    have C : Closed oth ps (lef oth ps od) := fun p hp => by
      have c := ring_closed p ((hm p).mpr hp)
      exact ⟨c.1, c.2.1, fun x hx => (hm x).mp (c.2.2 x hx)⟩
    refine lir_list (by omega) w8 n8 (by rw [nI_len]; omega) ty_nI (sh_nI n8 (by omega) 5) fun h9 g9 => ?_
    rw [ringV_yes nd8 lt8 (List.length_pos_iff.mp hpos), ringB_of C]
    simp
    exact last h9 g9
end
end K40
set_option Elab.async false
set_option linter.all false
set_option maxRecDepth 100000
set_option maxHeartbeats 1000000
namespace K40
open Mp PySem L2
section
variable {N : List Nat} {h h' h'' : Mem} {V c : Nat} {K : KS}
theorem doubled_ok {e : Nat} (he : 4 ≤ e) (st : St h) {a : Nat} {os : List Nat} (ea : h[a]? = some (.lst (nI os))) (hl : os.length < 500) (l0 : 0 < os.length) {Q : Val → Mem → Prop} {X : XQ}
    (q : ∀ h' v, Dg h h' → Nw h h' 1 v → Q v h') : (callF Γ e "_law_doubled" [.ref 2, .ref a] h).W Q X := by
  obtain ⟨d, rfl⟩ : ∃ d, e = d + 1 := ⟨e - 1, by omega⟩
  have ls := sizeLine_eq
  have l3 := st.lt
  have na := not2n st ea
  rw [c__law_doubled]
  simp only [W_fin, s__law_doubled]
  simp [ea, nI_len]
  refine take_then (take_ok (by omega)) st (by omega) fun r h1 r1 r2 d1 => ?_
  have a1 := d1.get ea na
  have g1 := Dg.of d1
  have n2 := get_new h1 (Ob.lst (nI (cut os none (some r))))
  have g2' := Dg.new g1.st [Ob.lst (nI (cut os none (some r)))]
  have c1 := cut_len os none (some r)
  simp [a1, cut_nI]
  refine ⟨by rw [nI_len]; omega, ?_⟩
  generalize h1 ++ [Ob.lst (nI (cut os none (some r)))] = h2 at n2 g2'
  have g2 := g1.trans g2'
  have a2 := g2'.get a1 na
  refine (pick_ok (by omega) _ _ h2 g2.st a2 na (by rw [nI_len]; exact l0) (by rw [nI_len]; omega)).mono fun v h3 ⟨d3, i, hi, ei⟩ => ?_
  obtain ⟨w, hw, rfl⟩ := map_inv ei
  have g3 := g2.trans (Dg.of d3)
  have a3 := d3.get a2 na
  have l1 := g1.len
  have n3 := d3.get n2 (by omega)
  have ln3 := lt_of_get n3
  have n4 := get_new h3 (Ob.lst [Val.int (w : Int)])
  have g4' := Dg.new g3.st [Ob.lst [Val.int (w : Int)]]
  have e4 : (h3 ++ [Ob.lst [Val.int (w : Int)]])[h1.length]? = _ := g4'.get n3 (by omega)
  refine ⟨by omega, ?_⟩
  have a4 := g4'.get a3 na
  have ll4 : (h3 ++ [Ob.lst [Val.int (w : Int)]]).length = h3.length + 1 := by simp
  generalize h3 ++ [Ob.lst [Val.int (w : Int)]] = h4 at n4 g4' e4 a4 ll4
  have g4 := g3.trans g4'
  simp [e4]
  rw [← nI_snoc]
  refine ⟨by simp [nI_len]; omega, ?_⟩
  have n5 := get_new h4 (Ob.lst (nI (cut os none (some r) ++ [w])))
  have g5' := Dg.new g4.st [Ob.lst (nI (cut os none (some r) ++ [w]))]
  have ll5 : (h4 ++ [Ob.lst (nI (cut os none (some r) ++ [w]))]).length = h4.length + 1 := by simp
  generalize h4 ++ [Ob.lst (nI (cut os none (some r) ++ [w]))] = h5 at n5 g5' ll5
  have g5 := g4.trans g5'
  have a5 := g5'.get a4 na
  have c2 := cut_len os (some r) none
  simp [a5, cut_nI]
  refine ⟨by rw [nI_len]; omega, ?_⟩
  have n6 := get_new h5 (Ob.lst (nI (cut os (some r) none)))
  have g6' := Dg.new g5.st [Ob.lst (nI (cut os (some r) none))]
  have e6 := g6'.get n5 (by omega)
  have ll6 : (h5 ++ [Ob.lst (nI (cut os (some r) none))]).length = h5.length + 1 := by simp
  generalize h5 ++ [Ob.lst (nI (cut os (some r) none))] = h6 at n6 g6' e6 ll6
  have g6 := g5.trans g6'
  simp [e6, n6]
  have en : nI (cut os none (some r) ++ [w]) ++ nI (cut os (some r) none) = nI ((cut os none (some r) ++ [w]) ++ cut os (some r) none) := by simp [nI]
  rw [en]
  have lz : ((cut os none (some r) ++ [w]) ++ cut os (some r) none).length < 1000 := by
    rw [List.length_append, List.length_append]
    simp only [List.length_singleton]
    omega
  generalize (cut os none (some r) ++ [w]) ++ cut os (some r) none = zs at lz
  refine ⟨by rw [nI_len, nI_len, List.length_append]; simp only [List.length_singleton]; omega, ?_⟩
  refine q _ _ (g6.trans (Dg.new g6.st _)) (nw_nI (get_new _ _) g6.len lz 0)
theorem sapp1 {d i : Nat} {ρ : Mp.Env} {as : MA} {P : Po} (hi : ρ[i]? = some (some (.ref V))) (I : VI h V K c h')
    (ha : (as ρ h').W (fun us h'' => ∃ v n, us = [v] ∧ Dg h' h'' ∧ Nw h' h'' n v ∧ n ≤ 6) nX) (hc : c + 1 ≤ 1000)
    (q : ∀ h'', VI h V K (c + 1) h'' → P.nx ρ h'') : FwI (sExpr (eMeth Γ (callF Γ d) "append" 1 [] (eVar i) as aNil) ρ h') P := by
  rw [FwI_iff, w_sExpr, w_eMeth, w_eVar, hi]
  simp only [optP_some]
  exact app_ok I ha hc fun h'' i _ => q h'' i
theorem vif {d i y : Nat} {ly : List Nat} {ρ : Mp.Env} {as1 as2 : MA} {rest : MS} {P : Po} (hi : ρ[i]? = some (some (.ref y))) (h3 : ρ[3]? = some (some (.ref V))) (I : VI h V K c h') (ey : h'[y]? = some (.lst (nI ly))) (hc : c + 2 ≤ 1000)
    (a1 : 0 < ly.length → (as1 ρ h').W (fun us h'' => ∃ v n, us = [v] ∧ Dg h' h'' ∧ Nw h' h'' n v ∧ n ≤ 6) nX)
    (a2 : ∀ h2, VI h V K (c + 1) h2 → 0 < ly.length → (as2 ρ h2).W (fun us h'' => ∃ v n, us = [v] ∧ Dg h2 h'' ∧ Nw h2 h'' n v ∧ n ≤ 6) nX)
    (q : ∀ h'', VI h V K (c + 2) h'' → FwI (rest ρ h'') P) : FwI (sSeq (sIf (tE (eCmp .Gt (eBi .len (aCons (eVar i) aNil)) (eC (.int 0)))) (sSeq (sExpr (eMeth Γ (callF Γ d) "append" 1 [] (eVar 3) as1 aNil)) (sExpr (eMeth Γ (callF Γ d) "append" 1 [] (eVar 3) as2 aNil))) sSkip) rest ρ h') P := by
  rw [FwI_iff, seqI]
  simp only [w_sIf, w_tE, w_eCmp, w_eBi, w_aCons, w_aNil, Mp.w_eC, w_eVar, hi, optP_some, bi_lenL, lenK_ref, ey, W_bind, W_opt, W_ok, cmp_gt, tru_bl, nI_len, w_sSkip]
  refine ⟨fun hpos => ?_, fun _ => q h' (I.weak (by omega))⟩
  have lp : 0 < ly.length := by simpa using hpos
  exact (FwI_iff _ _).mp (sapp h3 I (a1 lp) (by omega) fun h2 I2 => sapp1 h3 I2 (a2 h2 I2 lp) (by omega) fun h3 I3 => q _ I3)
theorem values_ok {e : Nat} (he : 12 ≤ e) (st : St h) {A B : Nat} {la lb : List Nat} (eA : h[A]? = some (.lst (nI la))) (eB : h[B]? = some (.lst (nI lb))) (ll : la.length ≤ 100) (lt : ∀ x ∈ la, x < 100) (ll2 : lb.length ≤ 100) (lt2 : ∀ x ∈ lb, x < 100) {Q : Val → Mem → Prop} {X : XQ}
    (q : ∀ h' V vs, Dg h h' → V ≠ 2 → h'[V]? = some (.lst vs) → vs.length ≤ 1000 → (∀ v ∈ vs, Sh h' 6 v) → Q (.ref V) h') : (callF Γ e "_law_values" [.ref 2, .ref A, .ref B] h).W Q X := by
  obtain ⟨d, rfl⟩ : ∃ d, e = d + 1 := ⟨e - 1, by omega⟩
  have ls := sizeLine_eq
  have l3 := st.lt
  have nA := not2n st eA
  have nB := not2n st eB
  have lA := lt_of_get eA
  have lB := lt_of_get eB
  rw [c__law_values]
  simp only [W_fin, s__law_values]
  rw [seqI]
  simp
  have n1 := get_new h (Ob.lst (nI []))
  have d1 := Dg.new st [Ob.lst (nI [])]
  have en : nI [] = [] := rfl
  rw [en] at n1 d1
  generalize h ++ [Ob.lst []] = h1 at n1 d1
  refine shuffled_ok (by omega) d1.st (d1.get eA nA) (by omega) fun h2 S us d2 hS S2 lS _ => ?_
  have d02 := d1.trans d2
  have B2 := d02.get eB nB
  simp [B2, nI_len]
  refine take_then (take_ok (by omega)) d02.st (by omega) fun r h3 r1 r2 d3' => ?_
  have d3 := Dg.of d3'
  have d03 := d02.trans d3
  have B3 := d03.get eB nB
  refine ⟨r, rfl, ?_⟩
  have cl := cut_len lb none (some r)
  rw [B3]
  simp only [cut_nI, w_newL]
  generalize cut lb none (some r) = u at cl
  refine ⟨by rw [nI_len]; omega, by omega, ?_⟩
  have n4 := get_new h3 (Ob.lst (nI u))
  have d4 := Dg.new d03.st [Ob.lst (nI u)]
  have l34 : (h3 ++ [Ob.lst (nI u)]).length = h3.length + 1 := by simp
  generalize h3 ++ [Ob.lst (nI u)] = h4 at n4 d4 l34
  have nV := get_new h4 (Ob.lst [.ref A, .ref B, .ref h.length, .ref S, .ref h3.length])
  have d5 := Dg.new d4.st [Ob.lst [.ref A, .ref B, .ref h.length, .ref S, .ref h3.length]]
  generalize h4 ++ [Ob.lst [.ref A, .ref B, .ref h.length, .ref S, .ref h3.length]] = h5 at nV d5
  have d05 := d03.trans (d4.trans d5)
  have l05 := d05.len
  have l03 := d03.len
  have l1 := d1.len
  have lh1 := lt_of_get n1
  have lS3 := lt_of_get S2
  have l23 := d3.len
  have A5 := d05.get eA nA
  have B5 := d05.get eB nB
  have E5 : h5[h.length]? = some (.lst (nI [])) := (d2.trans (d3.trans (d4.trans d5))).get n1 (by omega)
  have S5 := (d3.trans (d4.trans d5)).get S2 (not2n d02.st S2)
  have U5 := d5.get n4 (not2n d4.st n4)
  have I5 : VI h h4.length [(A, la), (B, lb)] 5 h5 := by
    refine ⟨d05, by omega, by omega, ⟨_, nV, by simp, fun v hv => ?_⟩, fun p hp => ?_⟩
    · simp at hv
      rcases hv with rfl | rfl | rfl | rfl | rfl
      · exact sd_nI A5 (by simp; omega) (by omega) 5
      · exact sd_nI B5 (by simp; omega) (by omega) 5
      · exact sd_nI E5 (by simp; omega) (by simp) 5
      · exact sd_nI S5 (by have := not2n d02.st S2; simp; omega) (by omega) 5
      · exact sd_nI U5 (by simp; omega) (by omega) 5
    · simp at hp
      rcases hp with rfl | rfl
      · exact ⟨A5, by show A ≠ _; omega⟩
      · exact ⟨B5, by show B ≠ _; omega⟩
  generalize h4.length = V at I5
  have mA : (A, la) ∈ [(A, la), (B, lb)] := by simp
  have mB : (B, lb) ∈ [(A, la), (B, lb)] := by simp
  generalize [(A, la), (B, lb)] = K at I5 mA mB
  try simp only [List.set]
  refine sapp rfl I5 ?_ (by omega) fun h6 I6 => ?_
  · simp only [w_aCons, w_aNil, w_eCall, w_eVar, List.getElem?_cons_zero, List.getElem?_cons_succ, optP_some]
    exact shuffled_ok (by omega) I5.dg.st (I5.kp _ mB).1 (by show lb.length < 1000; omega) fun h' m us g hm em lm _ => ⟨_, 1, rfl, g, nw_nI em hm (by have : us.length = lb.length := lm; omega) 0, by omega⟩
  refine sapp rfl I6 ?_ (by omega) fun h7 I7 => ?_
  · simp only [w_aCons, w_aNil, w_eCall, w_eVar, List.getElem?_cons_zero, List.getElem?_cons_succ, optP_some]
    exact subset_ok (by omega) I6.dg.st (I6.kp _ mA).1 (by show la.length < 1000; omega) fun h' m us g hm em lm _ => ⟨_, 1, rfl, g, nw_nI em hm (by have : us.length ≤ la.length := lm; omega) 0, by omega⟩
  have plus1 : ∀ (h' : Mem) (y : Nat) (ly : List Nat), St h' → h'[y]? = some (.lst (nI ly)) → ly.length ≤ 100 → ∀ (ρ : Mp.Env) (i : Nat), ρ[i]? = some (some (.ref y)) → ρ[0]? = some (some (.ref 2)) → ((aCons (eBin .Add (eVar i) (eLst (aCons (eCall (callF Γ d "_law_take") (aCons (eVar 0) (aCons (eC (.int 100)) aNil))) aNil))) aNil) ρ h').W (fun us h'' => ∃ v n, us = [v] ∧ Dg h' h'' ∧ Nw h' h'' n v ∧ n ≤ 6) nX := by
    intro h' y ly st' ey lly ρ i hi h0
    simp [hi, h0]
    refine take_then (take_ok (by omega)) st' (by omega) fun r h8 r1 r2 d8' => ?_
    have d8 := Dg.of d8'
    obtain ⟨rn, rfl⟩ : ∃ rn : Nat, r = (rn : Int) := ⟨r.toNat, by omega⟩
    have ey8 := d8.get ey (not2n st' ey)
    refine ⟨by omega, ?_⟩
    have ey9 : (h8 ++ [Ob.lst [.int (rn : Int)]])[y]? = some (.lst (nI ly)) := get_app _ ey8
    have n9 := get_new h8 (Ob.lst [.int (rn : Int)])
    have d9 := Dg.new d8.st [Ob.lst [.int (rn : Int)]]
    generalize h8 ++ [Ob.lst [.int (rn : Int)]] = h9 at ey9 n9 d9
    simp [ey9, n9, nI_len]
    rw [← nI_snoc]
    have d10 := Dg.new d9.st [Ob.lst (nI (ly ++ [rn]))]
    refine ⟨by omega, d8.trans (d9.trans d10), 1, nw_nI (get_new _ _) (d8.trans d9).len (by simp; omega) 0, by omega⟩
  refine sapp rfl I7 (plus1 _ _ _ I7.dg.st (I7.kp _ mB).1 ll2 _ _ rfl rfl) (by omega) fun h8 I8 => ?_
  refine sapp rfl I8 (plus1 _ _ _ I8.dg.st (I8.kp _ mA).1 ll _ _ rfl rfl) (by omega) fun h9 I9 => ?_
  refine sapp rfl I9 ?_ (by omega) fun h10 I10 => ?_
  · simp only [w_aCons, w_aNil, w_eCall, w_eVar, List.getElem?_cons_zero, List.getElem?_cons_succ, optP_some]
    exact misshaped_ok (by omega) I9.dg.st (I9.kp _ mA).1 (by show la.length < 500; omega) (fun x hx => by have := lt x hx; omega) fun h' v g w => ⟨_, _, rfl, g, w, by omega⟩
  refine sapp rfl I10 ?_ (by omega) fun h11 I11 => ?_
  · simp only [w_aCons, w_aNil, w_eCall, w_eVar, List.getElem?_cons_zero, List.getElem?_cons_succ, optP_some]
    exact misshaped_ok (by omega) I10.dg.st (I10.kp _ mB).1 (by show lb.length < 500; omega) (fun x hx => by have := lt2 x hx; omega) fun h' v g w => ⟨_, _, rfl, g, w, by omega⟩
  refine vif rfl rfl I11 (I11.kp _ mA).1 (by omega) (fun lp => ?_) (fun h12 I12 lp => ?_) fun h12 I12 => ?_
  · simp only [w_aCons, w_aNil, w_eCall, w_eVar, List.getElem?_cons_zero, List.getElem?_cons_succ, optP_some]
    exact doubled_ok (by omega) I11.dg.st (I11.kp _ mA).1 (by show la.length < 500; omega) lp fun h' v g w => ⟨_, _, rfl, g, w, by omega⟩
  · have eA12 : h12[A]? = some (.lst (nI la)) := (I12.kp _ mA).1
    have eB12 : h12[B]? = some (.lst (nI lb)) := (I12.kp _ mB).1
    have cl := cut_len la none (some 1)
    have e1 : cut (nI la) none (some 1) = nI (cut la none (some 1)) := cut_nI _ _ _
    generalize cut la none (some 1) = u1 at cl e1
    simp [eA12, e1]
    have g13 := Dg.new I12.dg.st [Ob.lst (nI u1)]
    have n13 := get_new h12 (Ob.lst (nI u1))
    have eB13 : (h12 ++ [Ob.lst (nI u1)])[B]? = some (.lst (nI lb)) := get_app _ eB12
    refine ⟨by rw [nI_len]; omega, ?_⟩
    generalize h12 ++ [Ob.lst (nI u1)] = h13 at g13 n13 eB13
    try simp [n13, eB13, nI_app, nI_len]
    have d14 := Dg.new g13.st [Ob.lst (nI (lb ++ u1))]
    refine ⟨by omega, g13.trans d14, 1, nw_nI (get_new _ _) g13.len (by rw [List.length_append]; omega) 0, by omega⟩
  refine vif rfl rfl I12 (I12.kp _ mB).1 (by omega) (fun lp => ?_) (fun h13 I13 lp => ?_) fun h13 I13 => ?_
  · simp only [w_aCons, w_aNil, w_eCall, w_eVar, List.getElem?_cons_zero, List.getElem?_cons_succ, optP_some]
    exact doubled_ok (by omega) I12.dg.st (I12.kp _ mB).1 (by show lb.length < 500; omega) lp fun h' v g w => ⟨_, _, rfl, g, w, by omega⟩
  · have eB13 : h13[B]? = some (.lst (nI lb)) := (I13.kp _ mB).1
    have cl := cut_len lb none (some 1)
    have e1 : cut (nI lb) none (some 1) = nI (cut lb none (some 1)) := cut_nI _ _ _
    have cl2 := cut_len lb (some 1) none
    have e2 : cut (nI lb) (some 1) none = nI (cut lb (some 1) none) := cut_nI _ _ _
    generalize cut lb none (some 1) = u1 at cl e1
    generalize cut lb (some 1) none = u2 at cl2 e2
    have gB : ∀ m, (h13 ++ m)[B]? = some (.lst (nI lb)) := fun m => get_app m eB13
    simp [eB13, gB, e1, e2, nI_app, Nat.add_assoc, ↓gap]
    refine ⟨by rw [nI_len]; omega, by rw [nI_len]; omega, by rw [nI_len, List.length_append]; omega, Dg.new I13.dg.st _, 1, nw_nI (os := u2 ++ u1) (by rw [gap]; rfl) (by omega) (by rw [List.length_append]; omega) 0, by omega⟩
  refine sext rfl I13 (c' := 30) ?_ (by omega) fun h14 I14 => ?_
  · have gA : ∀ m, (h13 ++ m)[A]? = some (.lst (nI la)) := fun m => get_app m (I13.kp _ mA).1
    have gB : ∀ m, (h13 ++ m)[B]? = some (.lst (nI lb)) := fun m => get_app m (I13.kp _ mB).1
    simp [gA, gB, Nat.add_assoc, ↓gap]
    refine ⟨by omega, by rw [nI_len]; omega, by omega, by rw [nI_len]; omega, by omega, ?_⟩
    obtain ⟨lq, hlq⟩ : ∃ lq : Mem, lq = [Ob.lst [Val.int 0], Ob.lst [Val.ref h13.length], Ob.lst [], Ob.lst [Val.tup [Val.ref (h13.length + 2)]], Ob.lst [Val.int 0], Ob.lst [Val.ref (h13.length + 4)], Ob.lst (nI la ++ [Val.ref (h13.length + 4)]), Ob.lst [], Ob.lst [Val.ref (h13.length + 7)], Ob.lst (nI lb ++ [Val.ref (h13.length + 7)]), Ob.lst [Val.ref (h13.length + 1), Val.ref (h13.length + 3), Val.ref (h13.length + 6), Val.ref (h13.length + 9)]] := ⟨_, rfl⟩
    rw [← hlq]
    have lV : V < h13.length := by
      obtain ⟨vs, e, _⟩ := I13.ev
      exact lt_of_get e
    have v3 := I13.v3
    have nN : ∀ k, h13.length + k ∉ [2, V] := fun k => by simp; omega
    have a0 : (h13 ++ lq)[h13.length + 0]? = some (.lst [.int 0]) := by rw [gap, hlq]; rfl
    have a1 : (h13 ++ lq)[h13.length + 1]? = some (.lst [.ref (h13.length + 0)]) := by rw [gap, hlq]; rfl
    have a2 : (h13 ++ lq)[h13.length + 2]? = some (.lst []) := by rw [gap, hlq]; rfl
    have a3 : (h13 ++ lq)[h13.length + 3]? = some (.lst [.tup [.ref (h13.length + 2)]]) := by rw [gap, hlq]; rfl
    have a4 : (h13 ++ lq)[h13.length + 4]? = some (.lst [.int 0]) := by rw [gap, hlq]; rfl
    have a6 : (h13 ++ lq)[h13.length + 6]? = some (.lst (nI la ++ [.ref (h13.length + 4)])) := by rw [gap, hlq]; rfl
    have a7 : (h13 ++ lq)[h13.length + 7]? = some (.lst []) := by rw [gap, hlq]; rfl
    have a9 : (h13 ++ lq)[h13.length + 9]? = some (.lst (nI lb ++ [.ref (h13.length + 7)])) := by rw [gap, hlq]; rfl
    have a10 : (h13 ++ lq)[h13.length + 10]? = some (.lst [Val.ref (h13.length + 1), Val.ref (h13.length + 3), Val.ref (h13.length + 6), Val.ref (h13.length + 9)]) := by rw [gap, hlq]; rfl
    refine ⟨_, _, rfl, Dg.new I13.dg.st lq, a10, fun u hu => ?_, by simp⟩
    simp at hu
    rcases hu with rfl | rfl | rfl | rfl
    · exact (sd_one a1 (nN 1) (sd_one a0 (nN 0) (.int (n := 0) 0))).up 6 (by omega)
    · exact (sd_one a3 (nN 3) (.tup (n := 1) _ (by simp) fun i x hx => by
        have : x = .ref (h13.length + 2) := by simpa using List.mem_of_getElem? hx
        rw [this]
        exact .lst _ _ a2 (nN 2) (by simp) fun i x hx => by simp at hx)).up 6 (by omega)
    · exact (sd_snoc a6 (nN 6) (by omega) (sd_one a4 (nN 4) (.int (n := 0) 0))).up 6 (by omega)
    · exact (sd_snoc a9 (nN 9) (by omega) (.lst (n := 0) _ _ a7 (nN 7) (by simp) fun i x hx => by simp at hx)).up 6 (by omega)
  refine sapp rfl I14 ?_ (by omega) fun h15 I15 => ?_
  · simp only [w_aCons, w_aNil, w_eCall, w_eVar, Mp.w_eC, List.getElem?_cons_zero, List.getElem?_cons_succ, optP_some]
    exact plain_ok 2 (by omega) I14.dg.st fun h' v g w => ⟨_, _, rfl, g, w, by omega⟩
  obtain ⟨vs, e, l, s⟩ := I15.ev
  rw [FwI_iff]
  simp
  exact q h15 V vs I15.dg (by have := I15.v3; omega) e (by omega) fun v hv => (s v hv).sh
end
end K40
set_option Elab.async false
set_option linter.all false
set_option maxRecDepth 100000
set_option maxHeartbeats 1000000
namespace K40
open Mp PySem L2
section
variable {h h' : Mem} {a : Nat} {ps : List Nat} {oth : Nat → List Nat} {adr : Nat → Nat}
theorem cut_sub {α : Type} (xs : List α) (lo hi : Option Int) : (cut xs lo hi).Sublist xs := (List.take_sublist _ _).trans (List.drop_sublist _ _)
theorem Ws.sub (w : Ws h a ps oth adr) {n : Nat} {p1 : List Nat} (s : p1.Sublist ps) (e : h[n]? = some (.lst (p1.map (wT adr)))) : Ws h n p1 oth adr :=
  ⟨e, fun p hp => w.at_ p (s.subset hp), s.nodup w.nd, Nat.le_trans s.length_le w.len, fun p hp => w.lt p (s.subset hp), fun p hp => w.ol p (s.subset hp), fun p hp => w.ot p (s.subset hp), fun p hp => w.on p (s.subset hp)⟩
end
theorem law_ok (ns : List Int) (hn : ns.length ≤ 63) : (callF Γ 30 "law" [.ref 0] (mem0 ns)).W (fun v _ => v = .bl true) nX := by
  have ls := sizeLine_eq
  rw [c_law]
  simp only [W_fin, s_law]
  rw [seqI]
  simp
  rw [show (29 : Nat) = 28 + 1 from rfl, c__law_store]
  have he : 28 ≤ 28 + 1 := by omega
  generalize hdd : 28 + 1 = dd at he
  refine sp_store _ ns 40 hn fun h1 l1 st1 _ => ?_
  rw [FwI_iff, seqI]
  simp
  refine wait_list_ok (by omega) st1 fun h2 a ps oth adr g2 ha w2 => ?_
  have l16 := w2.len
  rw [FwI_iff, seqI]
  simp
  refine found_ok (by omega) w2 fun h3 A B od g3 A3 B3 run ab => ?_
  have lod : od.length ≤ 100 := nd100 run.nodup fun x hx => occL_lt x (run.occ x hx)
  have llf := lef_len (oth := oth) (ps := ps) (od := od)
  have w3 := w2.gr g3
  have d3 := g2.trans (Dg.gr g2.st g3)
  rw [FwI_iff, seqI]
  have s1 := cut_sub ps none (some (-1))
  have c1 : cut (ps.map (wT adr)) none (some (-1)) = (cut ps none (some (-1))).map (wT adr) := cut_map _ _ _ _
  generalize cut ps none (some (-1)) = p1 at s1 c1
  have lp1 := s1.length_le
  have isn : ∀ (h : Mem) (xs : List Val), cmpop .Is h (.tup xs) .non = some false := fun h xs => by simp [cmpop, Mp.isNon]
  simp [isn, w3.ls, c1]
  refine ⟨by omega, ?_⟩
  have n4 := get_new h3 (Ob.lst (p1.map (wT adr)))
  have g4 := Gr.new h3 [Ob.lst (p1.map (wT adr))]
  generalize h3 ++ [Ob.lst (p1.map (wT adr))] = h4 at n4 g4
  have w4 := w3.gr g4
  refine found_ok (by omega) (w4.sub s1 n4) fun h5 A' B' od' g5 _ _ _ _ => ?_
  have w5 := w4.gr g5
  simp [isn]
  refine found_ok (by omega) w5 fun h6 C D oe g6 C6 D6 run2 ab2 => ?_
  have eo := run_uniq run2 ab2 run ab
  subst eo
  have g36 : Gr h3 h6 := Fr.trans g4 (Fr.trans g5 g6)
  have A6 := Gr.get g36 A3
  have B6 := Gr.get g36 B3
  have w6 := w3.gr g36
  have d36 := Dg.gr d3.st g36
  rw [alike_ok 2 dd (by omega) (.tup [.ref A, .ref B]) (.tup [.ref C, .ref D]) h6 (.tup [.ref A, .ref B] [.ref C, .ref D] rfl (by simp) fun i x y e1 e2 => by
    rcases i with _ | _ | i
    · simp at e1 e2; rw [← e1, ← e2]; exact alk_nI A6 C6 (by omega) 0
    · simp at e1 e2; rw [← e1, ← e2]; exact alk_nI B6 D6 (by omega) 0
    · simp at e1)]
  simp
  rw [FwI_iff, seqI]
  simp
  refine values_ok (by omega) d36.st A6 B6 llf (fun x hx => occL_lt x (List.mem_filter.mp hx).1) lod (fun x hx => occL_lt x (run.occ x hx)) fun h7 V vs d7 nV eV lv sv => ?_
  have w7 := w6.dg d36.st d7
  simp [eV]
  refine for_lst (xs := vs) (fun i ρ h' => Gr h7 h' ∧ ∃ y, ρ = [some (.ref 0), some (.ref 2), some (.ref a), some (.tup [.ref A, .ref B]), y]) ⟨Fr.refl _ _, _, rfl⟩ (fun i ρ h' _ I => Gr.get I.1 eV) ?_ ?_
  · rintro i v ρ h10 hv ⟨g10, y, rfl⟩
    simp
    refine judged_ok (by omega) (w7.gr g10) ((sv v (List.mem_of_getElem? hv)).gr g10) fun h11 g11 => ?_
    simp
    exact Fr.trans g10 g11
  · rintro ρ h10 ⟨g10, y, rfl⟩
    simp [FwI_iff]
theorem main (ns : List Int) (hn : ns.length ≤ 63) : ∃ h', callF T.pg 30 "law" [.ref 0] (mem0 ns) = .ok (.bl true) h' := by
  have := law_ok ns hn
  cases e : callF Γ 30 "law" [.ref 0] (mem0 ns) with
  | ok v h' =>
    rw [e] at this
    have this : v = .bl true := this
    exact ⟨h', by rw [← this]⟩
  | exc c fs h' => rw [e] at this; exact this.elim
  | bad => rw [e] at this; exact this.elim
end K40
namespace K40
open PySem PySem.Spec PyProof.Rows L2 Mp
abbrev R : PySem.W.OpenRow := PySem.W.OpenLaw.row PySem.Challenge.rw_wardwork_k40_ring_and_order_part_the_pid
abbrev hk : PySem.W.Hook := T.hook
def ob (s : PySem.W.SharedT) : AlM := T.obsG (HandSHeadRun.getT s)
theorem ob_eq (s : PySem.W.SharedT) : ob s = hk.obs s.abs := obsG_eq (HandSHeadRun.getT_eq s)
def loose0 : List PySem.Str := ["__name__", "GREATEST_PID", "whole_between", "distinct_numbers", "others_by_pid", "occurring_pids", "followers_by_pid", "find_ring", "is_ring", "find_order", "is_order", "_law_mixed", "_law_store", "_law_take", "_law_pick", "_law_size", "_law_fresh", "_law_distinct", "_law_shuffled", "_law_subset", "_law_integer", "_law_text", "_law_plain", "_law_places", "_law_part", "_law_replaced", "_law_misshaped", "_law_alike", "_law_copy", "_law_is_integer"]
def loose1 : List PySem.Str := ["_law_waits", "_law_occurring", "_law_doubled", "_law_wait_list", "_law_pairs", "_law_is_ring", "_law_is_going", "_law_able", "_law_is_least", "_law_found", "_law_judged", "_law_values"]
def loose : List PySem.Str := loose0 ++ loose1
abbrev qv : Program := PySem.W.view R.prog [43]
set_option maxHeartbeats 0 in
theorem run (w : World) : HandSHeadRun.RunEq R qv hk ob 8000 loose w := by
  intro os
  kernel_rfl
theorem bl : BindOk d_law 1 [] [.ps 0] := b0
end K40
open PySem PySem.W PySem.Calls PyProof.Rows in
theorem PySem.Challenge.cw_wardwork_k40_ring_and_order_part_the_pid_holds : PySem.Challenge.rw_wardwork_k40_ring_and_order_part_the_pid.Holds := by
  w_on; o_law
  refine HandSHeadRun.head_any (r := OpenLaw.row PySem.Challenge.rw_wardwork_k40_ring_and_order_part_the_pid) (q := K40.qv) (H := K40.hk) (ob := K40.ob) (M := 8000) (loose := K40.loose) (d := HandSHeadRun.topDef (OpenLaw.row PySem.Challenge.rw_wardwork_k40_ring_and_order_part_the_pid).prog 43) (kwd := []) K40.ob_eq
    (by kernel_rfl) (fun s => by kernel_rfl) K40.run (by kernel_rfl) (by kernel_rfl) (by kernel_rfl) (by rfl) (by first | assumption | decide +kernel) (by decide +kernel) ⟨rfl, rfl, rfl, rfl, rfl, by decide +kernel⟩ ?hw ?hc
  case hw => w_witness2
  case hc => exact Mp.law_walk K40.txtOk (l := PySem.Challenge.rw_wardwork_k40_ring_and_order_part_the_pid) (n := 63) (dq := 29) (x := "_law_script") (dl := K40.d_law) rfl (by decide) (by kernel_rfl) ⟨rfl, by decide, by decide⟩ (by kernel_rfl) (by simp [K40.T]) rfl rfl (by decide +kernel) rfl rfl rfl K40.bl K40.main
