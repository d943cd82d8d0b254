import PyProof.Rows.All
import Wide.All
import OpenK.AllK
import Wide.FinOn
import HandS.ForMost
import HandS.Exc
import HandS.WordsExc
import HandS.CallSlots
import HandS.Deep
import HandS.Wide
import HandS.IsInst
import HandS.TupAny
import HandS.Flow
import HandS.Walk
import HandS.Defaults
import HandS.Property
import HandS.Style
import HandS.Conv
import HandS.SortInts
import HandS.ExcOwn
import HandS.Codes
import HandS.Remove
import KE.KStateDown
import HandS.Ends
import HandS.Head0
import HandS.Head1
import HandS.Head2
import HandS.HeadEnd
import HandS.HeadHook4
import PySem.Challenge.RW_wardwork_k04_spaces_as_if_alone
set_option Elab.async false
set_option maxRecDepth 100000
/-! Mp: a small deterministic machine for plain Python, read off the same syntax trees. Memory is a list of objects, an address is a place in it. -/
namespace Mp
open PySem L2
inductive Val where
  | non | bl (b : Bool) | int (i : Int) | str (x : Str) | tup (ts : List Val) | ref (n : Nat) | fn (g : Str)
  deriving Inhabited
inductive Ob where
  | lst (xs : List Val)
  | ins (c : Str) (fs : List (Str × Val))
  | rol (xs : List Val)
  deriving Inhabited
abbrev Mem := List Ob
abbrev Env := List (Option Val)
inductive Res (α : Type) where
  | ok (a : α) (h : Mem)
  | exc (c : Str) (fs : List (Str × Val)) (h : Mem)
  | bad
namespace Res
def bind {α β : Type} (r : Res α) (k : α → Mem → Res β) : Res β := match r with
  | .ok a h => k a h
  | .exc c fs h => .exc c fs h
  | .bad => .bad
@[simp] theorem bind_ok {α β : Type} (a : α) (h : Mem) (k : α → Mem → Res β) : (Res.ok a h).bind k = k a h := rfl
@[simp] theorem bind_bad {α β : Type} (k : α → Mem → Res β) : (Res.bad : Res α).bind k = .bad := rfl
@[simp] theorem bind_exc {α β : Type} (c : Str) (fs : List (Str × Val)) (h : Mem) (k : α → Mem → Res β) : (Res.exc c fs h : Res α).bind k = .exc c fs h := rfl
/-- an option as a result -/
def opt {α : Type} (o : Option α) (h : Mem) : Res α := match o with
  | some a => .ok a h
  | none => .bad
@[simp] theorem opt_some {α : Type} (a : α) (h : Mem) : opt (some a) h = .ok a h := rfl
@[simp] theorem opt_none {α : Type} (h : Mem) : opt (none : Option α) h = .bad := rfl
/-- no exception goes out -/
def shut {α : Type} (r : Res α) : Res α := match r with
  | .ok a h => .ok a h
  | _ => .bad
@[simp] theorem shut_ok {α : Type} (a : α) (h : Mem) : (Res.ok a h).shut = .ok a h := rfl
end Res
abbrev ME := Env → Mem → Res Val
abbrev MT := Env → Mem → Res Bool
abbrev MA := Env → Mem → Res (List Val)
/-! ### reading -/
/-- the items of a list, a tuple -/
def seqOf (h : Mem) : Val → Option (List Val)
  | .tup ts => some ts
  | .ref n => match h[n]? with
    | some (.lst xs) => some xs
    | some (.rol xs) => some xs
    | _ => none
  | _ => none
def lstOf (h : Mem) : Val → Option (List Val)
  | .ref n => match h[n]? with
    | some (.lst xs) => some xs
    | some (.rol xs) => some xs
    | _ => none
  | _ => none
mutual
/-- a value read to its depth -/
def rd (h : Mem) : Nat → Val → Option PyData
  | 0, _ => none
  | _ + 1, .non => some .none
  | _ + 1, .bl b => some (.bool b)
  | _ + 1, .int i => some (.int i)
  | _ + 1, .str x => some (.str x)
  | _ + 1, .fn _ => none
  | n + 1, .tup ts => (rds h n ts).map .tuple
  | n + 1, .ref a => match h[a]? with
    | some (.lst xs) => (rds h n xs).map .list
    | some (.rol xs) => (rds h n xs).map .list
    | _ => none
def rds (h : Mem) : Nat → List Val → Option (List PyData)
  | 0, _ => none
  | _ + 1, [] => some []
  | n + 1, v :: vs => match rd h n v, rds h n vs with
    | some d, some ds => some (d :: ds)
    | _, _ => none
end
/-- read, and of a shape that == takes -/
def rdS (h : Mem) (v : Val) : Option PyData := match rd h 20000 v with
  | some d => if SeqAt.shaped d then some d else none
  | none => none
def truthy (h : Mem) : Val → Option Bool
  | .non => some false
  | .bl b => some b
  | .int i => some (i != 0)
  | .str y => if y.length ≤ sizeLine then some ((y.length : Int) != 0) else none
  | .tup ts => some (!ts.isEmpty)
  | .ref n => match h[n]? with
    | some (.lst xs) => some (!xs.isEmpty)
    | some (.rol xs) => some (!xs.isEmpty)
    | _ => none
  | .fn _ => none
/-! ### operators -/
def newL (xs : List Val) (h : Mem) : Res Val := if xs.length ≤ sizeLine then .ok (.ref h.length) (h ++ [.lst xs]) else .bad
def mulOk (i j : Int) : Bool := decide (-(2 ^ 64) < i ∧ i < 2 ^ 64) || decide (-(2 ^ 64) < j ∧ j < 2 ^ 64)
def binop (op : Operator) (x y : Val) (h : Mem) : Res Val := match op, x, y with
  | .Add, .int i, .int j => .ok (.int (i + j)) h
  | .Add, .str i, .str j => if i.length + j.length ≤ sizeLine then .ok (.str (i ++ j)) h else .bad
  | .Add, .tup xs, .tup ys => if xs.length + ys.length ≤ sizeLine then .ok (.tup (xs ++ ys)) h else .bad
  | .Add, .ref n, .ref m => match h[n]?, h[m]? with
    | some (.lst xs), some (.lst ys) => newL (xs ++ ys) h
    | _, _ => .bad
  | .Sub, .int i, .int j => .ok (.int (i - j)) h
  | .Mult, .int i, .int j => if mulOk i j then .ok (.int (i * j)) h else .bad
  | .Mult, .ref n, .int k => match h[n]? with
    | some (.lst xs) => if -(2 ^ 63) ≤ k ∧ k < 2 ^ 63 ∧ xs.length * k.toNat ≤ sizeLine then newL (List.replicate k.toNat xs).flatten h else .bad
    | _ => .bad
  | .FloorDiv, .int i, .int j => if 0 < j ∧ j < 2 ^ 64 then .ok (.int (i / j)) h else .bad
  | .Mod, .int i, .int j => if 0 < j then .ok (.int (i % j)) h else .bad
  | .Pow, .int i, .int j => if 0 ≤ j ∧ j ≤ 1000000 ∧ i.natAbs < 2 ^ 64 then .ok (.int (i ^ j.toNat)) h else .bad
  | _, _, _ => .bad
/-- flat == -/
def eqF : Val → Val → Bool
  | .non, .non => true
  | .bl a, .bl b => a == b
  | .bl a, .int b => (if a then 1 else 0) == b
  | .int a, .bl b => a == (if b then 1 else 0)
  | .int a, .int b => a == b
  | .str a, .str b => a == b
  | _, _ => false
def flat : Val → Bool
  | .non => true
  | .bl _ => true
  | .int _ => true
  | .str _ => true
  | _ => false
/-- x in y -/
def inOp (h : Mem) (x y : Val) : Option Bool := match x, y with
  | .str i, .str j => some (!(Builtin.Str.occurrences j i 0 j.length 1).isEmpty)
  | x, .tup ts => if flat x && ts.all flat then some (ts.any fun y => eqF y x) else none
  | x, .ref n => match rdS h x, rdS h (.ref n) with
    | some d, some (.list ds) => some (ds.any fun z => PyData.eqv z d)
    | _, _ => none
  | _, _ => none
def isNon : Val → Bool
  | .non => true
  | _ => false
def cmpop (op : CmpOp) (h : Mem) (x y : Val) : Option Bool := match op, x, y with
  | .Eq, x, y => match rdS h x, rdS h y with
    | some d, some e => some (PyData.eqv d e)
    | _, _ => none
  | .NotEq, x, y => match rdS h x, rdS h y with
    | some d, some e => some (!PyData.eqv d e)
    | _, _ => none
  | .Lt, .int i, .int j => some (decide (i < j))
  | .LtE, .int i, .int j => some (decide (i ≤ j))
  | .Gt, .int i, .int j => some (decide (j < i))
  | .GtE, .int i, .int j => some (decide (j ≤ i))
  | .Is, x, .non => some (isNon x)
  | .IsNot, x, .non => some (!isNon x)
  | .In, x, y => inOp h x y
  | .NotIn, x, y => (inOp h x y).map (!·)
  | _, _, _ => none
def cmpR (op : CmpOp) (x y : Val) (h : Mem) : Res Val := (Res.opt (cmpop op h x y) h).bind fun b h => .ok (.bl b) h
/-! ### expressions -/
def eC (v : Val) : ME := fun _ h => .ok v h
def eVar (i : Nat) : ME := fun ρ h => match ρ[i]? with
  | some (some v) => .ok v h
  | _ => .bad
def eBad : ME := fun _ _ => .bad
def e1 (f : Val → Mem → Res Val) (a : ME) : ME := fun ρ h => (a ρ h).bind f
def e2 (f : Val → Val → Mem → Res Val) (a b : ME) : ME := fun ρ h => (a ρ h).bind fun x h => (b ρ h).bind fun y h => f x y h
def eBin (op : Operator) (a b : ME) : ME := e2 (binop op) a b
def eCmp (op : CmpOp) (a b : ME) : ME := e2 (cmpR op) a b
/-- a op b op' c -/
def eChain (op op' : CmpOp) (a b c : ME) : ME := fun ρ h => (a ρ h).bind fun x h => (b ρ h).bind fun y h => (cmpR op x y h).bind fun z h => match z with
  | .bl true => (c ρ h).bind fun w h => cmpR op' y w h
  | .bl false => .ok (.bl false) h
  | _ => .bad
def negV (x : Val) (h : Mem) : Res Val := match x with
  | .int i => .ok (.int (-i)) h
  | _ => .bad
def eNeg (a : ME) : ME := e1 negV a
def eNot (a : ME) : ME := e1 (fun x h => (Res.opt (truthy h x) h).bind fun b h => .ok (.bl (!b)) h) a
def eAnd (a b : ME) : ME := fun ρ h => (a ρ h).bind fun x h => (Res.opt (truthy h x) h).bind fun k h => if k = true then b ρ h else .ok x h
def eOr (a b : ME) : ME := fun ρ h => (a ρ h).bind fun x h => (Res.opt (truthy h x) h).bind fun k h => if k = true then .ok x h else b ρ h
def eIf (c : MT) (a b : ME) : ME := fun ρ h => (c ρ h).bind fun k h => if k = true then a ρ h else b ρ h
def aNil : MA := fun _ h => .ok [] h
def aCons (a : ME) (r : MA) : MA := fun ρ h => (a ρ h).bind fun x h => (r ρ h).bind fun xs h => .ok (x :: xs) h
def eTup (as : MA) : ME := fun ρ h => (as ρ h).bind fun xs h => if xs.length ≤ sizeLine then .ok (.tup xs) h else .bad
def eLst (as : MA) : ME := fun ρ h => (as ρ h).bind newL
def idx (h : Mem) (x y : Val) : Option Val := match x, y with
  | .tup ts, .int i => atI ts i
  | .str z, .int i => if z.length ≤ sizeLine then (atI z.cps.toList i).map fun c => .str ⟨#[c]⟩ else none
  | .ref n, .int i => match h[n]? with
    | some (.lst xs) => atI xs i
    | some (.rol xs) => atI xs i
    | _ => none
  | _, _ => none
def eIdx (a b : ME) : ME := e2 (fun x y h => Res.opt (idx h x y) h) a b
/-- tests -/
def tE (a : ME) : MT := fun ρ h => (a ρ h).bind fun x h => Res.opt (truthy h x) h
def tNot (a : MT) : MT := fun ρ h => (a ρ h).bind fun k h => .ok (!k) h
def tAnd (a b : MT) : MT := fun ρ h => (a ρ h).bind fun k h => if k = true then b ρ h else .ok false h
def tOr (a b : MT) : MT := fun ρ h => (a ρ h).bind fun k h => if k = true then .ok true h else b ρ h
end Mp
set_option Elab.async false
set_option linter.all false
set_option maxRecDepth 100000
set_option maxHeartbeats 1000000
namespace Mp
open PySem PySem.Spec PyProof.Rows L2
abbrev Nm := Nat → Option Addr
/-- where classes and defs lie -/
structure Lk where
  C : Str → Addr
  F : Str → Addr
section
variable (L : Lk) (K : PySem.W.Frag)
mutual
def RV (f : Nm) (H : Hp) : Val → V → Prop
  | .non, v => v = .non
  | .bl b, v => v = .bl b
  | .int i, v => v = .int i
  | .str x, v => v = .str x
  | .ref n, v => ∃ a, f n = some a ∧ v = .ref a
  | .fn g, v => v = .ref (L.F g)
  | .tup ts, v => ∃ a vs, v = .ref a ∧ SqT K H a vs ∧ RVs f H ts vs
def RVs (f : Nm) (H : Hp) : List Val → List V → Prop
  | [], vs => vs = []
  | t :: ts, vs => ∃ v r, vs = v :: r ∧ RV f H t v ∧ RVs f H ts r
end
def RFs (f : Nm) (H : Hp) (fs : List (Str × Val)) (gs : List (Str × V)) : Prop := fs.map (·.1) = gs.map (·.1) ∧ RVs L K f H (fs.map (·.2)) (gs.map (·.2))
def RO (f : Nm) (H : Hp) (a : Addr) : Ob → Prop
  | .lst xs => ∃ vs, H a = some (.lst vs) ∧ RVs L K f H xs vs
  | .ins c fs => ∃ dx gs, H a = some (.ins (L.C c) dx gs) ∧ RFs L K f H fs gs
  | .rol xs => ∃ o vs, H a = some (.frz o (.lst vs)) ∧ RVs L K f H xs vs
structure Sim (f : Nm) (h : Mem) (H : Hp) : Prop where
  inj : ∀ n m a, f n = some a → f m = some a → n = m
  has : ∀ n, n < h.length → ∃ a, f n = some a
  at_ : ∀ n a, f n = some a → ∃ o, h[n]? = some o ∧ RO L K f H a o
/-- an exception: its class and attributes -/
def RX (f : Nm) (H : Hp) (c : Str) (fs : List (Str × Val)) (cls : Value) (d : Option Addr) : Prop :=
  cls = .ref (L.C c) ∧ ((fs = [] ∧ d = none) ∨ ∃ a gs, d = some a ∧ H a = some (.xd gs) ∧ RFs L K f H fs gs)
structure EnvR (f : Nm) (H : Hp) (ρ : Env) (σ : L2.St) : Prop where
  len : ρ.length = σ.length
  at_ : ∀ (i : Nat) v, ρ[i]? = some (some v) → ∃ v', σ[i]? = some (some v') ∧ RV L K f H v v'
end
structure Ext (f f' : Nm) (H H' : Hp) : Prop where
  le : ∀ n a, f n = some a → f' n = some a
  new : ∀ n a, f' n = some a → f n = some a ∨ H a = none
  keep : ∀ a o, H a = some o → (∀ n, f n ≠ some a) → H' a = some o
  trk : ∀ a o, H a = some o → ∃ o', H' a = some o'
theorem Ext.refl (f : Nm) (H : Hp) : Ext f f H H := ⟨fun _ _ e => e, fun _ _ e => .inl e, fun _ _ e _ => e, fun _ o e => ⟨o, e⟩⟩
theorem Ext.trans {f f1 f2 : Nm} {H H1 H2 : Hp} (a : Ext f f1 H H1) (b : Ext f1 f2 H1 H2) : Ext f f2 H H2 where
  le := fun n x e => b.le n x (a.le n x e)
  new := fun n x e => by
    rcases b.new n x e with q | q
    · exact a.new n x q
    · cases z : H x with
      | none => exact .inr rfl
      | some o =>
        obtain ⟨o', z'⟩ := a.trk x o z
        rw [q] at z'; cases z'
  keep := fun x o e n => b.keep x o (a.keep x o e n) fun m z => by
    rcases a.new m x z with q | q
    · exact n m q
    · rw [e] at q; cases q
  trk := fun x o e => by
    obtain ⟨o', e'⟩ := a.trk x o e
    exact b.trk x o' e'
section
variable {L : Lk} {K : PySem.W.Frag} {f f' : Nm} {h h' : Mem} {H H' : Hp} {W : WX} {σ : L2.St} {ρ : Env}
theorem Sim.lt (S : Sim L K f h H) {n : Nat} {a : Addr} (e : f n = some a) : n < h.length := by
  obtain ⟨o, q, _⟩ := S.at_ n a e
  exact (List.getElem?_eq_some_iff.mp q).1
theorem Sim.not_tup (S : Sim L K f h H) {a : Addr} {vs : List V} (e : Rd H a (.tup vs)) (n : Nat) : f n ≠ some a := fun z => by
  obtain ⟨o, _, r⟩ := S.at_ n a z
  cases o with
  | lst xs =>
    obtain ⟨ws, q, _⟩ := r
    rcases e with e | ⟨o, e⟩ <;> rw [q] at e <;> cases e
  | ins c fs =>
    obtain ⟨dx, gs, q, _⟩ := r
    rcases e with e | ⟨o, e⟩ <;> rw [q] at e <;> cases e
  | rol xs =>
    obtain ⟨o', ws, q, _⟩ := r
    rcases e with e | ⟨o, e⟩ <;> rw [q] at e <;> cases e
theorem Sim.tupK (S : Sim L K f h H) (x : Ext f f' H H') {a : Addr} {vs : List V} (e : SqT K H a vs) : SqT K H' a vs := by
  rcases e with e | e
  · refine .inl ?_
    rcases id e with q | ⟨o, q⟩
    · exact .inl (x.keep _ _ q (S.not_tup e))
    · exact .inr ⟨o, x.keep _ _ q (S.not_tup e)⟩
  · exact .inr e
mutual
theorem RV.mono2 (le : ∀ n a, f n = some a → f' n = some a) (tk : ∀ a vs, SqT K H a vs → SqT K H' a vs) : ∀ (t : Val) (v : V), RV L K f H t v → RV L K f' H' t v
  | .non, _, e => e
  | .bl _, _, e => e
  | .int _, _, e => e
  | .str _, _, e => e
  | .fn _, _, e => e
  | .ref n, v, e => by
    unfold RV at e ⊢
    obtain ⟨a, q, r⟩ := e
    exact ⟨a, le n a q, r⟩
  | .tup ts, v, e => by
    unfold RV at e ⊢
    obtain ⟨a, vs, q, r, z⟩ := e
    exact ⟨a, vs, q, tk a vs r, RVs.mono2 le tk ts vs z⟩
theorem RVs.mono2 (le : ∀ n a, f n = some a → f' n = some a) (tk : ∀ a vs, SqT K H a vs → SqT K H' a vs) : ∀ (ts : List Val) (vs : List V), RVs L K f H ts vs → RVs L K f' H' ts vs
  | [], _, e => e
  | t :: ts, vs, e => by
    unfold RVs at e ⊢
    obtain ⟨v, r, q, z1, z2⟩ := e
    exact ⟨v, r, q, RV.mono2 le tk t v z1, RVs.mono2 le tk ts r z2⟩
end
theorem RV.mono {t : Val} {v : V} (r : RV L K f H t v) (S : Sim L K f h H) (x : Ext f f' H H') : RV L K f' H' t v := RV.mono2 x.le (fun _ _ => S.tupK x) t v r
theorem RVs.mono {ts : List Val} {vs : List V} (r : RVs L K f H ts vs) (S : Sim L K f h H) (x : Ext f f' H H') : RVs L K f' H' ts vs := RVs.mono2 x.le (fun _ _ => S.tupK x) ts vs r
theorem EnvR.mono (E : EnvR L K f H ρ σ) (S : Sim L K f h H) (x : Ext f f' H H') : EnvR L K f' H' ρ σ :=
  ⟨E.len, fun i v e => by
    obtain ⟨v', q, r⟩ := E.at_ i v e
    exact ⟨v', q, r.mono S x⟩⟩
theorem EnvR.set (E : EnvR L K f H ρ σ) {v : Val} {v' : V} (r : RV L K f H v v') (i : Nat) : EnvR L K f H (ρ.set i (some v)) (σ.set i (some v')) := by
  refine ⟨by rw [List.length_set, List.length_set, E.len], fun j w e => ?_⟩
  by_cases hj : i = j
  · subst hj
    have hi : i < ρ.length := by
      have := (List.getElem?_eq_some_iff.mp e).1
      rwa [List.length_set] at this
    rw [List.getElem?_set_self hi] at e
    cases e
    exact ⟨v', by rw [List.getElem?_set_self (by rw [← E.len]; exact hi)], r⟩
  · rw [List.getElem?_set_ne hj] at e
    obtain ⟨w', q, z⟩ := E.at_ j w e
    exact ⟨w', by rw [List.getElem?_set_ne hj]; exact q, z⟩
/-! ### lists of values -/
theorem RVs.length : ∀ {ts : List Val} {vs : List V}, RVs L K f H ts vs → ts.length = vs.length
  | [], vs, e => by unfold RVs at e; rw [e]; rfl
  | t :: ts, vs, e => by
    unfold RVs at e
    obtain ⟨v, r, rfl, _, z⟩ := e
    rw [List.length_cons, List.length_cons, RVs.length z]
theorem RVs.get : ∀ {ts : List Val} {vs : List V}, RVs L K f H ts vs → ∀ {i : Nat} {t : Val}, ts[i]? = some t → ∃ v, vs[i]? = some v ∧ RV L K f H t v
  | [], _, _, i, t, q => by simp at q
  | t :: ts, vs, e, i, t', q => by
    unfold RVs at e
    obtain ⟨v, r, rfl, z1, z2⟩ := e
    cases i with
    | zero =>
      simp at q
      subst q
      exact ⟨v, by simp, z1⟩
    | succ i =>
      obtain ⟨w, q1, q2⟩ := RVs.get z2 (i := i) (t := t') (by simpa using q)
      exact ⟨w, by simpa using q1, q2⟩
theorem RVs.append : ∀ {ts us : List Val} {vs ws : List V}, RVs L K f H ts vs → RVs L K f H us ws → RVs L K f H (ts ++ us) (vs ++ ws)
  | [], us, vs, ws, e, e' => by unfold RVs at e; subst e; exact e'
  | t :: ts, us, vs, ws, e, e' => by
    unfold RVs at e
    obtain ⟨v, r, rfl, z1, z2⟩ := e
    show RVs L K f H (t :: (ts ++ us)) (v :: (r ++ ws))
    unfold RVs
    exact ⟨v, _, rfl, z1, RVs.append z2 e'⟩
theorem RVs.cons {t : Val} {ts : List Val} {v : V} {vs : List V} (a : RV L K f H t v) (b : RVs L K f H ts vs) : RVs L K f H (t :: ts) (v :: vs) := by
  unfold RVs
  exact ⟨v, vs, rfl, a, b⟩
theorem RVs.nil : RVs L K f H [] [] := by unfold RVs; rfl
theorem RVs.set : ∀ {ts : List Val} {vs : List V}, RVs L K f H ts vs → ∀ {t : Val} {v : V}, RV L K f H t v → ∀ i, RVs L K f H (ts.set i t) (vs.set i v)
  | [], vs, e, t, v, r, i => by unfold RVs at e; subst e; exact RVs.nil
  | a :: ts, vs, e, t, v, r, i => by
    unfold RVs at e
    obtain ⟨w, q, rfl, z1, z2⟩ := e
    cases i with
    | zero => exact RVs.cons r z2
    | succ i => exact RVs.cons z1 (RVs.set z2 r i)
theorem RVs.drop : ∀ {ts : List Val} {vs : List V} (n : Nat), RVs L K f H ts vs → RVs L K f H (ts.drop n) (vs.drop n)
  | ts, vs, 0, e => e
  | [], vs, n + 1, e => by unfold RVs at e; subst e; exact RVs.nil
  | t :: ts, vs, n + 1, e => by
    unfold RVs at e
    obtain ⟨v, r, rfl, z1, z2⟩ := e
    exact RVs.drop n z2
theorem RVs.take : ∀ {ts : List Val} {vs : List V} (n : Nat), RVs L K f H ts vs → RVs L K f H (ts.take n) (vs.take n)
  | ts, vs, 0, e => by simpa using RVs.nil
  | [], vs, n + 1, e => by unfold RVs at e; subst e; exact RVs.nil
  | t :: ts, vs, n + 1, e => by
    unfold RVs at e
    obtain ⟨v, r, rfl, z1, z2⟩ := e
    exact RVs.cons z1 (RVs.take n z2)
theorem RVs.eraseIdx : ∀ {ts : List Val} {vs : List V} (n : Nat), RVs L K f H ts vs → RVs L K f H (ts.eraseIdx n) (vs.eraseIdx n)
  | [], vs, n, e => by unfold RVs at e; subst e; exact RVs.nil
  | t :: ts, vs, n, e => by
    unfold RVs at e
    obtain ⟨v, r, rfl, z1, z2⟩ := e
    cases n with
    | zero => exact z2
    | succ n => exact RVs.cons z1 (RVs.eraseIdx n z2)
theorem RVs.rep {ts : List Val} {vs : List V} (e : RVs L K f H ts vs) : ∀ n, RVs L K f H (List.replicate n ts).flatten (List.replicate n vs).flatten
  | 0 => RVs.nil
  | n + 1 => by
    rw [List.replicate_succ, List.replicate_succ, List.flatten_cons, List.flatten_cons]
    exact RVs.append e (RVs.rep e n)
theorem RVs.reverse : ∀ {ts : List Val} {vs : List V}, RVs L K f H ts vs → RVs L K f H ts.reverse vs.reverse
  | [], vs, e => by unfold RVs at e; subst e; exact RVs.nil
  | t :: ts, vs, e => by
    unfold RVs at e
    obtain ⟨v, r, rfl, z1, z2⟩ := e
    rw [List.reverse_cons, List.reverse_cons]
    exact RVs.append (RVs.reverse z2) (RVs.cons z1 RVs.nil)
theorem RVs.dropLast {ts : List Val} {vs : List V} (e : RVs L K f H ts vs) : RVs L K f H ts.dropLast vs.dropLast := by
  rw [List.dropLast_eq_take, List.dropLast_eq_take, e.length]
  exact e.take _
/-! ### steps of the memory -/
theorem updNe {H : Hp} {a b : Addr} {o o' : HO} (hb : H b = none) (e : H a = some o) : upd H b o' a = some o := by
  rw [upd_ne (ne_of_none e hb)]; exact e
theorem ext_new {p : Addr} {o : HO} (hp : H p = none) : Ext f f H (upd H p o) :=
  ⟨fun _ _ e => e, fun _ _ e => .inl e, fun a o' e _ => updNe hp e, fun a o' e => ⟨o', updNe hp e⟩⟩
theorem RO.mono (S : Sim L K f h H) (x : Ext f f' H H') {a : Addr} {o : Ob} (r : RO L K f H a o) (e : ∀ q, H a = some q → H' a = some q) : RO L K f' H' a o := by
  cases o with
  | lst xs =>
    obtain ⟨vs, q, z⟩ := r
    exact ⟨vs, e _ q, z.mono S x⟩
  | ins c fs =>
    obtain ⟨dx, gs, q, z1, z2⟩ := r
    exact ⟨dx, gs, e _ q, z1, z2.mono S x⟩
  | rol xs =>
    obtain ⟨o, vs, q, z⟩ := r
    exact ⟨o, vs, e _ q, z.mono S x⟩
theorem RO.some {a : Addr} {o : Ob} (r : RO L K f H a o) : ∃ q, H a = some q := by
  cases o with
  | lst xs => obtain ⟨vs, q, z⟩ := r; exact ⟨_, q⟩
  | ins c fs => obtain ⟨dx, gs, q, z⟩ := r; exact ⟨_, q⟩
  | rol xs => obtain ⟨o, vs, q, z⟩ := r; exact ⟨_, q⟩
/-- a new tracked thing outside of the memory -/
theorem Sim.out (S : Sim L K f h H) {p : Addr} {o : HO} (hp : H p = none) : Sim L K f h (upd H p o) :=
  ⟨S.inj, S.has, fun n a e => by
    obtain ⟨ob, q, r⟩ := S.at_ n a e
    exact ⟨ob, q, r.mono S (ext_new hp) fun z ez => updNe hp ez⟩⟩
/-- a new object -/
def put (f : Nm) (n : Nat) (p : Addr) : Nm := fun m => if m = n then some p else f m
theorem put_same {f : Nm} {n : Nat} {p : Addr} : put f n p n = some p := by unfold put; rw [if_pos rfl]
theorem Sim.fresh (S : Sim L K f h H) : f h.length = none := by
  cases e : f h.length with
  | none => rfl
  | some a => exact absurd (S.lt e) (Nat.lt_irrefl _)
theorem ext_put (S : Sim L K f h H) {p : Addr} {o : HO} (hp : H p = none) : Ext f (put f h.length p) H (upd H p o) where
  le := fun n a e => by
    unfold put
    rw [if_neg (fun z => by rw [z, S.fresh] at e; cases e)]
    exact e
  new := fun n a e => by
    unfold put at e
    split at e
    · cases e; exact .inr hp
    · exact .inl e
  keep := fun a o' e _ => updNe hp e
  trk := fun a o' e => ⟨o', updNe hp e⟩
theorem Sim.alloc (S : Sim L K f h H) {p : Addr} {o : HO} {ob : Ob} (hp : H p = none) (r : RO L K (put f h.length p) (upd H p o) p ob) : Sim L K (put f h.length p) (h ++ [ob]) (upd H p o) where
  inj := fun n m a e1 e2 => by
    have tr : ∀ k, f k = some a → a ≠ p := fun k z w => by
      obtain ⟨_, _, r'⟩ := S.at_ k a z
      obtain ⟨q, e⟩ := r'.some
      rw [w, hp] at e; cases e
    unfold put at e1 e2
    split at e1 <;> split at e2
    · rename_i a1 a2; rw [a1, a2]
    · cases e1; exact absurd rfl (tr m e2)
    · cases e2; exact absurd rfl (tr n e1)
    · exact S.inj n m a e1 e2
  has := fun n hn => by
    unfold put
    by_cases z : n = h.length
    · exact ⟨p, by rw [if_pos z]⟩
    · rw [if_neg z]
      exact S.has n (by rw [List.length_append, List.length_singleton] at hn; omega)
  at_ := fun n a e => by
    by_cases z : n = h.length
    · subst z
      rw [put_same] at e
      cases e
      exact ⟨ob, by simp, r⟩
    · have e' : f n = some a := by unfold put at e; rwa [if_neg z] at e
      obtain ⟨o', q, r'⟩ := S.at_ n a e'
      exact ⟨o', by rw [List.getElem?_append_left (S.lt e')]; exact q, r'.mono S (ext_put S hp) fun q' ez => updNe hp ez⟩
/-- an object of the memory is changed in place -/
theorem ext_upd {a : Addr} {n : Nat} {q o : HO} (e : f n = some a) (hq : H a = some q) : Ext f f H (upd H a o) where
  le := fun _ _ z => z
  new := fun _ _ z => .inl z
  keep := fun b o' z nz => by rw [upd_ne (fun w => nz n (by rw [w]; exact e))]; exact z
  trk := fun b o' z => by
    by_cases w : b = a
    · exact ⟨o, by rw [w, upd_same]⟩
    · exact ⟨o', by rw [upd_ne w]; exact z⟩
theorem Sim.wr (S : Sim L K f h H) {a : Addr} {n : Nat} {q o : HO} {ob : Ob} (e : f n = some a) (hq : H a = some q) (r : RO L K f (upd H a o) a ob) : Sim L K f (h.set n ob) (upd H a o) where
  inj := S.inj
  has := fun m hm => S.has m (by rwa [List.length_set] at hm)
  at_ := fun m b z => by
    by_cases w : m = n
    · subst w
      rw [e] at z; cases z
      exact ⟨ob, by rw [List.getElem?_set_self (S.lt e)], r⟩
    · have nb : b ≠ a := fun y => w (S.inj m n a (y ▸ z) e)
      obtain ⟨o', q', r'⟩ := S.at_ m b z
      exact ⟨o', by rw [List.getElem?_set_ne (Ne.symm w)]; exact q', r'.mono S (ext_upd e hq) fun y ey => by rw [upd_ne nb]; exact ey⟩
/-- a tracked list outside of the memory is written -/
theorem tupOut {a : Addr} {xs : List V} {o : HO} (ha : H a = some (.lst xs)) : ∀ b vs, SqT K H b vs → SqT K (upd H a o) b vs := fun b vs e => by
  rcases e with e | e
  · have nb : b ≠ a := fun z => by
      rw [z] at e
      rcases e with e | ⟨q, e⟩ <;> rw [ha] at e <;> cases e
    refine .inl ?_
    rcases e with e | ⟨q, e⟩
    · exact .inl (by rw [upd_ne nb]; exact e)
    · exact .inr ⟨q, by rw [upd_ne nb]; exact e⟩
  · exact .inr e
theorem Sim.outUpd (S : Sim L K f h H) {a : Addr} {xs : List V} {o : HO} (ha : H a = some (.lst xs)) (no : ∀ n, f n ≠ some a) : Sim L K f h (upd H a o) :=
  ⟨S.inj, S.has, fun n b e => by
    have nb : b ≠ a := fun z => no n (z ▸ e)
    obtain ⟨ob, q, r⟩ := S.at_ n b e
    refine ⟨ob, q, ?_⟩
    cases ob with
    | lst xs =>
      obtain ⟨vs, q, z⟩ := r
      exact ⟨vs, by rw [upd_ne nb]; exact q, RVs.mono2 (fun _ _ e => e) (tupOut ha) _ _ z⟩
    | ins c fs =>
      obtain ⟨dx, gs, q, z1, z2⟩ := r
      exact ⟨dx, gs, by rw [upd_ne nb]; exact q, z1, RVs.mono2 (fun _ _ e => e) (tupOut ha) _ _ z2⟩
    | rol xs =>
      obtain ⟨o, vs, q, z⟩ := r
      exact ⟨o, vs, by rw [upd_ne nb]; exact q, RVs.mono2 (fun _ _ e => e) (tupOut ha) _ _ z⟩⟩
/-! ### what is wanted behind a run -/
def PostG {α β : Type} (L : Lk) (K : PySem.W.Frag) (R : Nm → Hp → α → β → Prop) (W : WX) (f : Nm) (σ : L2.St) (H : Hp) (Q : β → Hp → Prop) (r : Res α) : Prop := match r with
  | .ok v h' => ∀ f' H' v', Ext f f' H H' → Sim L K f' h' H' → R f' H' v v' → Q v' H'
  | .exc c fs h' => ∀ f' H' cls d, Ext f f' H H' → Sim L K f' h' H' → RX L K f' H' c fs cls d → W cls d σ H'
  | .bad => False
def RB : Nm → Hp → Bool → Bool → Prop := fun _ _ a b => a = b
section
variable {α β γ δ : Type} {R : Nm → Hp → α → β → Prop} {R2 : Nm → Hp → γ → δ → Prop}
theorem PostG.imp {Q Q' : β → Hp → Prop} {r : Res α} (p : PostG L K R W f σ H Q r) (i : ∀ v H', Q v H' → Q' v H') : PostG L K R W f σ H Q' r := by
  cases r with
  | ok v h' => exact fun f' H' v' x S rv => i _ _ (p f' H' v' x S rv)
  | exc c fs h' => exact p
  | bad => exact p
theorem PostG.ext {f1 : Nm} {H1 : Hp} {Q : β → Hp → Prop} {r : Res α} (p : PostG L K R W f σ H Q r) (x : Ext f f1 H H1) : PostG L K R W f1 σ H1 Q r := by
  cases r with
  | ok v h' => exact fun f' H' v' y S rv => p f' H' v' (x.trans y) S rv
  | exc c fs h' => exact fun f' H' cls d y S rx => p f' H' cls d (x.trans y) S rx
  | bad => exact p
theorem PostG.bind {Q : δ → Hp → Prop} {r : Res α} {k : α → Mem → Res γ} (p : PostG L K R2 W f σ H Q (r.bind k)) :
    PostG L K R W f σ H (fun b H1 => ∃ f1 a h1, r = .ok a h1 ∧ Ext f f1 H H1 ∧ Sim L K f1 h1 H1 ∧ R f1 H1 a b ∧ PostG L K R2 W f1 σ H1 Q (k a h1)) r := by
  cases r with
  | ok a h1 => exact fun f1 H1 b x S rb => ⟨f1, a, h1, rfl, x, S, rb, PostG.ext (r := k a h1) p x⟩
  | exc c fs h' => exact p
  | bad => exact p
end
def GoodE (L : Lk) (K : PySem.W.Frag) (W : WX) (m : ME) : TE := fun σ H Q => ∃ f ρ h, Sim L K f h H ∧ EnvR L K f H ρ σ ∧ PostG L K (RV L K) W f σ H Q (m ρ h)
def GoodT (L : Lk) (K : PySem.W.Frag) (W : WX) (m : MT) : TT := fun σ H Q => ∃ f ρ h, Sim L K f h H ∧ EnvR L K f H ρ σ ∧ PostG L K RB W f σ H Q (m ρ h)
def GoodA (L : Lk) (K : PySem.W.Frag) (W : WX) (m : MA) : TA := fun σ H Q => ∃ f ρ h, Sim L K f h H ∧ EnvR L K f H ρ σ ∧ PostG L K (RVs L K) W f σ H Q (m ρ h)
end
end Mp
set_option Elab.async false
set_option linter.all false
set_option maxRecDepth 100000
set_option maxHeartbeats 1000000
namespace Mp
open PySem PySem.Spec PyProof.Rows L2
theorem peImp {X : Cx} {e : Expr} {t t' : TE} (h : PE X e t) (i : ∀ σ H Q, t' σ H Q → t σ H Q) : PE X e t' := ⟨fun pins s σ H Q I q => h.run pins s σ H Q I (i σ H Q q)⟩
theorem ptImp {X : Cx} {e : Expr} {t t' : TT} (h : PT X e t) (i : ∀ σ H Q, t' σ H Q → t σ H Q) : PT X e t' := ⟨fun pins s σ H Q I q => h.run pins s σ H Q I (i σ H Q q)⟩
theorem pwImp {X : Cx} {e : Expr} {t t' : TT} (h : PW X e t) (i : ∀ σ H Q, t' σ H Q → t σ H Q) : PW X e t' := ⟨fun w pins s σ H Q I q => h.run w pins s σ H Q I (i σ H Q q)⟩
theorem paImp {X : Cx} {e : List Expr} {t t' : TA} (h : PA X e t) (i : ∀ σ H Q, t' σ H Q → t σ H Q) : PA X e t' := ⟨fun pos pins s σ H Q I q => h.run pos pins s σ H Q I (i σ H Q q)⟩
theorem psImp {X : Cx} {e : Stmt} {t t' : TS} (h : PS X e t) (i : ∀ D σ H, t' D σ H → t D σ H) : PS X e t' := ⟨fun pins s σ H D I q => h.run pins s σ H D I (i D σ H q)⟩
theorem pssImp {X : Cx} {e : List Stmt} {t t' : TS} (h : PSs X e t) (i : ∀ D σ H, t' D σ H → t D σ H) : PSs X e t' := ⟨fun pins s σ H D I q => h.run pins s σ H D I (i D σ H q)⟩
theorem peNo {X : Cx} {e : Expr} {t : TE} (h : ∀ σ H Q, ¬ t σ H Q) : PE X e t := ⟨fun pins s σ H Q I q => absurd q (h σ H Q)⟩
theorem ptNo {X : Cx} {e : Expr} {t : TT} (h : ∀ σ H Q, ¬ t σ H Q) : PT X e t := ⟨fun pins s σ H Q I q => absurd q (h σ H Q)⟩
theorem psNo {X : Cx} {e : Stmt} {t : TS} (h : ∀ D σ H, ¬ t D σ H) : PS X e t := ⟨fun pins s σ H D I q => absurd q (h D σ H)⟩
/-- no exception -/
def NoX {α : Type} (r : Res α) : Prop := match r with
  | .exc _ _ _ => False
  | _ => True
abbrev WF : WX := fun _ _ _ _ => False
section
variable {L : Lk} {K : PySem.W.Frag} {f f' : Nm} {h h' : Mem} {H H' : Hp} {W : WX} {σ : L2.St} {ρ : Env}
theorem PostG.nox {α β : Type} {R : Nm → Hp → α → β → Prop} {W' : WX} {σ' : L2.St} {Q : β → Hp → Prop} {r : Res α} (nx : NoX r) (p : PostG L K R W f σ H Q r) : PostG L K R W' f σ' H Q r := by
  cases r with
  | ok v h' => exact p
  | exc c fs h' => exact absurd nx id
  | bad => exact p
theorem good_no {m : ME} (e : ∀ ρ h, m ρ h = .bad) : ∀ σ H Q, ¬ GoodE L K W m σ H Q := fun σ H Q ⟨f, ρ, h, _, _, p⟩ => by rw [e] at p; exact p
theorem good_noT {m : MT} (e : ∀ ρ h, m ρ h = .bad) : ∀ σ H Q, ¬ GoodT L K W m σ H Q := fun σ H Q ⟨f, ρ, h, _, _, p⟩ => by rw [e] at p; exact p
/-! ### shapes -/
theorem rv_int {i : Int} {v : V} (r : RV L K f H (.int i) v) : v = .int i := by unfold RV at r; exact r
theorem rv_str {i : Str} {v : V} (r : RV L K f H (.str i) v) : v = .str i := by unfold RV at r; exact r
theorem rv_bl {i : Bool} {v : V} (r : RV L K f H (.bl i) v) : v = .bl i := by unfold RV at r; exact r
theorem rv_non {v : V} (r : RV L K f H .non v) : v = .non := by unfold RV at r; exact r
theorem rv_fn {g : Str} {v : V} (r : RV L K f H (.fn g) v) : v = .ref (L.F g) := by unfold RV at r; exact r
theorem rv_ref {n : Nat} {v : V} (r : RV L K f H (.ref n) v) : ∃ a, f n = some a ∧ v = .ref a := by unfold RV at r; exact r
theorem rv_tup {ts : List Val} {v : V} (r : RV L K f H (.tup ts) v) : ∃ a vs, v = .ref a ∧ SqT K H a vs ∧ RVs L K f H ts vs := by unfold RV at r; exact r
theorem mk_int (i : Int) : RV L K f H (.int i) (.int i) := by unfold RV; rfl
theorem mk_str (i : Str) : RV L K f H (.str i) (.str i) := by unfold RV; rfl
theorem mk_bl (i : Bool) : RV L K f H (.bl i) (.bl i) := by unfold RV; rfl
theorem mk_non : RV L K f H .non .non := by unfold RV; rfl
theorem mk_ref {n : Nat} {a : Addr} (e : f n = some a) : RV L K f H (.ref n) (.ref a) := by unfold RV; exact ⟨a, e, rfl⟩
theorem mk_tup {ts : List Val} {a : Addr} {vs : List V} (e : SqT K H a vs) (r : RVs L K f H ts vs) : RV L K f H (.tup ts) (.ref a) := by unfold RV; exact ⟨a, vs, rfl, e, r⟩
theorem Sim.lst (S : Sim L K f h H) {n : Nat} {a : Addr} {xs : List Val} (e : f n = some a) (q : h[n]? = some (.lst xs)) : ∃ vs, H a = some (.lst vs) ∧ RVs L K f H xs vs := by
  obtain ⟨o, q', r⟩ := S.at_ n a e
  rw [q] at q'; cases q'
  exact r
theorem Sim.seq (S : Sim L K f h H) {n : Nat} {a : Addr} {xs : List Val} (e : f n = some a) (q : h[n]? = some (.lst xs) ∨ h[n]? = some (.rol xs)) : ∃ vs, SqL K H a vs ∧ RVs L K f H xs vs := by
  obtain ⟨o, q', r⟩ := S.at_ n a e
  rcases q with q | q <;> rw [q] at q' <;> cases q'
  · obtain ⟨vs, z, y⟩ := r
    exact ⟨vs, SqL.of z, y⟩
  · obtain ⟨o, vs, z, y⟩ := r
    exact ⟨vs, .inl (.inr ⟨o, z⟩), y⟩
theorem Sim.tyL (S : Sim L K f h H) {n : Nat} {a : Addr} {xs : List Val} (e : f n = some a) (q : h[n]? = some (.lst xs) ∨ h[n]? = some (.rol xs)) : TyX K H (.ref a) (.type "list") := by
  obtain ⟨o, q', r⟩ := S.at_ n a e
  rcases q with q | q <;> rw [q] at q' <;> cases q'
  · obtain ⟨vs, z, y⟩ := r
    exact .base (.lst z)
  · obtain ⟨o, vs, z, y⟩ := r
    exact .base (.frz z)
/-! ### new lists, new tuples -/
theorem newL_nox (xs : List Val) (h : Mem) : NoX (newL xs h) := by unfold newL; split <;> exact True.intro
theorem newL_ok {xs : List Val} {vs : List V} {Q : VK} (S : Sim L K f h H) (r : RVs L K f H xs vs) (p : PostG L K (RV L K) W f σ H Q (newL xs h)) : vs.length ≤ sizeLine ∧ ∀ q, H q = none → Q (.ref q) (upd H q (.lst vs)) := by
  unfold newL at p
  split at p
  · rename_i hz
    refine ⟨by rw [← r.length]; exact hz, fun q hq => ?_⟩
    exact p (put f h.length q) _ _ (ext_put S hq) (S.alloc hq ⟨vs, upd_same, r.mono S (ext_put S hq)⟩) (mk_ref put_same)
  · exact absurd p id
theorem newT_ok {xs : List Val} {vs : List V} {Q : VK} (S : Sim L K f h H) (r : RVs L K f H xs vs) (p : PostG L K (RV L K) W f σ H Q (.ok (.tup xs) h)) : ∀ q, H q = none → Q (.ref q) (upd H q (.tup vs)) := fun q hq =>
  p f _ _ (ext_new hq) (S.out hq) (mk_tup (SqT.of upd_same) (r.mono S (ext_new hq)))
theorem now {v : Val} {v' : V} {Q : VK} (S : Sim L K f h H) (r : RV L K f H v v') (p : PostG L K (RV L K) W f σ H Q (.ok v h)) : Q v' H := p f H v' (Ext.refl f H) S r
/-! ### operators by values -/
def rOpV (L : Lk) (K : PySem.W.Frag) (g : Val → Val → Mem → Res Val) : R2 := fun x' y' H Q => ∃ f h x y, Sim L K f h H ∧ RV L K f H x x' ∧ RV L K f H y y' ∧ PostG L K (RV L K) WF f [] H Q (g x y h)
theorem good_e2 {g : Val → Val → Mem → Res Val} (nx : ∀ x y h, NoX (g x y h)) {da db : ME} {Q : VK} (G : GoodE L K W (e2 g da db) σ H Q) : tOp (rOpV L K g) (GoodE L K W da) (GoodE L K W db) σ H Q := by
  obtain ⟨f, ρ, h, S, E, p⟩ := G
  refine ⟨f, ρ, h, S, E, (PostG.bind (R := RV L K) p).imp fun x' H1 ⟨f1, x, h1, e1, X1, S1, R1, p1⟩ => ?_⟩
  refine ⟨f1, ρ, h1, S1, E.mono S X1, (PostG.bind (R := RV L K) p1).imp fun y' H2 ⟨f2, y, h2, e2, X2, S2, R2, p2⟩ => ?_⟩
  exact ⟨f2, h2, x, y, S2, R1.mono S1 X2, R2, p2.nox (nx x y h2)⟩
theorem mulOk_of {i j : Int} (h : mulOk i j = true) : CMul i j := by
  unfold mulOk at h
  rw [Bool.or_eq_true] at h
  rcases h with h | h
  · exact .inl (of_decide_eq_true h)
  · exact .inr (of_decide_eq_true h)
theorem binop_nox (op : Operator) (x y : Val) (h : Mem) : NoX (binop op x y h) := by
  unfold binop
  split <;> (try split) <;> (try split) <;> first | exact True.intro | exact newL_nox _ _
end
section
variable {L : Lk} {X : Cx}
theorem sbin (op : Operator) : OpR X (binaryOp op) (rOpV L X.K (binop op)) := by
  intro pins s σ H x' y' v u Q I rx ry ⟨f, h, x, y, S, Rx, Ry, p⟩
  unfold binop at p
  split at p
  · obtain rfl := rv_int Rx
    obtain rfl := rv_int Ry
    rename_i i j
    exact op_add pins s σ H _ _ v u Q I rx ry ⟨i, j, rfl, rfl, now S (mk_int _) p⟩
  · obtain rfl := rv_str Rx
    obtain rfl := rv_str Ry
    rename_i i j
    split at p
    · rename_i hz
      exact op_add_str pins s σ H _ _ v u Q I rx ry ⟨i, j, rfl, rfl, hz, now S (mk_str _) p⟩
    · exact absurd p id
  · split at p
    · rename_i xs ys hz
      obtain ⟨a, vs, rfl, sa, ra⟩ := rv_tup Rx
      obtain ⟨b, ws, rfl, sb, rb⟩ := rv_tup Ry
      refine op_catA pins s σ H _ _ v u Q I rx ry ⟨a, b, vs, ws, rfl, rfl, sa, sb, by rw [← ra.length, ← rb.length]; exact hz, fun e => ?_, fun ne e => ?_, fun ne ne' q hq => ?_⟩
      · subst e
        have ex : xs = [] := List.eq_nil_of_length_eq_zero (by rw [ra.length]; rfl)
        subst ex
        exact now S (mk_tup sb rb) p
      · subst e
        have ey : ys = [] := List.eq_nil_of_length_eq_zero (by rw [rb.length]; rfl)
        subst ey
        rw [List.append_nil] at p
        exact now S (mk_tup sa ra) p
      · exact newT_ok S (ra.append rb) p q hq
    · exact absurd p id
  · split at p
    · rename_i n m xs ys e1 e2
      obtain ⟨a, ea, rfl⟩ := rv_ref Rx
      obtain ⟨b, eb, rfl⟩ := rv_ref Ry
      obtain ⟨vs, ha, ra⟩ := S.lst ea e1
      obtain ⟨ws, hb, rb⟩ := S.lst eb e2
      obtain ⟨hz, k⟩ := newL_ok S (ra.append rb) p
      rw [List.length_append] at hz
      exact op_cat pins s σ H _ _ v u Q I rx ry ⟨a, b, vs, ws, rfl, rfl, ha, hb, hz, k⟩
    · exact absurd p id
  · obtain rfl := rv_int Rx
    obtain rfl := rv_int Ry
    rename_i i j
    exact op_sub pins s σ H _ _ v u Q I rx ry ⟨i, j, rfl, rfl, now S (mk_int _) p⟩
  · obtain rfl := rv_int Rx
    obtain rfl := rv_int Ry
    rename_i i j
    split at p
    · rename_i hz
      exact op_mul pins s σ H _ _ v u Q I rx ry ⟨i, j, rfl, rfl, mulOk_of hz, now S (mk_int _) p⟩
    · exact absurd p id
  · split at p
    · rename_i n k _ xs e1
      split at p
      · rename_i hz
        obtain ⟨a, ea, rfl⟩ := rv_ref Rx
        obtain rfl := rv_int Ry
        obtain ⟨vs, ha, ra⟩ := S.lst ea e1
        obtain ⟨_, kk⟩ := newL_ok S (ra.rep k.toNat) p
        exact op_rep pins s σ H _ _ v u Q I rx ry ⟨a, k, vs, rfl, rfl, ha, hz.1, hz.2.1, by rw [← ra.length]; exact hz.2.2, kk⟩
      · exact absurd p id
    · exact absurd p id
  · obtain rfl := rv_int Rx
    obtain rfl := rv_int Ry
    rename_i i j
    split at p
    · rename_i hz
      refine op_fdivW pins s σ H _ _ v u Q I rx ry ⟨i, j, rfl, rfl, wide_div (b := 64) hz.1 (by have := hz.2; omega) (by decide) (by decide), now S (mk_int _) p⟩
    · exact absurd p id
  · obtain rfl := rv_int Rx
    obtain rfl := rv_int Ry
    rename_i i j
    split at p
    · rename_i hz
      exact op_mod pins s σ H _ _ v u Q I rx ry ⟨i, j, rfl, rfl, hz, now S (mk_int _) p⟩
    · exact absurd p id
  · obtain rfl := rv_int Rx
    obtain rfl := rv_int Ry
    rename_i i j
    split at p
    · rename_i hz
      exact op_pow pins s σ H _ _ v u Q I rx ry ⟨i, j, rfl, rfl, hz, now S (mk_int _) p⟩
    · exact absurd p id
  · exact absurd p id
end
section
variable {L : Lk} {K : PySem.W.Frag} {f f' : Nm} {h h' : Mem} {H H' : Hp} {W : WX} {σ : L2.St} {ρ : Env}
/-! ### deep reading -/
mutual
theorem rd_dp (S : Sim L K f h H) : ∀ (n : Nat) (v : Val) (d : PyData) (v' : V), rd h n v = some d → RV L K f H v v' → Dp K H v' d
  | 0, _, _, _, e, _ => by simp [rd] at e
  | n + 1, v, d, v', e, r => by
    cases v with
    | non => rw [rv_non r]; simp [rd] at e; subst e; exact .non
    | bl b => rw [rv_bl r]; simp [rd] at e; subst e; exact .bl b
    | int i => rw [rv_int r]; simp [rd] at e; subst e; exact .int i
    | str x => rw [rv_str r]; simp [rd] at e; subst e; exact .str x
    | fn g => simp [rd] at e
    | tup ts =>
      obtain ⟨a, vs, rfl, sa, ra⟩ := rv_tup r
      simp only [rd] at e
      obtain ⟨ds, e1, rfl⟩ := Option.map_eq_some_iff.mp e
      exact .tup sa (rds_dp S n ts ds vs e1 ra)
    | ref m =>
      obtain ⟨a, ea, rfl⟩ := rv_ref r
      simp only [rd] at e
      split at e
      · rename_i xs q
        obtain ⟨ds, e1, rfl⟩ := Option.map_eq_some_iff.mp e
        obtain ⟨vs, sv, rv⟩ := S.seq ea (.inl q)
        exact .lst sv (rds_dp S n xs ds vs e1 rv)
      · rename_i xs q
        obtain ⟨ds, e1, rfl⟩ := Option.map_eq_some_iff.mp e
        obtain ⟨vs, sv, rv⟩ := S.seq ea (.inr q)
        exact .lst sv (rds_dp S n xs ds vs e1 rv)
      · cases e
theorem rds_dp (S : Sim L K f h H) : ∀ (n : Nat) (vs : List Val) (ds : List PyData) (vs' : List V), rds h n vs = some ds → RVs L K f H vs vs' → DpAll K H vs' ds
  | 0, _, _, _, e, _ => by simp [rds] at e
  | n + 1, [], ds, vs', e, r => by
    unfold RVs at r; subst r
    simp [rds] at e; subst e
    exact .nil
  | n + 1, v :: vs, ds, vs', e, r => by
    unfold RVs at r
    obtain ⟨w, ws, rfl, r1, r2⟩ := r
    simp only [rds] at e
    split at e
    · rename_i d ds' e1 e2
      cases e
      exact .cons (rd_dp S n v d w e1 r1) (rds_dp S n vs ds' ws e2 r2)
    · cases e
end
theorem rdS_dp (S : Sim L K f h H) {v : Val} {d : PyData} {v' : V} (e : rdS h v = some d) (r : RV L K f H v v') : Dp K H v' d ∧ SeqAt.shaped d = true := by
  unfold rdS at e
  split at e
  · rename_i d' q
    split at e
    · rename_i hz
      cases e
      exact ⟨rd_dp S _ _ _ _ q r, hz⟩
    · cases e
  · cases e
theorem flat_of {v : Val} {v' : V} (r : RV L K f H v v') (e : flat v = true) : flatV v' = true := by
  cases v <;> simp [flat] at e
  · rw [rv_non r]; rfl
  · rw [rv_bl r]; rfl
  · rw [rv_int r]; rfl
  · rw [rv_str r]; rfl
theorem eqF_of {v w : Val} {v' w' : V} (r : RV L K f H v v') (r' : RV L K f H w w') (e : flat v = true) (e' : flat w = true) : eqF v w = eqV v' w' := by
  cases v <;> simp [flat] at e <;> cases w <;> simp [flat] at e'
  all_goals
    first
    | rw [rv_non r] | rw [rv_bl r] | rw [rv_int r] | rw [rv_str r]
  all_goals
    first
    | rw [rv_non r'] | rw [rv_bl r'] | rw [rv_int r'] | rw [rv_str r']
  all_goals rfl
theorem any_of {w : Val} {w' : V} (r' : RV L K f H w w') (e' : flat w = true) : ∀ {ts : List Val} {vs : List V}, RVs L K f H ts vs → ts.all flat = true → vs.all flatV = true ∧ (ts.any fun y => eqF y w) = vs.any fun y => eqV y w'
  | [], vs, r, _ => by unfold RVs at r; subst r; exact ⟨rfl, rfl⟩
  | t :: ts, vs, r, a => by
    unfold RVs at r
    obtain ⟨v, q, rfl, r1, r2⟩ := r
    simp only [List.all_cons, Bool.and_eq_true] at a
    obtain ⟨i1, i2⟩ := any_of r' e' r2 a.2
    refine ⟨?_, ?_⟩
    · rw [List.all_cons, i1, flat_of r1 a.1]; rfl
    · rw [List.any_cons, List.any_cons, i2, eqF_of r1 r' a.1 e']
theorem isNon_of {v : Val} {v' : V} (r : RV L K f H v v') : isNon v = decide (v' = .non) := by
  cases v
  · rw [rv_non r]; rfl
  · rw [rv_bl r]; rfl
  · rw [rv_int r]; rfl
  · rw [rv_str r]; rfl
  · obtain ⟨a, vs, rfl, _⟩ := rv_tup r; rfl
  · obtain ⟨a, _, rfl⟩ := rv_ref r; rfl
  · rw [rv_fn r]; rfl
end
section
variable {L : Lk} {X : Cx}
theorem cmpR_nox (op : CmpOp) (x y : Val) (h : Mem) : NoX (cmpR op x y h) := by
  unfold cmpR
  cases cmpop op h x y <;> exact True.intro
theorem scmp (hu : X.A.units + 65 < cLine) (op : CmpOp) : OpR X (compareOp op) (rOpV L X.K (cmpR op)) := by
  intro pins s σ H x' y' v u Q I rx ry ⟨f, h, x, y, S, Rx, Ry, p⟩
  unfold cmpR at p
  cases ec : cmpop op h x y with
  | none => rw [ec] at p; exact absurd p id
  | some b =>
    rw [ec] at p
    have q : Q (.bl b) H := now S (mk_bl _) p
    unfold cmpop at ec
    split at ec
    · split at ec
      · rename_i d e e1 e2
        cases ec
        obtain ⟨d1, s1⟩ := rdS_dp S e1 Rx
        obtain ⟨d2, s2⟩ := rdS_dp S e2 Ry
        exact op_eqD (by omega) pins s σ H _ _ v u Q I rx ry ⟨d, e, d1, d2, s1, s2, q⟩
      · cases ec
    · split at ec
      · rename_i d e e1 e2
        cases ec
        obtain ⟨d1, s1⟩ := rdS_dp S e1 Rx
        obtain ⟨d2, s2⟩ := rdS_dp S e2 Ry
        exact op_neD (by omega) pins s σ H _ _ v u Q I rx ry ⟨d, e, d1, d2, s1, s2, q⟩
      · cases ec
    · obtain rfl := rv_int Rx
      obtain rfl := rv_int Ry
      rename_i i j
      cases ec
      exact op_lt pins s σ H _ _ v u Q I rx ry ⟨i, j, rfl, rfl, q⟩
    · obtain rfl := rv_int Rx
      obtain rfl := rv_int Ry
      rename_i i j
      cases ec
      exact op_le pins s σ H _ _ v u Q I rx ry ⟨i, j, rfl, rfl, q⟩
    · obtain rfl := rv_int Rx
      obtain rfl := rv_int Ry
      rename_i i j
      cases ec
      exact op_gt pins s σ H _ _ v u Q I rx ry ⟨i, j, rfl, rfl, q⟩
    · obtain rfl := rv_int Rx
      obtain rfl := rv_int Ry
      rename_i i j
      cases ec
      exact op_ge pins s σ H _ _ v u Q I rx ry ⟨i, j, rfl, rfl, q⟩
    · cases ec
      obtain rfl := rv_non Ry
      exact op_isN pins s σ H _ _ v u Q I rx ry ⟨rfl, by rw [← isNon_of Rx]; exact q⟩
    · cases ec
      obtain rfl := rv_non Ry
      exact op_notN pins s σ H _ _ v u Q I rx ry ⟨rfl, by rw [← isNon_of Rx]; exact q⟩
    · unfold inOp at ec
      split at ec
      · cases ec
        obtain rfl := rv_str Rx
        obtain rfl := rv_str Ry
        exact op_in_str pins s σ H _ _ v u Q I rx ry ⟨_, _, rfl, rfl, q⟩
      · split at ec
        · rename_i hz
          cases ec
          rw [Bool.and_eq_true] at hz
          obtain ⟨a, vs, rfl, sa, ra⟩ := rv_tup Ry
          obtain ⟨z1, z2⟩ := any_of Rx hz.1 ra hz.2
          rw [z2] at q
          exact op_in_seq pins s σ H _ _ v u Q I rx ry ⟨a, vs, rfl, .inr sa, flat_of Rx hz.1, z1, q⟩
        · cases ec
      · split at ec
        · rename_i d ds e1 e2
          cases ec
          obtain ⟨d1, s1⟩ := rdS_dp S e1 Rx
          obtain ⟨d2, s2⟩ := rdS_dp S e2 Ry
          exact op_inD hu pins s σ H _ _ v u Q I rx ry ⟨d, ds, d1, d2, s1, s2, q⟩
        · cases ec
      · cases ec
    · obtain ⟨b', ec2, rfl⟩ := Option.map_eq_some_iff.mp ec
      clear ec
      unfold inOp at ec2
      split at ec2
      · obtain rfl := Option.some.inj ec2
        obtain rfl := rv_str Rx
        obtain rfl := rv_str Ry
        exact op_notin_str pins s σ H _ _ v u Q I rx ry ⟨_, _, rfl, rfl, q⟩
      · split at ec2
        · rename_i hz
          obtain rfl := Option.some.inj ec2
          rw [Bool.and_eq_true] at hz
          obtain ⟨a, vs, rfl, sa, ra⟩ := rv_tup Ry
          obtain ⟨z1, z2⟩ := any_of Rx hz.1 ra hz.2
          rw [z2] at q
          exact op_notIn_seq pins s σ H _ _ v u Q I rx ry ⟨a, vs, rfl, .inr sa, flat_of Rx hz.1, z1, q⟩
        · cases ec2
      · split at ec2
        · rename_i d ds e1 e2
          obtain rfl := Option.some.inj ec2
          obtain ⟨d1, s1⟩ := rdS_dp S e1 Rx
          obtain ⟨d2, s2⟩ := rdS_dp S e2 Ry
          exact op_notInD hu pins s σ H _ _ v u Q I rx ry ⟨d, ds, d1, d2, s1, s2, q⟩
        · cases ec2
      · cases ec2
    · cases ec
end
end Mp
set_option Elab.async false
set_option linter.all false
set_option maxRecDepth 100000
set_option maxHeartbeats 1000000
namespace Mp
open PySem PySem.Spec PyProof.Rows L2
section
variable {L : Lk} {X : Cx} {W : WX} {a b c : Expr} {da db dc : ME} {pos : Pos}
/-! ### names, constants -/
theorem s_var {i : Nat} {x : Str} (hN : X.N[i]? = some x) (hv : Vis X.env.scope x) (hd : (x == ("__debug__" : Str)) = false) (hcd : (x == ("__classdict__" : Str)) = false) : PE X (.Name x pos) (GoodE L X.K W (eVar i)) := by
  refine peImp (pe_var hN hv hd hcd) fun σ H Q ⟨f, ρ, h, S, E, p⟩ => ?_
  unfold eVar at p
  split at p
  · rename_i v e
    obtain ⟨v', q, r⟩ := E.at_ i v e
    exact ⟨v', q, now S r p⟩
  · exact absurd p id
theorem s_glob {x : Str} {v : Val} {v' : V} {u : Value} (hg : Gl X x) (hm : X.mg x = some u) (r : RelV v' u) (hv : ∀ f H, RV L X.K f H v v') (hd : (x == ("__debug__" : Str)) = false) : PE X (.Name x pos) (GoodE L X.K W (eC v)) :=
  peImp (pe_glob hg hm r hd) fun σ H Q ⟨f, ρ, h, S, E, p⟩ => now S (hv f H) p
theorem s_int {i : Int} {j : Nat} : PE X (.Constant (.int i) j pos) (GoodE L X.K W (eC (.int i))) := peImp pe_int fun σ H Q ⟨f, ρ, h, S, E, p⟩ => now S (mk_int i) p
theorem s_bl {i : Bool} {j : Nat} : PE X (.Constant (.bool i) j pos) (GoodE L X.K W (eC (.bl i))) := peImp pe_bl fun σ H Q ⟨f, ρ, h, S, E, p⟩ => now S (mk_bl i) p
theorem s_str {i : Str} {j : Nat} : PE X (.Constant (.str i) j pos) (GoodE L X.K W (eC (.str i))) := peImp pe_str fun σ H Q ⟨f, ρ, h, S, E, p⟩ => now S (mk_str i) p
theorem s_non {j : Nat} : PE X (.Constant .none j pos) (GoodE L X.K W (eC .non)) := peImp pe_non fun σ H Q ⟨f, ρ, h, S, E, p⟩ => now S mk_non p
/-! ### operators -/
theorem s_bin {op : Operator} (ha : PE X a (GoodE L X.K W da)) (hb : PE X b (GoodE L X.K W db)) : PE X (.BinOp a op b pos) (GoodE L X.K W (eBin op da db)) :=
  peImp (pe_op (sbin (L := L) op) ha hb) fun σ H Q G => good_e2 (binop_nox op) G
theorem s_cmp {op : CmpOp} (hu : X.A.units + 65 < cLine) (ha : PE X a (GoodE L X.K W da)) (hb : PE X b (GoodE L X.K W db)) (hm : behindInMarks op b = false) : PE X (.Compare a [op] [b] pos) (GoodE L X.K W (eCmp op da db)) :=
  peImp (pe_cmpR (scmp (L := L) hu op) ha hb hm) fun σ H Q G => good_e2 (cmpR_nox op) G
theorem cmpR_bl {op : CmpOp} {x y : Val} {h : Mem} {z : Val} {h' : Mem} (e : cmpR op x y h = .ok z h') : ∃ k, z = .bl k := by
  unfold cmpR at e
  cases q : cmpop op h x y with
  | none => rw [q] at e; cases e
  | some b => rw [q] at e; cases e; exact ⟨b, rfl⟩
theorem s_chain {op op' : CmpOp} (hu : X.A.units + 65 < cLine) (ha : PE X a (GoodE L X.K W da)) (hb : PE X b (GoodE L X.K W db)) (hc : PE X c (GoodE L X.K W dc)) (hm : lastMarks [op, op'] [b, c] = false) :
    PE X (.Compare a [op, op'] [b, c] pos) (GoodE L X.K W (eChain op op' da db dc)) := by
  refine peImp (pe_chain (scmp (L := L) hu op) (scmp (L := L) hu op') ha hb hc hm) fun σ H Q ⟨f, ρ, h, S, E, p⟩ => ?_
  refine ⟨f, ρ, h, S, E, (PostG.bind (R := RV L X.K) p).imp fun x' H1 ⟨f1, x, h1, e1, X1, S1, R1, p1⟩ => ?_⟩
  refine ⟨f1, ρ, h1, S1, E.mono S X1, (PostG.bind (R := RV L X.K) p1).imp fun y' H2 ⟨f2, y, h2, e2, X2, S2, R2, p2⟩ => ?_⟩
  refine ⟨f2, h2, x, y, S2, R1.mono S1 X2, R2, ((PostG.bind (R := RV L X.K) p2).nox (cmpR_nox _ _ _ _)).imp fun z' H3 ⟨f3, z, h3, e3, X3, S3, R3, p3⟩ => ?_⟩
  obtain ⟨k, rfl⟩ := cmpR_bl e3
  obtain rfl := rv_bl R3
  refine ⟨k, rfl, ?_⟩
  cases k with
  | true =>
    rw [if_pos rfl]
    refine ⟨f3, ρ, h3, S3, ((E.mono S X1).mono S1 X2).mono S2 X3, (PostG.bind (R := RV L X.K) p3).imp fun w' H4 ⟨f4, w, h4, e4, X4, S4, R4, p4⟩ => ?_⟩
    exact ⟨f4, h4, y, w, S4, (R2.mono S2 X3).mono S3 X4, R4, p4.nox (cmpR_nox _ _ _ _)⟩
  | false =>
    rw [if_neg Bool.false_ne_true]
    exact now S3 (mk_bl _) p3
theorem s_neg (ha : PE X a (GoodE L X.K W da)) : PE X (.UnaryOp .USub a pos) (GoodE L X.K W (eNeg da)) := by
  refine peImp (pe_un un_neg ha) fun σ H Q ⟨f, ρ, h, S, E, p⟩ => ?_
  refine ⟨f, ρ, h, S, E, (PostG.bind (R := RV L X.K) p).imp fun x' H1 ⟨f1, x, h1, e1, X1, S1, R1, p1⟩ => ?_⟩
  unfold negV at p1
  split at p1
  · rename_i i
    exact ⟨i, rv_int R1, now S1 (mk_int _) p1⟩
  · exact absurd p1 id
/-! ### truth -/
theorem truthy_ok {K : PySem.W.Frag} {f : Nm} {h : Mem} {H : Hp} (S : Sim L K f h H) {x : Val} {x' : V} {k : Bool} (r : RV L K f H x x') (e : truthy h x = some k) : TruV K x' H k := by
  cases x with
  | non => obtain rfl := rv_non r; unfold truthy at e; cases e; rfl
  | bl b => obtain rfl := rv_bl r; unfold truthy at e; cases e; rfl
  | int i => obtain rfl := rv_int r; unfold truthy at e; cases e; rfl
  | str y =>
    obtain rfl := rv_str r
    simp only [truthy] at e
    split at e
    · rename_i hz; cases e; exact ⟨hz, rfl⟩
    · cases e
  | tup ts =>
    obtain ⟨a, vs, rfl, sa, ra⟩ := rv_tup r
    unfold truthy at e
    cases e
    refine .inr (.inl ⟨vs, sa, ?_⟩)
    have := ra.length
    cases ts <;> cases vs <;> first | rfl | simp at this
  | ref n =>
    obtain ⟨a, ea, rfl⟩ := rv_ref r
    unfold truthy at e
    have fin : ∀ {xs : List Val}, (h[n]? = some (.lst xs) ∨ h[n]? = some (.rol xs)) → k = !xs.isEmpty → TruV K (.ref a) H k := fun {xs} q ek => by
      obtain ⟨vs, sv, rv⟩ := S.seq ea q
      refine .inl ⟨vs, sv, ?_⟩
      rw [ek]
      have := rv.length
      cases xs <;> cases vs <;> first | rfl | simp at this
    dsimp only at e
    split at e
    · rename_i xs q; cases e; exact fin (.inl q) rfl
    · rename_i xs q; cases e; exact fin (.inr q) rfl
    · cases e
  | fn g => unfold truthy at e; cases e
theorem tru_post {K : PySem.W.Frag} {f : Nm} {h : Mem} {H : Hp} {σ : L2.St} {x : Val} {x' : V} {β δ : Type} {R : Nm → Hp → β → δ → Prop} {Q : δ → Hp → Prop} {k : Bool → Mem → Res β} (S : Sim L K f h H) (r : RV L K f H x x')
    (p : PostG L K R W f σ H Q ((Res.opt (truthy h x) h).bind k)) : ∃ b, TruV K x' H b ∧ PostG L K R W f σ H Q (k b h) := by
  cases e : truthy h x with
  | none => rw [e] at p; exact absurd p id
  | some b => rw [e] at p; exact ⟨b, truthy_ok S r e, p⟩
theorem s_not (ha : PE X a (GoodE L X.K W da)) : PE X (.UnaryOp .Not a pos) (GoodE L X.K W (eNot da)) := by
  refine peImp (pe_notT ha) fun σ H Q ⟨f, ρ, h, S, E, p⟩ => ?_
  refine ⟨f, ρ, h, S, E, (PostG.bind (R := RV L X.K) p).imp fun x' H1 ⟨f1, x, h1, e1, X1, S1, R1, p1⟩ => ?_⟩
  obtain ⟨b, tb, p2⟩ := tru_post S1 R1 p1
  exact ⟨b, tb, now S1 (mk_bl _) p2⟩
theorem s_and {rest : List Expr} (ha : PE X a (GoodE L X.K W da)) (hb : PE X (.BoolOp .And (b :: rest) pos) (GoodE L X.K W db)) : PE X (.BoolOp .And (a :: b :: rest) pos) (GoodE L X.K W (eAnd da db)) := by
  refine peImp (pe_andT ha hb) fun σ H Q ⟨f, ρ, h, S, E, p⟩ => ?_
  refine ⟨f, ρ, h, S, E, (PostG.bind (R := RV L X.K) p).imp fun x' H1 ⟨f1, x, h1, e1, X1, S1, R1, p1⟩ => ?_⟩
  obtain ⟨k, tb, p2⟩ := tru_post S1 R1 p1
  refine ⟨k, tb, ?_⟩
  cases k with
  | true => rw [if_pos rfl]; rw [if_pos rfl] at p2; exact ⟨f1, ρ, h1, S1, E.mono S X1, p2⟩
  | false => rw [if_neg Bool.false_ne_true]; rw [if_neg Bool.false_ne_true] at p2; exact now S1 R1 p2
theorem s_or {rest : List Expr} (ha : PE X a (GoodE L X.K W da)) (hb : PE X (.BoolOp .Or (b :: rest) pos) (GoodE L X.K W db)) : PE X (.BoolOp .Or (a :: b :: rest) pos) (GoodE L X.K W (eOr da db)) := by
  refine peImp (pe_orT ha hb) fun σ H Q ⟨f, ρ, h, S, E, p⟩ => ?_
  refine ⟨f, ρ, h, S, E, (PostG.bind (R := RV L X.K) p).imp fun x' H1 ⟨f1, x, h1, e1, X1, S1, R1, p1⟩ => ?_⟩
  obtain ⟨k, tb, p2⟩ := tru_post S1 R1 p1
  refine ⟨k, tb, ?_⟩
  cases k with
  | true => rw [if_pos rfl]; rw [if_pos rfl] at p2; exact now S1 R1 p2
  | false => rw [if_neg Bool.false_ne_true]; rw [if_neg Bool.false_ne_true] at p2; exact ⟨f1, ρ, h1, S1, E.mono S X1, p2⟩
/-! ### tests -/
variable {ta tb : MT}
theorem t_val (ha : PE X a (GoodE L X.K W da)) (he : ∀ whole, isTrue a X.env whole = (do let v ← whole; standAt a.pos; holding [v] (PySem.truthy v))) : PT X a (GoodT L X.K W (tE da)) := by
  refine ptImp (pt_truth ha he) fun σ H Q ⟨f, ρ, h, S, E, p⟩ => ?_
  refine ⟨f, ρ, h, S, E, (PostG.bind (R := RV L X.K) p).imp fun x' H1 ⟨f1, x, h1, e1, X1, S1, R1, p1⟩ => ?_⟩
  cases e : truthy h1 x with
  | none => rw [e] at p1; exact absurd p1 id
  | some k =>
    rw [e] at p1
    exact ⟨k, truthy_ok S1 R1 e, p1 f1 H1 k (Ext.refl _ _) S1 rfl⟩
theorem t_cmp {op : CmpOp} (hu : X.A.units + 65 < cLine) (ha : PE X a (GoodE L X.K W da)) (hb : PE X b (GoodE L X.K W db)) (hm : behindInMarks op b = false) : PT X (.Compare a [op] [b] pos) (GoodT L X.K W (tE (eCmp op da db))) := by
  refine ptImp (pt_cmpR (scmp (L := L) hu op) ha hb hm) fun σ H Q ⟨f, ρ, h, S, E, p⟩ => ?_
  refine good_e2 (cmpR_nox op) ⟨f, ρ, h, S, E, (PostG.bind (R := RV L X.K) p).imp fun x' H1 ⟨f1, x, h1, e1, X1, S1, R1, p1⟩ => ?_⟩
  have ⟨k, ek⟩ : ∃ k, x = .bl k := by
    unfold eCmp e2 at e1
    cases q : da ρ h with
    | ok y h2 =>
      rw [q] at e1
      cases q2 : db ρ h2 with
      | ok z h3 => rw [Res.bind_ok, q2] at e1; exact cmpR_bl e1
      | exc _ _ _ => rw [Res.bind_ok, q2] at e1; cases e1
      | bad => rw [Res.bind_ok, q2] at e1; cases e1
    | exc _ _ _ => rw [q] at e1; cases e1
    | bad => rw [q] at e1; cases e1
  subst ek
  obtain rfl := rv_bl R1
  exact ⟨k, rfl, p1 f1 H1 k (Ext.refl _ _) S1 rfl⟩
theorem chain_bl {op op' : CmpOp} {ρ : Env} {h : Mem} {x : Val} {h1 : Mem} (e : eChain op op' da db dc ρ h = .ok x h1) : ∃ k, x = .bl k := by
  unfold eChain at e
  cases q : da ρ h with
  | ok y h2 =>
    rw [q, Res.bind_ok] at e
    cases q2 : db ρ h2 with
    | ok z h3 =>
      rw [q2, Res.bind_ok] at e
      cases q3 : cmpR op y z h3 with
      | ok w h4 =>
        rw [q3, Res.bind_ok] at e
        obtain ⟨k, rfl⟩ := cmpR_bl q3
        cases k with
        | true =>
          dsimp only at e
          cases q5 : dc ρ h4 with
          | ok u h5 => rw [q5, Res.bind_ok] at e; exact cmpR_bl e
          | exc _ _ _ => rw [q5] at e; cases e
          | bad => rw [q5] at e; cases e
        | false => cases e; exact ⟨false, rfl⟩
      | exc _ _ _ => rw [q3] at e; cases e
      | bad => rw [q3] at e; cases e
    | exc _ _ _ => rw [q2] at e; cases e
    | bad => rw [q2] at e; cases e
  | exc _ _ _ => rw [q] at e; cases e
  | bad => rw [q] at e; cases e
/-- a test by the value, where it is a truth value -/
theorem t_of_val {t : TE} (hp : PT X a (tTest t)) (hv : ∀ σ H Q, GoodE L X.K W da σ H Q → t σ H Q) (hb : ∀ ρ h x h1, da ρ h = .ok x h1 → ∃ k, x = .bl k) : PT X a (GoodT L X.K W (tE da)) := by
  refine ptImp hp fun σ H Q ⟨f, ρ, h, S, E, p⟩ => ?_
  refine hv σ H _ ⟨f, ρ, h, S, E, (PostG.bind (R := RV L X.K) p).imp fun x' H1 ⟨f1, x, h1, e1, X1, S1, R1, p1⟩ => ?_⟩
  obtain ⟨k, rfl⟩ := hb _ _ _ _ e1
  obtain rfl := rv_bl R1
  exact ⟨k, rfl, p1 f1 H1 k (Ext.refl _ _) S1 rfl⟩
theorem t_not (ha : PT X a (GoodT L X.K W ta)) : PT X (.UnaryOp .Not a pos) (GoodT L X.K W (tNot ta)) := by
  refine ptImp (pt_not ha) fun σ H Q ⟨f, ρ, h, S, E, p⟩ => ?_
  refine ⟨f, ρ, h, S, E, (PostG.bind (R := RB) p).imp fun x' H1 ⟨f1, x, h1, e1, X1, S1, R1, p1⟩ => ?_⟩
  obtain rfl : x = x' := R1
  exact p1 f1 H1 _ (Ext.refl _ _) S1 rfl
theorem t_and {rest : List Expr} (ha : PT X a (GoodT L X.K W ta)) (hb : PW X (.BoolOp .And (b :: rest) pos) (GoodT L X.K W tb)) : PW X (.BoolOp .And (a :: b :: rest) pos) (GoodT L X.K W (tAnd ta tb)) := by
  refine pwImp (pw_and ha hb) fun σ H Q ⟨f, ρ, h, S, E, p⟩ => ?_
  refine ⟨f, ρ, h, S, E, (PostG.bind (R := RB) p).imp fun x' H1 ⟨f1, x, h1, e1, X1, S1, R1, p1⟩ => ?_⟩
  obtain rfl : x = x' := R1
  cases x with
  | true => rw [if_pos rfl]; rw [if_pos rfl] at p1; exact ⟨f1, ρ, h1, S1, E.mono S X1, p1⟩
  | false => rw [if_neg Bool.false_ne_true]; rw [if_neg Bool.false_ne_true] at p1; exact p1 f1 H1 _ (Ext.refl _ _) S1 rfl
theorem t_or {rest : List Expr} (ha : PT X a (GoodT L X.K W ta)) (hb : PW X (.BoolOp .Or (b :: rest) pos) (GoodT L X.K W tb)) : PW X (.BoolOp .Or (a :: b :: rest) pos) (GoodT L X.K W (tOr ta tb)) := by
  refine pwImp (pw_or ha hb) fun σ H Q ⟨f, ρ, h, S, E, p⟩ => ?_
  refine ⟨f, ρ, h, S, E, (PostG.bind (R := RB) p).imp fun x' H1 ⟨f1, x, h1, e1, X1, S1, R1, p1⟩ => ?_⟩
  obtain rfl : x = x' := R1
  cases x with
  | true => rw [if_pos rfl]; rw [if_pos rfl] at p1; exact p1 f1 H1 _ (Ext.refl _ _) S1 rfl
  | false => rw [if_neg Bool.false_ne_true]; rw [if_neg Bool.false_ne_true] at p1; exact ⟨f1, ρ, h1, S1, E.mono S X1, p1⟩
theorem s_if (hc : PT X c (GoodT L X.K W ta)) (ha : PE X a (GoodE L X.K W da)) (hb : PE X b (GoodE L X.K W db)) : PE X (.IfExp c a b pos) (GoodE L X.K W (eIf ta da db)) := by
  refine peImp (pe_ifExp hc ha hb) fun σ H Q ⟨f, ρ, h, S, E, p⟩ => ?_
  refine ⟨f, ρ, h, S, E, (PostG.bind (R := RB) p).imp fun x' H1 ⟨f1, x, h1, e1, X1, S1, R1, p1⟩ => ?_⟩
  obtain rfl : x = x' := R1
  cases x with
  | true => rw [if_pos rfl]; rw [if_pos rfl] at p1; exact ⟨f1, ρ, h1, S1, E.mono S X1, p1⟩
  | false => rw [if_neg Bool.false_ne_true]; rw [if_neg Bool.false_ne_true] at p1; exact ⟨f1, ρ, h1, S1, E.mono S X1, p1⟩
/-! ### argument lists, displays, subscripts -/
variable {es : List Expr} {das : MA}
theorem a_nil : PA X [] (GoodA L X.K W aNil) := paImp pa_nil fun σ H Q ⟨f, ρ, h, S, E, p⟩ => p f H [] (Ext.refl _ _) S RVs.nil
theorem a_cons (ha : PE X a (GoodE L X.K W da)) (hr : PA X es (GoodA L X.K W das)) (hs : starEach (a :: es) X.env = (false, eval a X.env) :: starEach es X.env) : PA X (a :: es) (GoodA L X.K W (aCons da das)) := by
  refine paImp (pa_cons ha hr hs) fun σ H Q ⟨f, ρ, h, S, E, p⟩ => ?_
  refine ⟨f, ρ, h, S, E, (PostG.bind (R := RV L X.K) p).imp fun x' H1 ⟨f1, x, h1, e1, X1, S1, R1, p1⟩ => ?_⟩
  refine ⟨f1, ρ, h1, S1, E.mono S X1, (PostG.bind (R := RVs L X.K) p1).imp fun xs' H2 ⟨f2, xs, h2, e2, X2, S2, R2, p2⟩ => ?_⟩
  exact p2 f2 H2 _ (Ext.refl _ _) S2 (RVs.cons (R1.mono S1 X2) R2)
theorem s_tup {k : Nat} (ha : PA X es (GoodA L X.K W das)) : PE X (.Tuple es k pos) (GoodE L X.K W (eTup das)) := by
  refine peImp (pe_tup ha) fun σ H Q ⟨f, ρ, h, S, E, p⟩ => ?_
  refine ⟨f, ρ, h, S, E, (PostG.bind (R := RVs L X.K) p).imp fun xs' H1 ⟨f1, xs, h1, e1, X1, S1, R1, p1⟩ => ?_⟩
  split at p1
  · rename_i hz
    exact ⟨by rw [← R1.length]; exact hz, newT_ok S1 R1 p1⟩
  · exact absurd p1 id
theorem s_lst (ha : PA X es (GoodA L X.K W das)) : PE X (.List es pos) (GoodE L X.K W (eLst das)) := by
  refine peImp (pe_lst ha) fun σ H Q ⟨f, ρ, h, S, E, p⟩ => ?_
  refine ⟨f, ρ, h, S, E, (PostG.bind (R := RVs L X.K) p).imp fun xs' H1 ⟨f1, xs, h1, e1, X1, S1, R1, p1⟩ => ?_⟩
  exact newL_ok S1 R1 p1
theorem atI_rel {K : PySem.W.Frag} {f : Nm} {H : Hp} {ts : List Val} {vs : List V} (r : RVs L K f H ts vs) {i : Int} {t : Val} (e : atI ts i = some t) : ∃ v, atI vs i = some v ∧ RV L K f H t v := by
  unfold atI at e ⊢
  rw [← r.length]
  cases q : ixN ts.length i with
  | none => rw [q] at e; cases e
  | some j =>
    rw [q] at e
    exact r.get e
theorem idx_ok {K : PySem.W.Frag} {f : Nm} {h : Mem} {H : Hp} {Q : VK} {σ : L2.St} (S : Sim L K f h H) {x y : Val} {x' y' : V} (rx : RV L K f H x x') (ry : RV L K f H y y') (p : PostG L K (RV L K) W f σ H Q (Res.opt (idx h x y) h)) : rIx K x' y' H Q := by
  cases e : idx h x y with
  | none => rw [e] at p; exact absurd p id
  | some v =>
    rw [e] at p
    unfold idx at e
    split at e
    · rename_i ts i
      obtain ⟨a, vs, rfl, sa, ra⟩ := rv_tup rx
      obtain rfl := rv_int ry
      obtain ⟨w, q1, q2⟩ := atI_rel ra e
      exact .inr (.inl ⟨a, vs, i, w, rfl, rfl, sa, q1, now S q2 p⟩)
    · rename_i z i
      obtain rfl := rv_str rx
      obtain rfl := rv_int ry
      split at e
      · rename_i hz
        obtain ⟨c, q, rfl⟩ := Option.map_eq_some_iff.mp e
        exact .inr (.inr ⟨z, i, c, rfl, rfl, hz, q, now S (mk_str _) p⟩)
      · cases e
    · rename_i n i
      obtain ⟨a, ea, rfl⟩ := rv_ref rx
      obtain rfl := rv_int ry
      split at e
      · rename_i xs q
        obtain ⟨vs, sv, rv⟩ := S.seq ea (.inl q)
        obtain ⟨w, q1, q2⟩ := atI_rel rv e
        exact .inl ⟨a, vs, i, w, rfl, rfl, sv, q1, now S q2 p⟩
      · rename_i xs q
        obtain ⟨vs, sv, rv⟩ := S.seq ea (.inr q)
        obtain ⟨w, q1, q2⟩ := atI_rel rv e
        exact .inl ⟨a, vs, i, w, rfl, rfl, sv, q1, now S q2 p⟩
      · cases e
    · cases e
theorem s_idx (ha : PE X a (GoodE L X.K W da)) (hb : PE X b (GoodE L X.K W db)) (hs : PlainIx b) : PE X (.Subscript a b pos) (GoodE L X.K W (eIdx da db)) := by
  refine peImp (pe_ix ix_seq ha hb hs) fun σ H Q ⟨f, ρ, h, S, E, p⟩ => ?_
  refine ⟨f, ρ, h, S, E, (PostG.bind (R := RV L X.K) p).imp fun x' H1 ⟨f1, x, h1, e1, X1, S1, R1, p1⟩ => ?_⟩
  refine ⟨f1, ρ, h1, S1, E.mono S X1, (PostG.bind (R := RV L X.K) p1).imp fun y' H2 ⟨f2, y, h2, e2, X2, S2, R2, p2⟩ => ?_⟩
  exact idx_ok S2 (R1.mono S1 X2) R2 p2
end
end Mp
set_option Elab.async false
set_option linter.all false
set_option maxRecDepth 100000
set_option maxHeartbeats 1000000
namespace Mp
open PySem PySem.Spec PyProof.Rows L2
/-! ### statements: the machine -/
inductive Fl where
  | nx (ρ : Env) | rt (v : Val) | bk (ρ : Env) | ct (ρ : Env) | xc (ρ : Env) (c : Str) (fs : List (Str × Val))
abbrev MS := Env → Mem → Res Fl
def onE {α : Type} (r : Res α) (ρ : Env) (k : α → Mem → Res Fl) : Res Fl := match r with
  | .ok v h => k v h
  | .exc c fs h => .ok (.xc ρ c fs) h
  | .bad => .bad
@[simp] theorem onE_ok {α : Type} (v : α) (h : Mem) (ρ : Env) (k : α → Mem → Res Fl) : onE (.ok v h) ρ k = k v h := rfl
def thenF (r : Res Fl) (k : Env → Mem → Res Fl) : Res Fl := match r with
  | .ok (.nx ρ) h => k ρ h
  | r => r
@[simp] theorem thenF_nx (ρ : Env) (h : Mem) (k : Env → Mem → Res Fl) : thenF (.ok (.nx ρ) h) k = k ρ h := rfl
@[simp] theorem thenF_rt (v : Val) (h : Mem) (k : Env → Mem → Res Fl) : thenF (.ok (.rt v) h) k = .ok (.rt v) h := rfl
@[simp] theorem thenF_bk (ρ : Env) (h : Mem) (k : Env → Mem → Res Fl) : thenF (.ok (.bk ρ) h) k = .ok (.bk ρ) h := rfl
@[simp] theorem thenF_ct (ρ : Env) (h : Mem) (k : Env → Mem → Res Fl) : thenF (.ok (.ct ρ) h) k = .ok (.ct ρ) h := rfl
@[simp] theorem thenF_xc (ρ : Env) (c : Str) (fs : List (Str × Val)) (h : Mem) (k : Env → Mem → Res Fl) : thenF (.ok (.xc ρ c fs) h) k = .ok (.xc ρ c fs) h := rfl
@[simp] theorem thenF_bad (k : Env → Mem → Res Fl) : thenF .bad k = .bad := rfl
def sSkip : MS := fun ρ h => .ok (.nx ρ) h
def sBad : MS := fun _ _ => .bad
def sSeq (a b : MS) : MS := fun ρ h => thenF (a ρ h) b
def sExpr (e : ME) : MS := fun ρ h => onE (e ρ h) ρ fun _ h => .ok (.nx ρ) h
def sRet (e : ME) : MS := fun ρ h => onE (e ρ h) ρ fun v h => .ok (.rt v) h
def sRetN : MS := fun _ h => .ok (.rt .non) h
def sBrk : MS := fun ρ h => .ok (.bk ρ) h
def sCnt : MS := fun ρ h => .ok (.ct ρ) h
def sIf (t : MT) (a b : MS) : MS := fun ρ h => onE (t ρ h) ρ fun k h => if k = true then a ρ h else b ρ h
/-- targets -/
inductive Tg where
  | nm (i : Nat)
  | tp (ts : List Tg)
mutual
def put1 : Tg → Val → Env → Option Env
  | .nm i, v, ρ => some (ρ.set i (some v))
  | .tp ts, .tup vs, ρ => puts ts vs ρ
  | .tp _, _, _ => none
def puts : List Tg → List Val → Env → Option Env
  | [], [], ρ => some ρ
  | t :: ts, v :: vs, ρ => match put1 t v ρ with
    | some ρ' => puts ts vs ρ'
    | none => none
  | _, _, _ => none
end
def sAsg (t : Tg) (e : ME) : MS := fun ρ h => onE (e ρ h) ρ fun v h => match put1 t v ρ with
  | some ρ' => .ok (.nx ρ') h
  | none => .bad
def sSet (i : Nat) (e : ME) : MS := fun ρ h => onE (e ρ h) ρ fun v h => .ok (.nx (ρ.set i (some v))) h
/-- o[i] = v -/
def setIdx (o i v : Val) (h : Mem) : Res Val := match o, i with
  | .ref n, .int k => match h[n]? with
    | some (.lst xs) => match ixN xs.length k with
      | some j => .ok .non (h.set n (.lst (xs.set j v)))
      | none => .bad
    | _ => .bad
  | _, _ => .bad
def sSetIdx (o i e : ME) : MS := fun ρ h => onE (e ρ h) ρ fun v h => onE (o ρ h) ρ fun ov h => onE (i ρ h) ρ fun iv h => onE (setIdx ov iv v h) ρ fun _ h => .ok (.nx ρ) h
/-- the in-place operators: ints, texts; a list grows -/
def augop (op : Operator) (x y : Val) (h : Mem) : Res Val := match op, x, y with
  | .Add, .int i, .int j => .ok (.int (i + j)) h
  | .Add, .str i, .str j => if i.length + j.length ≤ sizeLine then .ok (.str (i ++ j)) h else .bad
  | .Add, .ref n, .ref m => match h[n]?, h[m]? with
    | some (.lst xs), some (.lst ys) => if xs.length + ys.length ≤ sizeLine then .ok (.ref n) (h.set n (.lst (xs ++ ys))) else .bad
    | _, _ => .bad
  | .Sub, .int i, .int j => .ok (.int (i - j)) h
  | _, _, _ => .bad
def sAug (i : Nat) (op : Operator) (e : ME) : MS := fun ρ h => match ρ[i]? with
  | some (some x) => onE (e ρ h) ρ fun y h => onE (augop op x y h) ρ fun z h => .ok (.nx (ρ.set i (some z))) h
  | _ => .bad
def idxL (h : Mem) (x y : Val) : Option Val := match x, y with
  | .ref n, .int i => match h[n]? with
    | some (.lst xs) => atI xs i
    | _ => none
  | _, _ => none
def sAugIdx (o i : ME) (op : Operator) (e : ME) : MS := fun ρ h => onE (o ρ h) ρ fun ov h => onE (i ρ h) ρ fun iv h => onE (Res.opt (idxL h ov iv) h) ρ fun x h =>
  onE (e ρ h) ρ fun y h => onE (augop op x y h) ρ fun z h => onE (setIdx ov iv z h) ρ fun _ h => .ok (.nx ρ) h
/-- what is walked: at a turn, in a memory: nothing known | the end | an item; how many turns at most -/
structure Wk where
  fuel : Nat
  at_ : Nat → Mem → Option (Option Val)
abbrev MI := Env → Mem → Res Wk
def wkT (ts : List Val) : Wk := ⟨ts.length, fun i _ => some ts[i]?⟩
def wkL (n : Nat) (k : Nat) : Wk := ⟨k, fun i h => match h[n]? with
  | some (.lst xs) => some xs[i]?
  | some (.rol xs) => some xs[i]?
  | _ => none⟩
def wkR (lo : Int) (n : Nat) : Wk := ⟨n, fun i _ => some (if i < n then some (.int (lo + i)) else none)⟩
def wkS (z : Str) : Wk := ⟨z.cps.size, fun i _ => some (z.cps[i]?.map fun c => .str ⟨#[c]⟩)⟩
def wkE (w : Wk) : Wk := ⟨w.fuel, fun i h => (w.at_ i h).map fun o => o.map fun v => .tup [.int i, v]⟩
def wkZ (v w : Wk) : Wk := ⟨min v.fuel w.fuel, fun i h => match v.at_ i h, w.at_ i h with
  | some (some x), some (some y) => some (some (.tup [x, y]))
  | some none, some _ => some none
  | some _, some none => some none
  | _, _ => none⟩
/-- a value as it is walked -/
def wkV (h : Mem) : Val → Option Wk
  | .tup ts => some (wkT ts)
  | .str z => some (wkS z)
  | .ref n => match h[n]? with
    | some (.lst xs) => some (wkL n xs.length)
    | some (.rol xs) => some (wkL n xs.length)
    | _ => none
  | _ => none
def iVal (e : ME) : MI := fun ρ h => (e ρ h).bind fun v h => Res.opt (wkV h v) h
def small62 (i : Int) : Bool := decide (-(2 ^ 62) ≤ i) && decide (i < 2 ^ 62)
def iRng1 (e : ME) : MI := fun ρ h => (e ρ h).bind fun v h => match v with
  | .int j => if small62 j = true then .ok (wkR 0 j.toNat) h else .bad
  | _ => .bad
def iRng2 (a b : ME) : MI := fun ρ h => (a ρ h).bind fun v h => (b ρ h).bind fun u h => match v, u with
  | .int i, .int j => if (small62 i && small62 j) = true then .ok (wkR i (j - i).toNat) h else .bad
  | _, _ => .bad
def lstB (h : Mem) : Val → Option Wk
  | .ref n => match h[n]? with
    | some (.lst xs) => some (wkL n xs.length)
    | some (.rol xs) => some (wkL n xs.length)
    | _ => none
  | _ => none
def iEnum (e : ME) : MI := fun ρ h => (e ρ h).bind fun v h => Res.opt ((lstB h v).map wkE) h
def iZip (a b : ME) : MI := fun ρ h => (a ρ h).bind fun v h => (b ρ h).bind fun u h => match lstB h v, lstB h u with
  | some w, some z => .ok (wkZ w z) h
  | _, _ => .bad
/-- the turns of a for; i: the turn; fuel: turns at most -/
def forF (w : Wk) (t : Tg) (body els : MS) : Nat → Nat → Env → Mem → Res Fl
  | fuel, i, ρ, h => match w.at_ i h with
    | none => .bad
    | some none => els ρ h
    | some (some v) => match fuel with
      | 0 => .bad
      | fuel + 1 => match put1 t v ρ with
        | none => .bad
        | some ρ1 => match body ρ1 h with
          | .ok (.nx ρ2) h2 => forF w t body els fuel (i + 1) ρ2 h2
          | .ok (.ct ρ2) h2 => forF w t body els fuel (i + 1) ρ2 h2
          | .ok (.bk ρ2) h2 => .ok (.nx ρ2) h2
          | r => r
def sFor (t : Tg) (it : MI) (body els : MS) : MS := fun ρ h => onE (it ρ h) ρ fun w h => forF w t body els w.fuel 0 ρ h
def whileF (t : MT) (body els : MS) : Nat → Env → Mem → Res Fl
  | fuel, ρ, h => onE (t ρ h) ρ fun k h => if k = true then (match fuel with
    | 0 => .bad
    | fuel + 1 => match body ρ h with
      | .ok (.nx ρ2) h2 => whileF t body els fuel ρ2 h2
      | .ok (.ct ρ2) h2 => whileF t body els fuel ρ2 h2
      | .ok (.bk ρ2) h2 => .ok (.nx ρ2) h2
      | r => r) else els ρ h
def sWhile (fuel : Nat) (t : MT) (body els : MS) : MS := whileF t body els fuel
/-- comprehensions: the places vs are the block's own -/
def wipeE (ρ : Env) : List Nat → Env
  | [] => ρ
  | v :: vs => (wipeE ρ vs).set v none
def lcF (w : Wk) (t : Tg) (c : MT) (elt : ME) (ρ : Env) : Nat → Nat → List Val → Mem → Res (List Val)
  | fuel, i, acc, h => match w.at_ i h with
    | none => .bad
    | some none => .ok acc h
    | some (some v) => match fuel with
      | 0 => .bad
      | fuel + 1 => match put1 t v ρ with
        | none => .bad
        | some ρ1 => match c ρ1 h with
          | .ok true h2 => (match elt ρ1 h2 with
            | .ok y h3 => if acc.length < sizeLine then lcF w t c elt ρ fuel (i + 1) (acc ++ [y]) h3 else .bad
            | _ => .bad)
          | .ok false h2 => lcF w t c elt ρ fuel (i + 1) acc h2
          | _ => .bad
def eLc (vs : List Nat) (t : Tg) (it : MI) (c : MT) (elt : ME) : ME := fun ρ h => (it ρ h).bind fun w h => (lcF w t c elt (wipeE ρ vs) w.fuel 0 [] h).bind newL
def tYesM : MT := fun _ h => .ok true h
end Mp
set_option Elab.async false
set_option linter.all false
set_option maxRecDepth 100000
set_option maxHeartbeats 1000000
namespace Mp
open PySem PySem.Spec PyProof.Rows L2
section
variable {L : Lk} {K : PySem.W.Frag} {f f' : Nm} {h h' : Mem} {H H' : Hp} {W : WX} {σ σ' : L2.St} {ρ : Env}
def PostS (L : Lk) (K : PySem.W.Frag) (W : WX) (D : Ends) (f : Nm) (H : Hp) (r : Res Fl) : Prop := match r with
  | .ok (.nx ρ') h' => ∀ f' H' σ', Ext f f' H H' → Sim L K f' h' H' → EnvR L K f' H' ρ' σ' → D.nx σ' H'
  | .ok (.rt v) h' => ∀ f' H' v', Ext f f' H H' → Sim L K f' h' H' → RV L K f' H' v v' → D.rt v' H'
  | .ok (.bk ρ') h' => ∀ f' H' σ', Ext f f' H H' → Sim L K f' h' H' → EnvR L K f' H' ρ' σ' → D.bk σ' H'
  | .ok (.ct ρ') h' => ∀ f' H' σ', Ext f f' H H' → Sim L K f' h' H' → EnvR L K f' H' ρ' σ' → D.ct σ' H'
  | .ok (.xc ρ' c fs) h' => ∀ f' H' σ' cls d, Ext f f' H H' → Sim L K f' h' H' → EnvR L K f' H' ρ' σ' → RX L K f' H' c fs cls d → W cls d σ' H'
  | .exc _ _ _ => False
  | .bad => False
def GoodS (L : Lk) (K : PySem.W.Frag) (W : WX) (m : MS) : TS := fun D σ H => ∃ f ρ h, Sim L K f h H ∧ EnvR L K f H ρ σ ∧ PostS L K W D f H (m ρ h)
theorem PostS.ext {f1 : Nm} {H1 : Hp} {D : Ends} {r : Res Fl} (p : PostS L K W D f H r) (x : Ext f f1 H H1) : PostS L K W D f1 H1 r := by
  cases r with
  | ok v h' =>
    cases v with
    | nx ρ => exact fun f' H' σ' y S E => p f' H' σ' (x.trans y) S E
    | rt v => exact fun f' H' v' y S E => p f' H' v' (x.trans y) S E
    | bk ρ => exact fun f' H' σ' y S E => p f' H' σ' (x.trans y) S E
    | ct ρ => exact fun f' H' σ' y S E => p f' H' σ' (x.trans y) S E
    | xc ρ c fs => exact fun f' H' σ' cls d y S E rx => p f' H' σ' cls d (x.trans y) S E rx
  | exc c fs h' => exact p
  | bad => exact p
theorem RX.mono {c : Str} {fs : List (Str × Val)} {cls : Value} {d : Option Addr} (r : RX L K f H c fs cls d) (S : Sim L K f h H) (x : Ext f f' H H') : RX L K f' H' c fs cls d := by
  obtain ⟨e, q⟩ := r
  refine ⟨e, ?_⟩
  rcases q with q | ⟨a, gs, ed, ea, r1, r2⟩
  · exact .inl q
  · refine .inr ⟨a, gs, ed, x.keep _ _ ea fun n z => ?_, r1, r2.mono S x⟩
    obtain ⟨o, _, ro⟩ := S.at_ n a z
    cases o with
    | lst xs => obtain ⟨ws, q, _⟩ := ro; rw [q] at ea; cases ea
    | ins c fs => obtain ⟨dx, gs, q, _⟩ := ro; rw [q] at ea; cases ea
    | rol xs => obtain ⟨o', ws, q, _⟩ := ro; rw [q] at ea; cases ea
/-- an expression, then a statement's rest -/
theorem PostS.onE {α β : Type} {R : Nm → Hp → α → β → Prop} {D : Ends} {r : Res α} {k : α → Mem → Res Fl} (E : EnvR L K f H ρ σ) (S : Sim L K f h H) (p : PostS L K W D f H (onE r ρ k)) :
    PostG L K R W f σ H (fun b H1 => ∃ f1 a h1, r = .ok a h1 ∧ Ext f f1 H H1 ∧ Sim L K f1 h1 H1 ∧ EnvR L K f1 H1 ρ σ ∧ R f1 H1 a b ∧ PostS L K W D f1 H1 (k a h1)) r := by
  cases r with
  | ok a h1 => exact fun f1 H1 b x S1 rb => ⟨f1, a, h1, rfl, x, S1, E.mono S x, rb, PostS.ext (r := k a h1) p x⟩
  | exc c fs h' => exact fun f' H' cls d x S' rx => p f' H' σ cls d x S' (E.mono S x) rx
  | bad => exact p
end
section
variable {L : Lk} {X : Cx} {W : WX} {a b c : Expr} {da db dc : ME} {pos : Pos} {st : Stmt} {sts : List Stmt} {ms ns : MS}
theorem ss_nil : PSs X [] (GoodS L X.K W sSkip) := pssImp pss_nil fun D σ H ⟨f, ρ, h, S, E, p⟩ => p f H σ (Ext.refl _ _) S E
theorem good_seq {D : Ends} {σ : L2.St} {H : Hp} (G : GoodS L X.K W (sSeq ms ns) D σ H) : tSeq (GoodS L X.K W ms) (GoodS L X.K W ns) D σ H := by
  obtain ⟨f, ρ, h, S, E, p⟩ := G
  refine ⟨f, ρ, h, S, E, ?_⟩
  unfold sSeq at p
  cases e : ms ρ h with
  | ok v h1 =>
    rw [e] at p
    cases v with
    | nx ρ1 => exact fun f1 H1 σ1 x S1 E1 => ⟨f1, ρ1, h1, S1, E1, PostS.ext (r := ns ρ1 h1) p x⟩
    | rt v => exact p
    | bk ρ1 => exact p
    | ct ρ1 => exact p
    | xc ρ1 c fs => exact p
  | exc c fs h1 => rw [e] at p; exact p
  | bad => rw [e] at p; exact p
theorem ss_cons (h1 : PS X st (GoodS L X.K W ms)) (h2 : PSs X sts (GoodS L X.K W ns)) : PSs X (st :: sts) (GoodS L X.K W (sSeq ms ns)) := pssImp (pss_cons h1 h2) fun D σ H G => good_seq G
theorem ss_one (h1 : PS X st (GoodS L X.K W ms)) : PSs X [st] (GoodS L X.K W ms) := pss_one h1
theorem st_pass : PS X (.Pass pos) (GoodS L X.K W sSkip) := psImp ps_pass fun D σ H ⟨f, ρ, h, S, E, p⟩ => p f H σ (Ext.refl _ _) S E
theorem st_brk : PS X (.Break pos) (GoodS L X.K W sBrk) := psImp ps_break fun D σ H ⟨f, ρ, h, S, E, p⟩ => p f H σ (Ext.refl _ _) S E
theorem st_cnt : PS X (.Continue pos) (GoodS L X.K W sCnt) := psImp ps_continue fun D σ H ⟨f, ρ, h, S, E, p⟩ => p f H σ (Ext.refl _ _) S E
theorem st_retN : PS X (.Return none pos) (GoodS L X.K W sRetN) := psImp ps_retN fun D σ H ⟨f, ρ, h, S, E, p⟩ => p f H .non (Ext.refl _ _) S mk_non
theorem st_ret (ha : PE X a (GoodE L X.K W da)) : PS X (.Return (some a) pos) (GoodS L X.K W (sRet da)) := by
  refine psImp (ps_ret ha) fun D σ H ⟨f, ρ, h, S, E, p⟩ => ?_
  exact ⟨f, ρ, h, S, E, (PostS.onE (R := RV L X.K) E S p).imp fun v' H1 ⟨f1, v, h1, e1, X1, S1, E1, R1, p1⟩ => p1 f1 H1 v' (Ext.refl _ _) S1 R1⟩
theorem st_expr (ha : PE X a (GoodE L X.K W da)) (hs : swapsWith a none pos.line X.env = pure false) : PS X (.Expr a pos) (GoodS L X.K W (sExpr da)) := by
  refine psImp (ps_expr ha hs) fun D σ H ⟨f, ρ, h, S, E, p⟩ => ?_
  exact ⟨f, ρ, h, S, E, (PostS.onE (R := RV L X.K) E S p).imp fun v' H1 ⟨f1, v, h1, e1, X1, S1, E1, R1, p1⟩ => p1 f1 H1 σ (Ext.refl _ _) S1 E1⟩
theorem st_if {t : MT} {xs ys : List Stmt} (hc : PT X c (GoodT L X.K W t)) (ha : PSs X xs (GoodS L X.K W ms)) (hb : PSs X ys (GoodS L X.K W ns)) : PS X (.If c xs ys pos) (GoodS L X.K W (sIf t ms ns)) := by
  refine psImp (ps_if hc ha hb) fun D σ H ⟨f, ρ, h, S, E, p⟩ => ?_
  refine ⟨f, ρ, h, S, E, (PostS.onE (R := RB) E S p).imp fun k' H1 ⟨f1, k, h1, e1, X1, S1, E1, R1, p1⟩ => ?_⟩
  obtain rfl : k = k' := R1
  cases k with
  | true => rw [if_pos rfl]; rw [if_pos rfl] at p1; exact ⟨f1, ρ, h1, S1, E1, p1⟩
  | false => rw [if_neg Bool.false_ne_true]; rw [if_neg Bool.false_ne_true] at p1; exact ⟨f1, ρ, h1, S1, E1, p1⟩
/-! ### stores -/
theorem good_asg {i : Nat} {D : Ends} {σ : L2.St} {H : Hp} (G : GoodS L X.K W (sSet i da) D σ H) : tAsg (GoodE L X.K W da) (gName i) D σ H := by
  obtain ⟨f, ρ, h, S, E, p⟩ := G
  exact ⟨f, ρ, h, S, E, (PostS.onE (R := RV L X.K) E S p).imp fun v' H1 ⟨f1, v, h1, e1, X1, S1, E1, R1, p1⟩ => p1 f1 H1 _ (Ext.refl _ _) S1 (E1.set R1 i)⟩
theorem st_set {i : Nat} {x : Str} {pos' : Pos} (hN : X.N.Nodup) (hi : X.N[i]? = some x) (hx : Loc X.env.scope x) (ha : PE X a (GoodE L X.K W da)) (hs : swapsWith a (some (.Name x pos')) pos.line X.env = pure false)
    (hf : X.fn x = true ∨ X.env.scope.names.lookup x = some .local) : PS X (.Assign [.Name x pos'] a pos) (GoodS L X.K W (sSet i da)) :=
  psImp (ps_set hN hi hx ha hs hf) fun D σ H G => good_asg G
theorem setIdx_ok {K : PySem.W.Frag} {f : Nm} {h : Mem} {H : Hp} {σ : L2.St} {o i v : Val} {o' i' v' : V} {Q : V → Hp → Prop} (S : Sim L K f h H) (ro : RV L K f H o o') (ri : RV L K f H i i') (rv : RV L K f H v v')
    (p : PostG L K (RV L K) W f σ H Q (setIdx o i v h)) : rSetL o' i' v' H (fun H2 => Q .non H2) := by
  unfold setIdx at p
  split at p
  · rename_i n k
    split at p
    · rename_i xs q
      split at p
      · rename_i j ej
        obtain ⟨a, ea, rfl⟩ := rv_ref ro
        obtain rfl := rv_int ri
        obtain ⟨vs, hv, rvs⟩ := S.lst ea q
        refine ⟨a, vs, k, j, rfl, rfl, hv, by rw [← rvs.length]; exact ej, ?_⟩
        have x := ext_upd (o := .lst (vs.set j v')) ea hv
        refine p f _ .non x (S.wr ea hv ⟨_, upd_same, ?_⟩) mk_non
        exact (rvs.set rv j).mono S x
      · exact absurd p id
    · exact absurd p id
  · exact absurd p id
theorem g_idx {D : Ends} {σ : L2.St} {H : Hp} {oi ii ei : ME} (G : GoodS L X.K W (sSetIdx oi ii ei) D σ H) : tAsg (GoodE L X.K W ei) (gSub (GoodE L X.K W oi) (GoodE L X.K W ii) rSetL) D σ H := by
  obtain ⟨f, ρ, h, S, E, p⟩ := G
  refine ⟨f, ρ, h, S, E, (PostS.onE (R := RV L X.K) E S p).imp fun v' H1 ⟨f1, v, h1, e1, X1, S1, E1, R1, p1⟩ => ?_⟩
  refine ⟨f1, ρ, h1, S1, E1, (PostS.onE (R := RV L X.K) E1 S1 p1).imp fun o' H2 ⟨f2, o, h2, e2, X2, S2, E2, R2, p2⟩ => ?_⟩
  refine ⟨f2, ρ, h2, S2, E2, (PostS.onE (R := RV L X.K) E2 S2 p2).imp fun i' H3 ⟨f3, i, h3, e3, X3, S3, E3, R3, p3⟩ => ?_⟩
  refine setIdx_ok (W := W) (σ := σ) (Q := fun _ H4 => D.nx σ H4) S3 (R2.mono S2 X3) R3 ((R1.mono S1 X2).mono S2 X3) ?_
  exact (PostS.onE (R := RV L X.K) E3 S3 p3).imp fun v' H4 ⟨f4, v4, h4, e4, X4, S4, E4, R4, p4⟩ => p4 f4 H4 σ (Ext.refl _ _) S4 E4
/-! ### in-place operators -/
theorem augop_ok {f : Nm} {h : Mem} {H : Hp} {σ : L2.St} {op : Operator} {x y : Val} {x' y' : V} {Q : VK} (S : Sim L X.K f h H) (rx : RV L X.K f H x x') (ry : RV L X.K f H y y') (p : PostG L X.K (RV L X.K) W f σ H Q (augop op x y h)) :
    ∀ (pins : List (Addr × Obj)) (s : Shared) (σ1 : L2.St) (v u : Value), Inv X pins σ1 H s → RelV x' v → RelV y' u → wpAny (model X.prog X.w) X.A (inplaceOp op v u) (EP X pins σ1 Q) X.xe s := by
  intro pins s σ1 v u I r1 r2
  unfold augop at p
  split at p
  · rename_i i j
    obtain rfl := rv_int rx
    obtain rfl := rv_int ry
    exact iop_add pins s σ1 H _ _ v u Q I r1 r2 ⟨i, j, rfl, rfl, now S (mk_int _) p⟩
  · rename_i i j
    split at p
    · rename_i hz
      obtain rfl := rv_str rx
      obtain rfl := rv_str ry
      exact iop_add_str pins s σ1 H _ _ v u Q I r1 r2 ⟨i, j, rfl, rfl, hz, now S (mk_str _) p⟩
    · exact absurd p id
  · split at p
    · rename_i n m _ _ xs ys e1 e2
      split at p
      · rename_i hz
        obtain ⟨a, ea, rfl⟩ := rv_ref rx
        obtain ⟨b, eb, rfl⟩ := rv_ref ry
        obtain ⟨vs, hv, rvs⟩ := S.lst ea e1
        obtain ⟨ws, hw, rws⟩ := S.lst eb e2
        refine iop_ext pins s σ1 H _ _ v u Q I r1 r2 ⟨a, b, vs, ws, rfl, rfl, hv, hw, by rw [← rvs.length, ← rws.length]; exact hz, ?_⟩
        have x := ext_upd (o := .lst (vs ++ ws)) ea hv
        exact p f _ _ x (S.wr ea hv ⟨_, upd_same, (rvs.append rws).mono S x⟩) (mk_ref ea)
      · exact absurd p id
    · exact absurd p id
  · rename_i i j
    obtain rfl := rv_int rx
    obtain rfl := rv_int ry
    exact iop_sub pins s σ1 H _ _ v u Q I r1 r2 ⟨i, j, rfl, rfl, now S (mk_int _) p⟩
  · exact absurd p id
def ipV (L : Lk) (K : PySem.W.Frag) (op : Operator) : TIp := fun x' y' H Q => ∃ f h x y, Sim L K f h H ∧ RV L K f H x x' ∧ RV L K f H y y' ∧ PostG L K (RV L K) WF f [] H Q (augop op x y h)
theorem augop_nox (op : Operator) (x y : Val) (h : Mem) : NoX (augop op x y h) := by
  unfold augop
  split <;> (try split) <;> (try split) <;> exact True.intro
theorem ipV_ok (op : Operator) : PIp X op (ipV L X.K op) := fun pins s σ H x' y' v u Q I r1 r2 ⟨f, h, x, y, S, rx, ry, p⟩ => augop_ok S rx ry p pins s σ v u I r1 r2
theorem st_aug {i : Nat} {x : Str} {op : Operator} {pos' : Pos} (hN : X.N.Nodup) (hi : X.N[i]? = some x) (hx : Loc X.env.scope x) (ha : PE X a (GoodE L X.K W da)) (hf : X.fn x = true ∨ X.env.scope.names.lookup x = some .local) :
    PS X (.AugAssign (.Name x pos') op a pos) (GoodS L X.K W (sAug i op da)) := by
  refine psImp (ps_aug hN hi hx ha (ipV_ok (L := L) op) hf) fun D σ H ⟨f, ρ, h, S, E, p⟩ => ?_
  unfold sAug at p
  split at p
  · rename_i xv ex
    obtain ⟨x', q, rx⟩ := E.at_ i xv ex
    refine ⟨x', q, f, ρ, h, S, E, (PostS.onE (R := RV L X.K) E S p).imp fun y' H1 ⟨f1, y, h1, e1, X1, S1, E1, R1, p1⟩ => ?_⟩
    refine ⟨f1, h1, xv, y, S1, rx.mono S X1, R1, ((PostS.onE (R := RV L X.K) E1 S1 p1).nox (augop_nox _ _ _ _)).imp fun z' H2 ⟨f2, z, h2, e2, X2, S2, E2, R2, p2⟩ => ?_⟩
    exact p2 f2 H2 _ (Ext.refl _ _) S2 (E2.set R2 i)
  · exact absurd p id
end
end Mp
set_option Elab.async false
set_option linter.all false
set_option maxRecDepth 100000
set_option maxHeartbeats 1000000
namespace Mp
open PySem PySem.Spec PyProof.Rows L2
section
variable {L : Lk} {X : Cx} {W : WX} {a b c : Expr} {da db dc : ME} {pos : Pos} {st : Stmt} {sts : List Stmt} {ms ns : MS}
theorem get_list : PGet X (rIxL X.K) := by
  intro pins s σ H o i ov iv Q I ro ri h
  obtain ⟨p, xs, k, z, rfl, rfl, hq, he, q⟩ := h
  cases ro
  obtain ⟨t, rfl⟩ := ri
  obtain ⟨its, r, pl, hz⟩ := I.list hq
  obtain ⟨j, h1, h2, h3, h4, h5⟩ := atI_get he
  obtain ⟨w, ew, rw'⟩ := r.get h2
  have hl := r.length
  have hn := line63
  have fin : EP X pins σ Q w s := ⟨z, H, I, rw', q⟩
  by_cases h0 : 0 ≤ k
  · have hj : k.toNat = j := by
      rw [seqIndex_of h0 h5] at h1
      exact Option.some.inj h1
    exact wpAny_getItem_list pl.isList h0 (by omega) (by rw [hj]; simpa using ew) fin
  · have hj : (k + (its.toArray.size : Int)).toNat = j := by
      rw [seqIndex_neg (by omega) h4] at h1
      rw [List.size_toArray, ← hl]
      exact Option.some.inj h1
    exact wpAny_getItem_list_neg pl.isList (by omega) (by rw [List.size_toArray] <;> omega) (by omega) (by rw [hj]; simpa using ew) fin
theorem st_augIdx {op : Operator} {tpos : Pos} (ha : PE X a (GoodE L X.K W da)) (hb : PE X b (GoodE L X.K W db)) (hc : PE X c (GoodE L X.K W dc))
    (hs : ∀ ov iv new, augStore b ov iv new = (do holding [new, ov, iv] (setItem ov iv new); release [new, ov, iv] []; pure .next)) :
    PS X (.AugAssign (.Subscript a b tpos) op c pos) (GoodS L X.K W (sAugIdx da db op dc)) := by
  refine psImp (ps_augS ha hb get_list hc (ipV_ok (L := L) op) set_list hs) fun D σ H ⟨f, ρ, h, S, E, p⟩ => ?_
  refine ⟨f, ρ, h, S, E, (PostS.onE (R := RV L X.K) E S p).imp fun o' H1 ⟨f1, o, h1, e1, X1, S1, E1, R1, p1⟩ => ?_⟩
  refine ⟨f1, ρ, h1, S1, E1, (PostS.onE (R := RV L X.K) E1 S1 p1).imp fun i' H2 ⟨f2, i, h2, e2, X2, S2, E2, R2, p2⟩ => ?_⟩
  have R1' := R1.mono S1 X2
  cases ei : idxL h2 o i with
  | none => rw [ei] at p2; exact absurd p2 id
  | some v =>
    rw [ei, Res.opt_some, onE_ok] at p2
    cases o with
    | ref n =>
      cases i with
      | int k =>
        simp only [idxL] at ei
        split at ei
        · rename_i xs q
          obtain ⟨ad, ea, rfl⟩ := rv_ref R1'
          obtain rfl := rv_int R2
          obtain ⟨vs, hv, rvs⟩ := S2.lst ea q
          obtain ⟨v', q1, q2⟩ := atI_rel rvs ei
          refine ⟨ad, vs, k, v', rfl, rfl, SqL.of hv, q1, ?_⟩
          refine ⟨f2, ρ, h2, S2, E2, (PostS.onE (R := RV L X.K) E2 S2 p2).imp fun y' H3 ⟨f3, y, h3, e3, X3, S3, E3, R3, p3⟩ => ?_⟩
          refine ⟨f3, h3, v, y, S3, q2.mono S2 X3, R3, ((PostS.onE (R := RV L X.K) E3 S3 p3).nox (augop_nox _ _ _ _)).imp fun z' H4 ⟨f4, z, h4, e4, X4, S4, E4, R4, p4⟩ => ?_⟩
          refine setIdx_ok (W := W) (σ := σ) (Q := fun _ H5 => D.nx σ H5) S4 ((R1'.mono S2 X3).mono S3 X4) ((R2.mono S2 X3).mono S3 X4) R4 ?_
          exact (PostS.onE (R := RV L X.K) E4 S4 p4).imp fun v' H5 ⟨f5, v5, h5, e5, X5, S5, E5, R5, p5⟩ => p5 f5 H5 σ (Ext.refl _ _) S5 E5
        · cases ei
      | _ => simp [idxL] at ei
    | _ => simp [idxL] at ei
theorem st_setIdx {tpos : Pos} (ha : PE X a (GoodE L X.K W da)) (hb : PE X b (GoodE L X.K W db)) (hc : PE X c (GoodE L X.K W dc)) (hs : swapsWithSole [.Subscript a b tpos] c pos.line X.env = pure false) (hw : swappedStores [.Subscript a b tpos] c X.env = pure none)
    (hg : ∀ v, assign (.Subscript a b tpos) X.env v = (do
      let ov ← holding [v] (eval a X.env)
      let iv ← holding [v, ov] (eval b X.env)
      standAt tpos
      holding [v, ov, iv] (setItem ov iv v)
      release [v, ov, iv] [])) : PS X (.Assign [.Subscript a b tpos] c pos) (GoodS L X.K W (sSetIdx da db dc)) :=
  psImp (ps_asg hc (pg_sub ha hb set_list hg) hs hw rfl) fun D σ H G => g_idx G
/-! ### targets -/
mutual
def tgS : Tg → List Nat
  | .nm i => [i]
  | .tp ts => tgSs ts
def tgSs : List Tg → List Nat
  | [] => []
  | t :: ts => tgS t ++ tgSs ts
end
/-- the slots ss alone may have changed -/
def Outs (ss : List Nat) (σ σ' : L2.St) : Prop := σ'.length = σ.length ∧ ∀ j, j ∉ ss → σ'[j]? = σ[j]?
theorem Outs.refl (σ : L2.St) : Outs [] σ σ := ⟨rfl, fun _ _ => rfl⟩
theorem Outs.trans {ss ts : List Nat} {σ σ1 σ2 : L2.St} (a : Outs ss σ σ1) (b : Outs ts σ1 σ2) : Outs (ss ++ ts) σ σ2 :=
  ⟨b.1.trans a.1, fun j hj => by
    rw [List.mem_append] at hj
    exact (b.2 j fun z => hj (.inr z)).trans (a.2 j fun z => hj (.inl z))⟩
theorem Outs.set (σ : L2.St) (i : Nat) (v : Option V) : Outs [i] σ (σ.set i v) := ⟨by simp, fun j hj => by
  rw [List.getElem?_set_ne]
  intro z
  exact hj (by simp [z])⟩
/-- what a target asks: t is the target's form -/
def GoodG (L : Lk) (K : PySem.W.Frag) (t : Tg) : TG := fun v' σ H Q => ∃ f ρ h v ρ', Sim L K f h H ∧ EnvR L K f H ρ σ ∧ RV L K f H v v' ∧ put1 t v ρ = some ρ' ∧ ∀ σ', EnvR L K f H ρ' σ' → Outs (tgS t) σ σ' → Q σ' H
def GoodGs (L : Lk) (K : PySem.W.Frag) (ts : List Tg) : TGs := fun vs' σ H Q => ∃ f ρ h vs ρ', Sim L K f h H ∧ EnvR L K f H ρ σ ∧ RVs L K f H vs vs' ∧ puts ts vs ρ = some ρ' ∧ ∀ σ', EnvR L K f H ρ' σ' → Outs (tgSs ts) σ σ' → Q σ' H
theorem pgImp {X : Cx} {e : Expr} {t t' : TG} (h : PG X e t) (i : ∀ v σ H Q, t' v σ H Q → t v σ H Q) : PG X e t' := ⟨fun pins s σ H v u Q I r q => h.run pins s σ H v u Q I r (i v σ H Q q)⟩
theorem pgsImp {X : Cx} {e : List Expr} {t t' : TGs} (h : PGs X e t) (i : ∀ v σ H Q, t' v σ H Q → t v σ H Q) : PGs X e t' := ⟨fun pins s σ H v u Q I r q => h.run pins s σ H v u Q I r (i v σ H Q q)⟩
theorem tg_name {i : Nat} {x : Str} (hN : X.N.Nodup) (hi : X.N[i]? = some x) (hx : Loc X.env.scope x) (hf : X.fn x = true ∨ X.env.scope.names.lookup x = some .local) : PG X (.Name x pos) (GoodG L X.K (.nm i)) := by
  refine pgImp (pg_name hN hi hx hf) fun v' σ H Q ⟨f, ρ, h, v, ρ', S, E, r, e, k⟩ => ?_
  unfold put1 at e
  cases e
  exact k _ (E.set r i) (by unfold tgS; exact Outs.set _ _ _)
theorem tg_nil : PGs X [] (GoodGs L X.K []) := by
  refine pgsImp pgs_nil fun vs' σ H Q ⟨f, ρ, h, vs, ρ', S, E, r, e, k⟩ => ?_
  cases vs with
  | nil => unfold RVs at r; unfold puts at e; cases e; exact ⟨r, k _ E (by unfold tgSs; exact Outs.refl _)⟩
  | cons v vs => unfold puts at e; cases e
theorem tg_cons {e : Expr} {es : List Expr} {t : Tg} {ts : List Tg} (h1 : PG X e (GoodG L X.K t)) (h2 : PGs X es (GoodGs L X.K ts)) (hs : (assignEach (e :: es) X.env).map (·.2) = assign e X.env :: (assignEach es X.env).map (·.2)) :
    PGs X (e :: es) (GoodGs L X.K (t :: ts)) := by
  refine pgsImp (pgs_cons h1 h2 hs) fun vs' σ H Q ⟨f, ρ, h, vs, ρ', S, E, r, e, k⟩ => ?_
  cases vs with
  | nil => unfold puts at e; cases e
  | cons v vs =>
    unfold puts at e
    cases q : put1 t v ρ with
    | none => rw [q] at e; cases e
    | some ρ1 =>
      rw [q] at e
      unfold RVs at r
      obtain ⟨v', r', rfl, r1, r2⟩ := r
      exact ⟨v', r', rfl, f, ρ, h, v, ρ1, S, E, r1, q, fun σ1 E1 o1 => ⟨f, ρ1, h, vs, ρ', S, E1, r2, e, fun σ2 E2 o2 => k σ2 E2 (by unfold tgSs; exact o1.trans o2)⟩⟩
theorem puts_len : ∀ {ts : List Tg} {vs : List Val} {ρ ρ' : Env}, puts ts vs ρ = some ρ' → vs.length = ts.length
  | [], [], _, _, _ => rfl
  | [], _ :: _, _, _, e => by unfold puts at e; cases e
  | _ :: _, [], _, _, e => by unfold puts at e; cases e
  | t :: ts, v :: vs, ρ, ρ', e => by
    unfold puts at e
    cases q : put1 t v ρ with
    | none => rw [q] at e; cases e
    | some ρ1 => rw [q] at e; rw [List.length_cons, List.length_cons, puts_len e]
theorem tg_tup {es : List Expr} {k : Nat} {ts : List Tg} (hc : X.calm = true) (h : PGs X es (GoodGs L X.K ts)) (hn : (assignEach es X.env).length = ts.length) (hst : (assignEach es X.env).findIdx? (·.1) = none) :
    PG X (.Tuple es k pos) (GoodG L X.K (.tp ts)) := by
  refine pgImp (pg_tup hc h hn hst) fun v' σ H Q ⟨f, ρ, h, v, ρ', S, E, r, e, kk⟩ => ?_
  cases v with
  | tup vs =>
    unfold put1 at e
    obtain ⟨a, vs', rfl, sa, ra⟩ := rv_tup r
    exact ⟨a, vs', rfl, sa, by rw [← ra.length, puts_len e], f, ρ, h, vs, ρ', S, E, ra, e, fun σ' E' o' => kk σ' E' (by unfold tgS; exact o')⟩
  | _ => unfold put1 at e; cases e
theorem st_asg {tg : Expr} {t : Tg} (ha : PE X a (GoodE L X.K W da)) (hg : PG X tg (GoodG L X.K t)) (hs : swapsWithSole [tg] a pos.line X.env = pure false) (hw : swappedStores [tg] a X.env = pure none) (h1 : (assignEach [tg] X.env).map (·.2) = [assign tg X.env]) :
    PS X (.Assign [tg] a pos) (GoodS L X.K W (sAsg t da)) := by
  refine psImp (ps_asg ha hg hs hw h1) fun D σ H ⟨f, ρ, h, S, E, p⟩ => ?_
  refine ⟨f, ρ, h, S, E, (PostS.onE (R := RV L X.K) E S p).imp fun v' H1 ⟨f1, v, h1, e1, X1, S1, E1, R1, p1⟩ => ?_⟩
  cases q : put1 t v ρ with
  | none => rw [q] at p1; exact absurd p1 id
  | some ρ1 =>
    rw [q] at p1
    exact ⟨f1, ρ, h1, v, ρ1, S1, E1, R1, q, fun σ1 E2 _ => p1 f1 H1 σ1 (Ext.refl _ _) S1 E2⟩
/-! ### what is walked -/
/-- J is walked as w tells, from (f, H) on -/
def WkR (L : Lk) (K : PySem.W.Frag) (f : Nm) (H : Hp) (w : Wk) (J : It) : Prop := ∀ f' h' H' i, Ext f f' H H' → Sim L K f' h' H' → match w.at_ i h' with
  | none => True
  | some none => J.stop i H'
  | some (some v) => J.go i H' ∧ ∀ x H'', J.yld i H' x H'' → Ext f' f' H' H'' ∧ Sim L K f' h' H'' ∧ RV L K f' H'' v x
def GoodI (L : Lk) (K : PySem.W.Frag) (W : WX) (m : MI) : TI := fun σ H R => ∃ f ρ h, Sim L K f h H ∧ EnvR L K f H ρ σ ∧ PostG L K (WkR L K) W f σ H R (m ρ h)
theorem piImp {X : Cx} {tg e : Expr} {t t' : TI} (h : PI X tg e t) (i : ∀ σ H R, t' σ H R → t σ H R) : PI X tg e t' := ⟨fun pins s σ H R I q => h.run pins s σ H R I (i σ H R q)⟩
theorem wkR_tup {K : PySem.W.Frag} {f : Nm} {h : Mem} {H : Hp} (S : Sim L K f h H) {a : Addr} {ts : List Val} {vs : List V} (sa : SqT K H a vs) (ra : RVs L K f H ts vs) : WkR L K f H (wkT ts) (Itt K a) := by
  intro f' h' H' i x S'
  have sa' := S.tupK x sa
  have ra' := ra.mono S x
  show match some ts[i]? with | none => True | some none => (Itt K a).stop i H' | some (some v) => _
  cases e : ts[i]? with
  | none => exact ⟨vs, sa', by rw [← ra'.length]; exact List.getElem?_eq_none_iff.mp e⟩
  | some v =>
    obtain ⟨v', q1, q2⟩ := ra'.get e
    refine ⟨⟨vs, v', sa', q1⟩, fun y H'' ⟨eH, ey⟩ => ?_⟩
    subst eH
    have := ey vs sa'
    rw [q1] at this
    cases this
    exact ⟨Ext.refl _ _, S', q2⟩
/-- what the list at n gives at a turn -/
theorem lst_at {K : PySem.W.Frag} {f' : Nm} {h' : Mem} {H' : Hp} (S' : Sim L K f' h' H') {n : Nat} {a : Addr} (ea : f' n = some a) {i k : Nat} : match (wkL n k).at_ i h' with
    | none => True
    | some none => ∃ vs, SqL K H' a vs ∧ vs.length ≤ i
    | some (some v) => ∃ vs v', SqL K H' a vs ∧ vs[i]? = some v' ∧ RV L K f' H' v v' := by
  unfold wkL
  dsimp only
  have fin : ∀ {xs : List Val}, (h'[n]? = some (.lst xs) ∨ h'[n]? = some (.rol xs)) → match some xs[i]? with
    | none => True
    | some none => ∃ vs, SqL K H' a vs ∧ vs.length ≤ i
    | some (some v) => ∃ vs v', SqL K H' a vs ∧ vs[i]? = some v' ∧ RV L K f' H' v v' := fun {xs} q => by
    obtain ⟨vs, sv, rv⟩ := S'.seq ea q
    cases e : xs[i]? with
    | none => exact ⟨vs, sv, by rw [← rv.length]; exact List.getElem?_eq_none_iff.mp e⟩
    | some v =>
      obtain ⟨v', q1, q2⟩ := rv.get e
      exact ⟨vs, v', sv, q1, q2⟩
  cases e : h'[n]? with
  | none => trivial
  | some o =>
    cases o with
    | lst xs => exact fin (.inl e)
    | ins c fs => trivial
    | rol xs => exact fin (.inr e)
theorem wkR_lst {K : PySem.W.Frag} {f : Nm} {H : Hp} {n k : Nat} {a : Addr} (ea : f n = some a) : WkR L K f H (wkL n k) (Itl K a) := by
  intro f' h' H' i x S'
  have z := lst_at S' (x.le n a ea) (i := i) (k := k)
  cases e : (wkL n k).at_ i h' with
  | none => trivial
  | some o =>
    rw [e] at z
    cases o with
    | none => exact z
    | some v =>
      obtain ⟨vs, v', sv, q1, q2⟩ := z
      refine ⟨⟨vs, v', sv, q1⟩, fun y H'' ⟨eH, ey⟩ => ?_⟩
      subst eH
      have := ey vs sv
      rw [q1] at this
      cases this
      exact ⟨Ext.refl _ _, S', q2⟩
theorem wkR_enum {K : PySem.W.Frag} {f : Nm} {H : Hp} {n k : Nat} {a : Addr} (ea : f n = some a) : WkR L K f H (wkE (wkL n k)) (Ite K a) := by
  intro f' h' H' i x S'
  have z := lst_at S' (x.le n a ea) (i := i) (k := k)
  unfold wkE
  dsimp only
  cases e : (wkL n k).at_ i h' with
  | none => trivial
  | some o =>
    rw [e] at z
    cases o with
    | none => exact z
    | some v =>
      obtain ⟨vs, v', sv, q1, q2⟩ := z
      refine ⟨⟨vs, v', sv, q1⟩, fun y H'' ⟨T, w, ey, hT, eH, ev⟩ => ?_⟩
      subst ey
      subst eH
      have := ev vs sv
      rw [q1] at this
      cases this
      exact ⟨ext_new hT, S'.out hT, mk_tup (SqT.of upd_same) ((RVs.cons (mk_int _) (RVs.cons q2 RVs.nil)).mono S' (ext_new hT))⟩
theorem wkR_zip {K : PySem.W.Frag} {f : Nm} {H : Hp} {n m k l : Nat} {a b : Addr} (ea : f n = some a) (eb : f m = some b) : WkR L K f H (wkZ (wkL n k) (wkL m l)) (Itz K a b) := by
  intro f' h' H' i x S'
  have z := lst_at S' (x.le n a ea) (i := i) (k := k)
  have y := lst_at S' (x.le m b eb) (i := i) (k := l)
  unfold wkZ
  dsimp only
  cases e : (wkL n k).at_ i h' with
  | none => trivial
  | some o =>
    rw [e] at z
    cases e2 : (wkL m l).at_ i h' with
    | none => cases o <;> trivial
    | some o2 =>
      rw [e2] at y
      cases o with
      | none =>
        obtain ⟨vs, sv, lv⟩ := z
        cases o2 with
        | none =>
          obtain ⟨ws, sw, lw⟩ := y
          exact ⟨vs, ws, sv, sw, .inl lv⟩
        | some w =>
          obtain ⟨ws, w', sw, _⟩ := y
          exact ⟨vs, ws, sv, sw, .inl lv⟩
      | some v =>
        obtain ⟨vs, v', sv, q1, q2⟩ := z
        cases o2 with
        | none =>
          obtain ⟨ws, sw, lw⟩ := y
          exact ⟨vs, ws, sv, sw, .inr lw⟩
        | some w =>
          obtain ⟨ws, w', sw, q3, q4⟩ := y
          refine ⟨⟨vs, ws, v', w', sv, sw, q1, q3⟩, fun u H'' ⟨T, p1, p2, eu, hT, eH, ev1, ev2⟩ => ?_⟩
          subst eu
          subst eH
          have t1 := ev1 vs sv
          have t2 := ev2 ws sw
          rw [q1] at t1
          rw [q3] at t2
          cases t1
          cases t2
          exact ⟨ext_new hT, S'.out hT, mk_tup (SqT.of upd_same) ((RVs.cons q2 (RVs.cons q4 RVs.nil)).mono S' (ext_new hT))⟩
theorem wkR_rng {K : PySem.W.Frag} {f : Nm} {H : Hp} {lo : Int} {n : Nat} : WkR L K f H (wkR lo n) (Itr lo n) := by
  intro f' h' H' i x S'
  unfold wkR
  dsimp only
  by_cases hi : i < n
  · rw [if_pos hi]
    refine ⟨hi, fun y H'' ⟨eH, ey⟩ => ?_⟩
    subst eH
    subst ey
    exact ⟨Ext.refl _ _, S', mk_int _⟩
  · rw [if_neg hi]
    exact Nat.le_of_not_lt hi
theorem wkR_str {K : PySem.W.Frag} {f : Nm} {H : Hp} {z : Str} : WkR L K f H (wkS z) (Its z) := by
  intro f' h' H' i x S'
  unfold wkS
  dsimp only
  cases e : z.cps[i]? with
  | none => exact Array.getElem?_eq_none_iff.mp e
  | some c =>
    refine ⟨(Array.getElem?_eq_some_iff.mp e).1, fun y H'' ⟨eH, c', ec, ey⟩ => ?_⟩
    subst eH
    subst ey
    rw [e] at ec
    cases ec
    exact ⟨Ext.refl _ _, S', mk_str _⟩
theorem i_val {tg : Expr} (ha : PE X a (GoodE L X.K W da)) : PI X tg a (GoodI L X.K W (iVal da)) := by
  refine ⟨fun pins s σ H R I ⟨f, ρ, h, S, E, p⟩ => ?_⟩
  unfold iVal at p
  have q := PostG.bind (R := RV L X.K) p
  cases e : da ρ h with
  | bad => rw [e] at q; exact absurd q id
  | exc c fs h1 =>
    refine (pi_list ha).run pins s σ H R I ⟨f, ρ, h, S, E, ?_⟩
    rw [e] at q ⊢
    exact q
  | ok v h1 =>
    rw [e] at q
    have bad : wkV h1 v = none → False := fun z => by
      rw [e, Res.bind_ok, z] at p
      exact p
    cases v with
    | tup ts =>
      refine (pi_tup ha).run pins s σ H R I ⟨f, ρ, h, S, E, ?_⟩
      rw [e]
      intro f1 H1 v' X1 S1 R1
      rw [e] at p
      obtain ⟨b, vs, rfl, sb, rb⟩ := rv_tup R1
      exact ⟨b, rfl, ⟨vs, sb⟩, p f1 H1 _ X1 S1 (wkR_tup S1 sb rb)⟩
    | str z =>
      refine (pi_str ha).run pins s σ H R I ⟨f, ρ, h, S, E, ?_⟩
      rw [e]
      intro f1 H1 v' X1 S1 R1
      rw [e] at p
      exact ⟨z, rv_str R1, p f1 H1 _ X1 S1 wkR_str⟩
    | ref n =>
      refine (pi_list ha).run pins s σ H R I ⟨f, ρ, h, S, E, ?_⟩
      rw [e]
      intro f1 H1 v' X1 S1 R1
      rw [e, Res.bind_ok] at p
      obtain ⟨b, eb, rfl⟩ := rv_ref R1
      simp only [wkV] at p
      cases eo : h1[n]? with
      | none => rw [eo] at p; exact absurd p id
      | some o =>
        rw [eo] at p
        cases o with
        | lst xs =>
          obtain ⟨vs, sv, rv⟩ := S1.seq eb (.inl eo)
          exact ⟨b, rfl, ⟨vs, sv⟩, p f1 H1 _ X1 S1 (wkR_lst eb)⟩
        | rol xs =>
          obtain ⟨vs, sv, rv⟩ := S1.seq eb (.inr eo)
          exact ⟨b, rfl, ⟨vs, sv⟩, p f1 H1 _ X1 S1 (wkR_lst eb)⟩
        | ins c fs => exact absurd p id
    | non => exact absurd (bad rfl) id
    | bl _ => exact absurd (bad rfl) id
    | int _ => exact absurd (bad rfl) id
    | fn _ => exact absurd (bad rfl) id
end
end Mp
set_option Elab.async false
set_option linter.all false
set_option maxRecDepth 100000
set_option maxHeartbeats 1000000
namespace Mp
open PySem PySem.Spec PyProof.Rows L2
section
variable {L : Lk} {X : Cx} {W : WX} {a b c : Expr} {da db dc : ME} {pos : Pos} {st : Stmt} {sts : List Stmt} {ms ns : MS}
theorem i_rng1 {tg : Expr} {p pos : Pos} (hg : Gl X "range") (hm : X.mg "range" = none) (ha : PE X a (GoodE L X.K W da)) (hs : starEach [a] X.env = [(false, eval a X.env)]) : PI X tg (.Call (.Name "range" p) [a] [] pos) (GoodI L X.K W (Mp.iRng1 da)) := by
  refine piImp (pi_range1 hg hm (pa_cons ha pa_nil hs) hs) fun σ H R ⟨f, ρ, h, S, E, p⟩ => ?_
  refine ⟨f, ρ, h, S, E, (PostG.bind (R := RV L X.K) p).imp fun x' H1 ⟨f1, x, h1, e1, X1, S1, R1, p1⟩ => ?_⟩
  cases x with
  | int j =>
    obtain rfl := rv_int R1
    dsimp only at p1
    split at p1
    · rename_i hz
      unfold small62 at hz
      rw [Bool.and_eq_true] at hz
      exact ⟨j, rfl, of_decide_eq_true hz.1, of_decide_eq_true hz.2, p1 f1 H1 _ (Ext.refl _ _) S1 wkR_rng⟩
    · exact absurd p1 id
  | _ => exact absurd p1 id
theorem i_rng2 {tg : Expr} {p pos : Pos} (hg : Gl X "range") (hm : X.mg "range" = none) (ha : PE X a (GoodE L X.K W da)) (hb : PE X b (GoodE L X.K W db)) (hs : starEach [a, b] X.env = [(false, eval a X.env), (false, eval b X.env)]) (hs2 : starEach [b] X.env = [(false, eval b X.env)]) :
    PI X tg (.Call (.Name "range" p) [a, b] [] pos) (GoodI L X.K W (Mp.iRng2 da db)) := by
  refine piImp (pi_range2 hg hm (pa_cons ha (pa_cons hb pa_nil hs2) (by rw [hs, hs2])) hs hs2) fun σ H R ⟨f, ρ, h, S, E, p⟩ => ?_
  refine ⟨f, ρ, h, S, E, (PostG.bind (R := RV L X.K) p).imp fun x' H1 ⟨f1, x, h1, e1, X1, S1, R1, p1⟩ => ?_⟩
  refine ⟨f1, ρ, h1, S1, E.mono S X1, (PostG.bind (R := RV L X.K) p1).imp fun y' H2 ⟨f2, y, h2, e2, X2, S2, R2, p2⟩ => ?_⟩
  have R1' := R1.mono S1 X2
  cases x with
  | int i =>
    cases y with
    | int j =>
      obtain rfl := rv_int R1'
      obtain rfl := rv_int R2
      dsimp only at p2
      split at p2
      · rename_i hz
        unfold small62 at hz
        simp only [Bool.and_eq_true, decide_eq_true_eq] at hz
        exact ⟨i, j, rfl, ⟨hz.1.1, hz.1.2, hz.2.1, hz.2.2⟩, p2 f2 H2 _ (Ext.refl _ _) S2 wkR_rng⟩
      · exact absurd p2 id
    | _ => exact absurd p2 id
  | _ => exact absurd p2 id
theorem lstB_ref {h : Mem} {v : Val} {w : Wk} (e : lstB h v = some w) : ∃ n xs, v = .ref n ∧ (h[n]? = some (.lst xs) ∨ h[n]? = some (.rol xs)) ∧ w = wkL n xs.length := by
  cases v with
  | ref n =>
    simp only [lstB] at e
    cases q : h[n]? with
    | none => rw [q] at e; cases e
    | some o =>
      rw [q] at e
      cases o with
      | lst xs => cases e; exact ⟨n, xs, rfl, .inl q, rfl⟩
      | rol xs => cases e; exact ⟨n, xs, rfl, .inr q, rfl⟩
      | ins c fs => cases e
  | _ => simp [lstB] at e
theorem i_enum {elts : List Expr} {kk : Nat} {tpos p pos : Pos} (hg : Gl X "enumerate") (hm : X.mg "enumerate" = none) (ha : PE X a (GoodE L X.K W da)) (hs : starEach [a] X.env = [(false, eval a X.env)]) :
    PI X (.Tuple elts kk tpos) (.Call (.Name "enumerate" p) [a] [] pos) (GoodI L X.K W (Mp.iEnum da)) := by
  refine piImp (pi_enum hg hm (pa_cons ha pa_nil hs) hs) fun σ H R ⟨f, ρ, h, S, E, p⟩ => ?_
  refine ⟨f, ρ, h, S, E, (PostG.bind (R := RV L X.K) p).imp fun x' H1 ⟨f1, x, h1, e1, X1, S1, R1, p1⟩ => ?_⟩
  cases ew : lstB h1 x with
  | none => rw [ew] at p1; exact absurd p1 id
  | some w =>
    rw [ew] at p1
    obtain ⟨n, xs, rfl, q, rfl⟩ := lstB_ref ew
    obtain ⟨b, eb, rfl⟩ := rv_ref R1
    obtain ⟨vs, sv, rv⟩ := S1.seq eb q
    exact ⟨b, vs, rfl, sv, p1 f1 H1 _ (Ext.refl _ _) S1 (wkR_enum eb)⟩
theorem i_zip {elts : List Expr} {kk : Nat} {tpos p pos : Pos} (hg : Gl X "zip") (hm : X.mg "zip" = none) (ha : PE X a (GoodE L X.K W da)) (hb : PE X b (GoodE L X.K W db)) (hs : starEach [a, b] X.env = (false, eval a X.env) :: starEach [b] X.env) (hs2 : starEach [b] X.env = [(false, eval b X.env)])
    (hpl : (backTo pos (starEach [b] X.env)).any (·.1) = false) : PI X (.Tuple elts kk tpos) (.Call (.Name "zip" p) [a, b] [] pos) (GoodI L X.K W (Mp.iZip da db)) := by
  refine piImp (pi_zip hg hm (pa_cons ha (pa_cons hb pa_nil hs2) hs) hs hpl) fun σ H R ⟨f, ρ, h, S, E, p⟩ => ?_
  refine ⟨f, ρ, h, S, E, (PostG.bind (R := RV L X.K) p).imp fun x' H1 ⟨f1, x, h1, e1, X1, S1, R1, p1⟩ => ?_⟩
  refine ⟨f1, ρ, h1, S1, E.mono S X1, (PostG.bind (R := RV L X.K) p1).imp fun y' H2 ⟨f2, y, h2, e2, X2, S2, R2, p2⟩ => ?_⟩
  have R1' := R1.mono S1 X2
  cases ew : lstB h2 x with
  | none => rw [ew] at p2; exact absurd p2 id
  | some w =>
    cases ez : lstB h2 y with
    | none => rw [ew, ez] at p2; exact absurd p2 id
    | some z =>
      rw [ew, ez] at p2
      obtain ⟨n, xs, rfl, q, rfl⟩ := lstB_ref ew
      obtain ⟨m, ys, rfl, q', rfl⟩ := lstB_ref ez
      obtain ⟨u, eu, rfl⟩ := rv_ref R1'
      obtain ⟨t, et, rfl⟩ := rv_ref R2
      obtain ⟨vs, sv, rv⟩ := S2.seq eu q
      obtain ⟨ws, sw, rw'⟩ := S2.seq et q'
      exact ⟨u, t, vs, ws, rfl, sv, sw, p2 f2 H2 _ (Ext.refl _ _) S2 (wkR_zip eu et)⟩
/-! ### for -/
theorem forF_eq (w : Wk) (t : Tg) (body els : MS) (fuel i : Nat) (ρ : Env) (h : Mem) : forF w t body els fuel i ρ h = (match w.at_ i h with
    | none => .bad
    | some none => els ρ h
    | some (some v) => match fuel with
      | 0 => .bad
      | fuel + 1 => match put1 t v ρ with
        | none => .bad
        | some ρ1 => match body ρ1 h with
          | .ok (.nx ρ2) h2 => forF w t body els fuel (i + 1) ρ2 h2
          | .ok (.ct ρ2) h2 => forF w t body els fuel (i + 1) ρ2 h2
          | .ok (.bk ρ2) h2 => .ok (.nx ρ2) h2
          | r => r) := by
  rw [forF.eq_def]
  all_goals rfl
theorem st_for {tg iter : Expr} {t : Tg} {mi : MI} {mb me : MS} {body els : List Stmt} (hp : PassesOwn (model X.prog X.w) X.A X.env X.xe) (hc : X.calm = true) (hi : PI X tg iter (GoodI L X.K W mi)) (hg : PG X tg (GoodG L X.K t)) (hb : PSs X body (GoodS L X.K W mb))
    (ho : PSs X els (GoodS L X.K W me)) (hs : ∀ x, foldedSetIterable iter X.env x = pure x) : PS X (.For tg iter body els pos) (GoodS L X.K W (sFor t mi mb me)) := by
  refine psImp (ps_forE hp hc hi hg hb ho hs) fun D σ H ⟨f, ρ, h, S, E, p⟩ => ?_
  refine ⟨f, ρ, h, S, E, (PostS.onE (R := WkR L X.K) E S p).imp fun J H1 ⟨f1, w, h1, e1, X1, S1, E1, R1, p1⟩ => ?_⟩
  refine ⟨fun i m σ' H' => ∃ f' ρ' h', Ext f1 f' H1 H' ∧ Sim L X.K f' h' H' ∧ EnvR L X.K f' H' ρ' σ' ∧ PostS L X.K W D f' H' (forF w t mb me m i ρ' h'), ⟨w.fuel, f1, ρ, h1, Ext.refl _ _, S1, E1, p1⟩, ?_⟩
  rintro i m σ' H' ⟨f', ρ', h', X', S', E', p'⟩
  have z := R1 f' h' H' i X' S'
  rw [forF_eq] at p'
  cases ea : w.at_ i h' with
  | none => rw [ea] at p'; exact absurd p' id
  | some o =>
    rw [ea] at p' z
    cases o with
    | none => exact .inl ⟨z, f', ρ', h', S', E', p'⟩
    | some v =>
      obtain ⟨zg, zy⟩ := z
      cases m with
      | zero => exact absurd p' id
      | succ m =>
        dsimp only at p'
        cases eρ : put1 t v ρ' with
        | none => rw [eρ] at p'; exact absurd p' id
        | some ρ1 =>
          rw [eρ] at p'
          dsimp only at p'
          refine .inr ⟨zg, fun σ2 H2 => ∃ f2 ρ2 h2, Ext f1 f2 H1 H2 ∧ Sim L X.K f2 h2 H2 ∧ EnvR L X.K f2 H2 ρ2 σ2 ∧ PostS L X.K W D f2 H2 (forF w t mb me m (i + 1) ρ2 h2), fun σ2 H2 q => ⟨m, Nat.lt_succ_self _, q⟩, fun x H'' y => ?_⟩
          obtain ⟨X2, S2, R2⟩ := zy x H'' y
          refine ⟨f', ρ', h', v, ρ1, S2, E'.mono S' X2, R2, eρ, fun σ1 E1' _ => ⟨f', ρ1, h', S2, E1', ?_⟩⟩
          have p2 := PostS.ext p' X2
          cases eb : mb ρ1 h' with
          | ok v h2 =>
            rw [eb] at p2
            cases v with
            | nx ρ2 => exact fun f3 H3 σ3 X3 S3 E3 => ⟨f3, ρ2, h2, X'.trans (X2.trans X3), S3, E3, PostS.ext p2 X3⟩
            | ct ρ2 => exact fun f3 H3 σ3 X3 S3 E3 => ⟨f3, ρ2, h2, X'.trans (X2.trans X3), S3, E3, PostS.ext p2 X3⟩
            | bk ρ2 => exact p2
            | rt v => exact p2
            | xc ρ2 c fs => exact p2
          | exc c fs h2 => rw [eb] at p2; exact p2
          | bad => rw [eb] at p2; exact p2
theorem whileF_eq (t : MT) (body els : MS) (fuel : Nat) (ρ : Env) (h : Mem) : whileF t body els fuel ρ h = onE (t ρ h) ρ fun k h => if k = true then (match fuel with
    | 0 => .bad
    | fuel + 1 => match body ρ h with
      | .ok (.nx ρ2) h2 => whileF t body els fuel ρ2 h2
      | .ok (.ct ρ2) h2 => whileF t body els fuel ρ2 h2
      | .ok (.bk ρ2) h2 => .ok (.nx ρ2) h2
      | r => r) else els ρ h := by
  rw [whileF.eq_def]
  all_goals rfl
theorem st_while {t : Expr} {mt : MT} {mb me : MS} {body els : List Stmt} {fuel : Nat} (hp : PassesOwn (model X.prog X.w) X.A X.env X.xe) (hc : PT X t (GoodT L X.K W mt)) (hb : PSs X body (GoodS L X.K W mb)) (ho : PSs X els (GoodS L X.K W me)) :
    PS X (.While t body els pos) (GoodS L X.K W (sWhile fuel mt mb me)) := by
  refine psImp (ps_whileE hp hc hb ho) fun D σ H ⟨f, ρ, h, S, E, p⟩ => ?_
  refine ⟨fun m σ' H' => ∃ f' ρ' h', Ext f f' H H' ∧ Sim L X.K f' h' H' ∧ EnvR L X.K f' H' ρ' σ' ∧ PostS L X.K W D f' H' (whileF mt mb me m ρ' h'), ⟨fuel, f, ρ, h, Ext.refl _ _, S, E, p⟩, ?_⟩
  rintro m σ' H' ⟨f', ρ', h', X', S', E', p'⟩
  rw [whileF_eq] at p'
  refine ⟨f', ρ', h', S', E', (PostS.onE (R := RB) E' S' p').imp fun k' H1 ⟨f1, k, h1, e1, X1, S1, E1, R1, p1⟩ => ?_⟩
  obtain rfl : k = k' := R1
  cases k with
  | false => rw [if_neg Bool.false_ne_true]; rw [if_neg Bool.false_ne_true] at p1; exact ⟨f1, ρ', h1, S1, E1, p1⟩
  | true =>
    rw [if_pos rfl]; rw [if_pos rfl] at p1
    cases m with
    | zero => exact absurd p1 id
    | succ m =>
      dsimp only at p1
      refine ⟨fun σ2 H2 => ∃ f2 ρ2 h2, Ext f f2 H H2 ∧ Sim L X.K f2 h2 H2 ∧ EnvR L X.K f2 H2 ρ2 σ2 ∧ PostS L X.K W D f2 H2 (whileF mt mb me m ρ2 h2), fun σ2 H2 q => ⟨m, Nat.lt_succ_self _, q⟩, f1, ρ', h1, S1, E1, ?_⟩
      cases eb : mb ρ' h1 with
      | ok v h2 =>
        rw [eb] at p1
        cases v with
        | nx ρ2 => exact fun f3 H3 σ3 X3 S3 E3 => ⟨f3, ρ2, h2, X'.trans (X1.trans X3), S3, E3, PostS.ext p1 X3⟩
        | ct ρ2 => exact fun f3 H3 σ3 X3 S3 E3 => ⟨f3, ρ2, h2, X'.trans (X1.trans X3), S3, E3, PostS.ext p1 X3⟩
        | bk ρ2 => exact p1
        | rt v => exact p1
        | xc ρ2 c fs => exact p1
      | exc c fs h2 => rw [eb] at p1; exact p1
      | bad => rw [eb] at p1; exact p1
/-! ### comprehensions -/
theorem wipe_get : ∀ (vs : List Nat) (σ : L2.St) (j : Nat), (wipe σ vs)[j]? = if j ∈ vs then (if j < σ.length then some none else none) else σ[j]?
  | [], σ, j => by simp [wipe]
  | v :: vs, σ, j => by
    unfold wipe
    by_cases hv : v = j
    · subst hv
      rw [List.getElem?_set_self', wipe_get vs σ v]
      by_cases hl : v < σ.length
      · simp [hl]
        by_cases hm : v ∈ vs
        · simp [hm, hl]
        · simp [hm, hl]
      · simp [hl]
    · rw [List.getElem?_set_ne hv, wipe_get vs σ j]
      have : (j ∈ v :: vs) ↔ j ∈ vs := by
        constructor
        · intro z
          rcases List.mem_cons.mp z with z | z
          · exact absurd z.symm hv
          · exact z
        · exact List.mem_cons_of_mem _
      simp only [this]
theorem wipe_outs {vs ss : List Nat} {σ σ2 : L2.St} (hs : ∀ j ∈ ss, j ∈ vs) (o : Outs ss (wipe σ vs) σ2) : wipe σ2 vs = wipe σ vs := by
  refine List.ext_getElem? fun j => ?_
  rw [wipe_get, wipe_get]
  have hl : σ2.length = σ.length := o.1.trans (wipe_length σ vs)
  by_cases hj : j ∈ vs
  · rw [if_pos hj, if_pos hj, hl]
  · rw [if_neg hj, if_neg hj, o.2 j fun z => hj (hs j z), wipe_get, if_neg hj]
theorem EnvR.wipe {K : PySem.W.Frag} {f : Nm} {H : Hp} {ρ : Env} {σ : L2.St} (E : EnvR L K f H ρ σ) : ∀ vs : List Nat, EnvR L K f H (wipeE ρ vs) (L2.wipe σ vs)
  | [] => E
  | v :: vs => by
    have I := EnvR.wipe E vs
    unfold wipeE L2.wipe
    refine ⟨by rw [List.length_set, List.length_set, I.len], fun i w e => ?_⟩
    by_cases hi : v = i
    · subst hi
      rw [List.getElem?_set_self'] at e
      cases q : (wipeE ρ vs)[v]? with
      | none => rw [q] at e; simp at e
      | some _ => rw [q] at e; simp at e
    · rw [List.getElem?_set_ne hi] at e
      obtain ⟨w', q, r⟩ := I.at_ i w e
      exact ⟨w', by rw [List.getElem?_set_ne hi]; exact q, r⟩
theorem lcF_eq (w : Wk) (t : Tg) (c : MT) (elt : ME) (ρ : Env) (fuel i : Nat) (acc : List Val) (h : Mem) : lcF w t c elt ρ fuel i acc h = (match w.at_ i h with
    | none => .bad
    | some none => .ok acc h
    | some (some v) => match fuel with
      | 0 => .bad
      | fuel + 1 => match put1 t v ρ with
        | none => .bad
        | some ρ1 => match c ρ1 h with
          | .ok true h2 => (match elt ρ1 h2 with
            | .ok y h3 => if acc.length < sizeLine then lcF w t c elt ρ fuel (i + 1) (acc ++ [y]) h3 else .bad
            | _ => .bad)
          | .ok false h2 => lcF w t c elt ρ fuel (i + 1) acc h2
          | _ => .bad) := by
  rw [lcF.eq_def]
  all_goals rfl
theorem good_lc {t : Tg} {mi : MI} {mc : MT} {me : ME} {vs : List Nat} (hvs : ∀ j ∈ tgS t, j ∈ vs) {σ : L2.St} {H : Hp} {Q : VK} (G : GoodE L X.K W (eLc vs t mi mc me) σ H Q) :
    tLc (GoodI L X.K W mi) (GoodG L X.K t) (GoodT L X.K WF mc) (GoodE L X.K WF me) vs σ H Q := by
  obtain ⟨f, ρ, h, S, E, p⟩ := G
  refine ⟨f, ρ, h, S, E, (PostG.bind (R := WkR L X.K) p).imp fun J H1 ⟨f1, w, h1, e1, X1, S1, R1, p1⟩ => ?_⟩
  intro D hD
  have E1 := E.mono S X1
  refine ⟨fun i m H' => ∃ f' h' acc ys, Ext f1 f' H1 H' ∧ Sim L X.K f' h' H' ∧ H' D = some (.lst ys) ∧ (∀ n, f' n ≠ some D) ∧ RVs L X.K f' H' acc ys ∧ PostG L X.K (RV L X.K) W f1 σ H1 Q ((lcF w t mc me (wipeE ρ vs) m i acc h').bind newL),
    ⟨w.fuel, f1, h1, [], [], ext_new hD, S1.out hD, upd_same, fun n z => ?_, RVs.nil, p1⟩, ?_⟩
  · obtain ⟨o, _, r⟩ := S1.at_ n D z
    obtain ⟨q, e⟩ := r.some
    rw [hD] at e; cases e
  rintro i m H' ⟨f', h', acc, ys, X', S', hD', nD, ra, p'⟩
  have z := R1 f' h' H' i X' S'
  rw [lcF_eq] at p'
  cases ea : w.at_ i h' with
  | none => rw [ea] at p'; exact absurd p' id
  | some o =>
    rw [ea] at p' z
    cases o with
    | none =>
      refine .inl ⟨z, ?_⟩
      dsimp only at p'
      rw [Res.bind_ok] at p'
      unfold newL at p'
      split at p'
      · -- the new list enters the memory
        have le : ∀ n a, f' n = some a → put f' h'.length D n = some a := fun n a e => by
          unfold put
          rw [if_neg (fun y => by rw [y, S'.fresh] at e; cases e)]
          exact e
        have Sn : Sim L X.K (put f' h'.length D) (h' ++ [.lst acc]) H' := by
          refine ⟨fun n m a q1 q2 => ?_, fun n hn => ?_, fun n a q => ?_⟩
          · unfold put at q1 q2
            split at q1 <;> split at q2
            · rename_i u1 u2; rw [u1, u2]
            · cases q1; exact absurd q2 (nD m)
            · cases q2; exact absurd q1 (nD n)
            · exact S'.inj n m a q1 q2
          · unfold put
            by_cases y : n = h'.length
            · exact ⟨D, by rw [if_pos y]⟩
            · rw [if_neg y]
              exact S'.has n (by rw [List.length_append, List.length_singleton] at hn; omega)
          · by_cases y : n = h'.length
            · subst y
              rw [put_same] at q
              cases q
              exact ⟨.lst acc, by simp, ys, hD', RVs.mono2 le (fun _ _ e => e) _ _ ra⟩
            · have q' : f' n = some a := by unfold put at q; rwa [if_neg y] at q
              obtain ⟨o', e', r'⟩ := S'.at_ n a q'
              refine ⟨o', by rw [List.getElem?_append_left (S'.lt q')]; exact e', ?_⟩
              cases o' with
              | lst xs =>
                obtain ⟨us, q, z⟩ := r'
                exact ⟨us, q, RVs.mono2 le (fun _ _ e => e) _ _ z⟩
              | ins c fs =>
                obtain ⟨dx, gs, q, z1, z2⟩ := r'
                exact ⟨dx, gs, q, z1, RVs.mono2 le (fun _ _ e => e) _ _ z2⟩
              | rol xs =>
                obtain ⟨o, us, q, z⟩ := r'
                exact ⟨o, us, q, RVs.mono2 le (fun _ _ e => e) _ _ z⟩
        refine p' (put f' h'.length D) H' (.ref D) ⟨fun n a e => le n a (X'.le n a e), fun n a e => ?_, X'.keep, X'.trk⟩ Sn (mk_ref put_same)
        unfold put at e
        split at e
        · cases e; exact .inr hD
        · exact X'.new n a e
      · exact absurd p' id
    | some v =>
      obtain ⟨zg, zy⟩ := z
      cases m with
      | zero => exact absurd p' id
      | succ m =>
        dsimp only at p'
        cases eρ : put1 t v (wipeE ρ vs) with
        | none => rw [eρ] at p'; exact absurd p' id
        | some ρ1 =>
          rw [eρ] at p'
          dsimp only at p'
          refine .inr ⟨zg, fun H2 => ∃ f' h' acc ys, Ext f1 f' H1 H2 ∧ Sim L X.K f' h' H2 ∧ H2 D = some (.lst ys) ∧ (∀ n, f' n ≠ some D) ∧ RVs L X.K f' H2 acc ys ∧ PostG L X.K (RV L X.K) W f1 σ H1 Q ((lcF w t mc me (wipeE ρ vs) m (i + 1) acc h').bind newL),
            fun H2 q => ⟨m, Nat.lt_succ_self _, q⟩, fun x H'' y => ?_⟩
          obtain ⟨X2, S2, R2⟩ := zy x H'' y
          have E2 : EnvR L X.K f' H'' (wipeE ρ vs) (wipe σ vs) := ((E1.mono S1 X').mono S' X2).wipe vs
          refine ⟨f', wipeE ρ vs, h', v, ρ1, S2, E2, R2, eρ, fun σ2 E3 o2 => ⟨wipe_outs hvs o2, ?_⟩⟩
          have keepD : ∀ {fa fb : Nm} {Ha Hb : Hp} {zs : List V}, Ext fa fb Ha Hb → Ha D = some (.lst zs) → (∀ n, fa n ≠ some D) → Hb D = some (.lst zs) ∧ ∀ n, fb n ≠ some D := fun {fa fb Ha Hb zs} x q nq =>
            ⟨x.keep _ _ q nq, fun n e => by
              rcases x.new n D e with u | u
              · exact nq n u
              · rw [q] at u; cases u⟩
          obtain ⟨hD2, nD2⟩ := keepD X2 hD' nD
          have ra2 := ra.mono S' X2
          cases ec : mc ρ1 h' with
          | bad => rw [ec] at p'; exact absurd p' id
          | exc c fs h2 => rw [ec] at p'; exact absurd p' id
          | ok k h2 =>
            refine ⟨f', ρ1, h', S2, E3, ?_⟩
            rw [ec] at p' ⊢
            intro f3 H3 k' X3 S3 rk
            obtain rfl : k = k' := rk
            obtain ⟨hD3, nD3⟩ := keepD X3 hD2 nD2
            have ra3 := ra2.mono S2 X3
            cases k with
            | false =>
              rw [if_neg Bool.false_ne_true]
              exact ⟨f3, h2, acc, ys, X'.trans (X2.trans X3), S3, hD3, nD3, ra3, p'⟩
            | true =>
              rw [if_pos rfl]
              dsimp only at p'
              refine ⟨f3, ρ1, h2, S3, E3.mono S2 X3, ?_⟩
              cases ee : me ρ1 h2 with
              | bad => rw [ee] at p'; exact absurd p' id
              | exc c fs h4 => rw [ee] at p'; exact absurd p' id
              | ok y h4 =>
                rw [ee] at p'
                dsimp only at p'
                intro f4 H4 y' X4 S4 ry
                obtain ⟨hD4, nD4⟩ := keepD X4 hD3 nD3
                have ra4 := ra3.mono S3 X4
                split at p'
                · rename_i hz
                  refine ⟨ys, hD4, by rw [← ra4.length]; exact hz, f4, h4, acc ++ [y], ys ++ [y'], ?_, S4.outUpd hD4 nD4, upd_same, nD4, ?_, p'⟩
                  · have X5 := X'.trans (X2.trans (X3.trans X4))
                    refine ⟨X5.le, X5.new, fun a o q nq => ?_, fun a o q => ?_⟩
                    · have na : a ≠ D := fun e => by rw [e, hD] at q; cases q
                      rw [upd_ne na]
                      exact X5.keep a o q nq
                    · by_cases na : a = D
                      · exact ⟨_, by rw [na, upd_same]⟩
                      · rw [upd_ne na]
                        exact X5.trk a o q
                  · exact RVs.mono2 (fun _ _ e => e) (tupOut hD4) _ _ (ra4.append (RVs.cons ry RVs.nil))
                · exact absurd p' id
end
end Mp
set_option Elab.async false
set_option linter.all false
set_option maxRecDepth 100000
set_option maxHeartbeats 1000000
namespace Mp
open PySem PySem.Spec PyProof.Rows L2
/-! ### built-in functions -/
inductive Bi where
  | len | int | abs | min | max | list | tuple | all | any | sum | divmod | str | sorted
def Bi.val : Bi → Value
  | .len => .builtin "len"
  | .int => .type "int"
  | .abs => .builtin "abs"
  | .min => .builtin "min"
  | .max => .builtin "max"
  | .list => .type "list"
  | .tuple => .type "tuple"
  | .all => .builtin "all"
  | .any => .builtin "any"
  | .sum => .builtin "sum"
  | .divmod => .builtin "divmod"
  | .str => .type "str"
  | .sorted => .builtin "sorted"
def biTab : List (Str × Bi) := [("len", .len), ("int", .int), ("abs", .abs), ("min", .min), ("max", .max), ("list", .list), ("tuple", .tuple), ("all", .all), ("any", .any), ("sum", .sum), ("divmod", .divmod), ("str", .str), ("sorted", .sorted)]
def biOf (x : Str) : Option Bi := biTab.lookup x
theorem biTab_ok : (biTab.all fun p => decide (bootBuiltins p.1 = some p.2.val) && decide (p.1 ≠ "__name__") && decide ((p.1 == ("__debug__" : Str)) = false)) = true := by decide +kernel
theorem biOf_boot {x : Str} {b : Bi} (e : biOf x = some b) : bootBuiltins x = some b.val ∧ x ≠ "__name__" ∧ (x == ("__debug__" : Str)) = false := by
  have h := List.all_eq_true.mp biTab_ok _ (PySem.mem_of_lookup e)
  simp only [Bool.and_eq_true, decide_eq_true_eq] at h
  exact ⟨h.1.1, h.1.2, h.2⟩
def intsOf : List Val → Option (List Int)
  | [] => some []
  | .int i :: r => (intsOf r).map (i :: ·)
  | _ :: _ => none
def blsOf : List Val → Option (List Bool)
  | [] => some []
  | .bl i :: r => (blsOf r).map (i :: ·)
  | _ :: _ => none
def maxI : List Int → Int
  | [] => 0
  | [i] => i
  | i :: r => let m := maxI r; if m ≤ i then i else m
def minI : List Int → Int
  | [] => 0
  | [i] => i
  | i :: r => let m := minI r; if i ≤ m then i else m
def biRun (b : Bi) (args : List Val) (h : Mem) : Res Val := match b, args with
  | .len, [v] => match v with
    | .str z => if z.length ≤ sizeLine then .ok (.int z.length) h else .bad
    | v => (Res.opt (seqOf h v) h).bind fun xs h => .ok (.int xs.length) h
  | .int, [.int i] => .ok (.int i) h
  | .int, [.bl k] => .ok (.int (if k then 1 else 0)) h
  | .abs, [.int i] => .ok (.int (if i < 0 then -i else i)) h
  | .max, [.int i, .int j] => .ok (.int (if j > i then j else i)) h
  | .min, [.int i, .int j] => .ok (.int (if j < i then j else i)) h
  | .max, [v] => match (lstOf h v).bind intsOf with
    | some (i :: ns) => .ok (.int (maxI (i :: ns))) h
    | _ => .bad
  | .min, [v] => match (lstOf h v).bind intsOf with
    | some (i :: ns) => .ok (.int (minI (i :: ns))) h
    | _ => .bad
  | .list, [v] => (Res.opt (seqOf h v) h).bind newL
  | .tuple, [v] => (Res.opt (seqOf h v) h).bind fun xs h => .ok (.tup xs) h
  | .all, [v] => (Res.opt ((lstOf h v).bind blsOf) h).bind fun bs h => .ok (.bl (bs.all id)) h
  | .any, [v] => (Res.opt ((lstOf h v).bind blsOf) h).bind fun bs h => .ok (.bl (bs.any id)) h
  | .sum, [v] => (Res.opt ((lstOf h v).bind intsOf) h).bind fun ns h => .ok (.int ns.sum) h
  | .divmod, [.int i, .int j] => if 0 < j ∧ j < 1073741824 then .ok (.tup [.int (i / j), .int (i % j)]) h else .bad
  | .str, [.int i] => if i.natAbs.log2 < 1920 then .ok (.str (toString i : String)) h else .bad
  | .sorted, [v] => (Res.opt ((lstOf h v).bind intsOf) h).bind fun ns h => newL ((ns.mergeSort (· ≤ ·)).map .int) h
  | _, _ => .bad
def eBi (b : Bi) (as : MA) : ME := fun ρ h => (as ρ h).bind (biRun b)
section
variable {L : Lk} {K : PySem.W.Frag} {f f' : Nm} {h h' : Mem} {H H' : Hp} {W : WX} {σ : L2.St} {ρ : Env}
theorem Sim.lstOf (S : Sim L K f h H) {v : Val} {v' : V} {xs : List Val} (r : RV L K f H v v') (e : Mp.lstOf h v = some xs) : ∃ a vs, v' = .ref a ∧ SqL K H a vs ∧ RVs L K f H xs vs := by
  cases v with
  | ref n =>
    obtain ⟨a, ea, rfl⟩ := rv_ref r
    simp only [Mp.lstOf] at e
    cases q : h[n]? with
    | none => rw [q] at e; cases e
    | some o =>
      rw [q] at e
      cases o with
      | lst ys =>
        cases e
        obtain ⟨vs, sv, rv⟩ := S.seq ea (.inl q)
        exact ⟨a, vs, rfl, sv, rv⟩
      | rol ys =>
        cases e
        obtain ⟨vs, sv, rv⟩ := S.seq ea (.inr q)
        exact ⟨a, vs, rfl, sv, rv⟩
      | ins c fs => cases e
  | _ => simp [Mp.lstOf] at e
theorem Sim.seqOf (S : Sim L K f h H) {v : Val} {v' : V} {xs : List Val} (r : RV L K f H v v') (e : Mp.seqOf h v = some xs) : ∃ a vs, v' = .ref a ∧ (SqL K H a vs ∨ SqT K H a vs ∧ v = .tup xs) ∧ RVs L K f H xs vs := by
  cases v with
  | tup ts =>
    simp only [Mp.seqOf] at e
    cases e
    obtain ⟨a, vs, rfl, sa, ra⟩ := rv_tup r
    exact ⟨a, vs, rfl, .inr ⟨sa, rfl⟩, ra⟩
  | ref n =>
    obtain ⟨a, vs, e1, e2, e3⟩ := S.lstOf (v := .ref n) r (xs := xs) (by simpa only [Mp.seqOf, Mp.lstOf] using e)
    exact ⟨a, vs, e1, .inl e2, e3⟩
  | _ => simp [Mp.seqOf] at e
theorem ints_ok : ∀ {xs : List Val} {ns : List Int} {vs : List V}, intsOf xs = some ns → RVs L K f H xs vs → vs = ns.map V.int
  | [], ns, vs, e, r => by unfold RVs at r; simp [intsOf] at e; subst e; exact r
  | x :: xs, ns, vs, e, r => by
    unfold RVs at r
    obtain ⟨v, q, rfl, r1, r2⟩ := r
    cases x with
    | int i =>
      simp only [intsOf] at e
      obtain ⟨ms, e1, rfl⟩ := Option.map_eq_some_iff.mp e
      rw [rv_int r1, ints_ok e1 r2]
      rfl
    | _ => simp [intsOf] at e
theorem bls_ok : ∀ {xs : List Val} {ns : List Bool} {vs : List V}, blsOf xs = some ns → RVs L K f H xs vs → vs = ns.map V.bl
  | [], ns, vs, e, r => by unfold RVs at r; simp [blsOf] at e; subst e; exact r
  | x :: xs, ns, vs, e, r => by
    unfold RVs at r
    obtain ⟨v, q, rfl, r1, r2⟩ := r
    cases x with
    | bl i =>
      simp only [blsOf] at e
      obtain ⟨ms, e1, rfl⟩ := Option.map_eq_some_iff.mp e
      rw [rv_bl r1, bls_ok e1 r2]
      rfl
    | _ => simp [blsOf] at e
theorem RVs.one {x : Val} {vs : List V} (r : RVs L K f H [x] vs) : ∃ v, vs = [v] ∧ RV L K f H x v := by
  unfold RVs at r
  obtain ⟨v, q, rfl, r1, r2⟩ := r
  unfold RVs at r2
  exact ⟨v, by rw [r2], r1⟩
theorem RVs.two {x y : Val} {vs : List V} (r : RVs L K f H [x, y] vs) : ∃ v w, vs = [v, w] ∧ RV L K f H x v ∧ RV L K f H y w := by
  unfold RVs at r
  obtain ⟨v, q, rfl, r1, r2⟩ := r
  obtain ⟨w, rfl, r3⟩ := r2.one
  exact ⟨v, w, rfl, r1, r3⟩
theorem RVs.ints (ns : List Int) : RVs L K f H (ns.map Val.int) (ns.map V.int) := by
  induction ns with
  | nil => exact RVs.nil
  | cons n ns ih => exact RVs.cons (mk_int n) ih
theorem maxI_mem : ∀ (i : Int) (ns : List Int), maxI (i :: ns) ∈ i :: ns ∧ ∀ y ∈ i :: ns, y ≤ maxI (i :: ns)
  | i, [] => by simp [maxI]
  | i, j :: ns => by
    obtain ⟨h1, h2⟩ := maxI_mem j ns
    simp only [maxI]
    split
    · rename_i hz
      refine ⟨List.mem_cons_self, fun y hy => ?_⟩
      rcases List.mem_cons.mp hy with e | e
      · rw [e]; exact Int.le_refl _
      · exact Int.le_trans (h2 y e) hz
    · rename_i hz
      refine ⟨List.mem_cons_of_mem _ h1, fun y hy => ?_⟩
      rcases List.mem_cons.mp hy with e | e
      · rw [e]; omega
      · exact h2 y e
theorem minI_mem : ∀ (i : Int) (ns : List Int), minI (i :: ns) ∈ i :: ns ∧ ∀ y ∈ i :: ns, minI (i :: ns) ≤ y
  | i, [] => by simp [minI]
  | i, j :: ns => by
    obtain ⟨h1, h2⟩ := minI_mem j ns
    simp only [minI]
    split
    · rename_i hz
      refine ⟨List.mem_cons_self, fun y hy => ?_⟩
      rcases List.mem_cons.mp hy with e | e
      · rw [e]; exact Int.le_refl _
      · exact Int.le_trans hz (h2 y e)
    · rename_i hz
      refine ⟨List.mem_cons_of_mem _ h1, fun y hy => ?_⟩
      rcases List.mem_cons.mp hy with e | e
      · rw [e]; omega
      · exact h2 y e
theorem sort_uniq {ns ms : List Int} (hp : ms.Perm ns) (hs : ms.Pairwise (· ≤ ·)) : ms = ns.mergeSort (· ≤ ·) := by
  have h1 : (ns.mergeSort (fun a b => decide (a ≤ b))).Perm ns := List.mergeSort_perm ns _
  have h2 : (ns.mergeSort (fun a b => decide (a ≤ b))).Pairwise (fun a b => decide (a ≤ b) = true) := List.pairwise_mergeSort (by intro a b c; simp; omega) (by intro a b; simp; omega) ns
  have h3 : (ns.mergeSort (fun a b => decide (a ≤ b))).Pairwise (· ≤ ·) := h2.imp fun h => of_decide_eq_true h
  exact List.Perm.eq_of_pairwise (le := (· ≤ ·)) (fun a b _ _ h1 h2 => Int.le_antisymm h1 h2) hs h3 (hp.trans h1.symm)
def rCall (L : Lk) (K : PySem.W.Frag) (g : List Val → Mem → Res Val) : List V → Hp → VK → Prop := fun xs' H Q => ∃ f h xs, Sim L K f h H ∧ RVs L K f H xs xs' ∧ PostG L K (RV L K) WF f [] H Q (g xs h)
theorem good_call {g : List Val → Mem → Res Val} (nx : ∀ xs h, NoX (g xs h)) {das : MA} {Q : VK} (G : GoodE L K W (fun ρ h => (das ρ h).bind g) σ H Q) : tCB (rCall L K g) (GoodA L K W das) σ H Q := by
  obtain ⟨f, ρ, h, S, E, p⟩ := G
  refine ⟨f, ρ, h, S, E, (PostG.bind (R := RVs L K) p).imp fun x' H1 ⟨f1, x, h1, e1, X1, S1, R1, p1⟩ => ?_⟩
  exact ⟨f1, h1, x, S1, R1, p1.nox (nx x h1)⟩
theorem opt_nox {α β : Type} (o : Option α) (h : Mem) (k : α → Mem → Res β) (hk : ∀ a h, NoX (k a h)) : NoX ((Res.opt o h).bind k) := by
  cases o with
  | none => exact True.intro
  | some a => exact hk a h
theorem biRun_nox (b : Bi) (xs : List Val) (h : Mem) : NoX (biRun b xs h) := by
  unfold biRun
  split
  all_goals first
    | exact True.intro
    | (apply opt_nox; intro a h; first | exact True.intro | exact newL_nox _ _)
    | (split <;> first | exact True.intro | (apply opt_nox; intro a h; exact True.intro) | (split <;> exact True.intro))
end
section
variable {L : Lk} {X : Cx}
theorem bi_ok (hc : X.calm = true) (b : Bi) : CallR X b.val (rCall L X.K (biRun b)) := by
  intro pins s σ H xs' us Q I rv ⟨f, h, xs, S, R, p⟩
  unfold biRun at p
  split at p
  · -- len
    rename_i v
    obtain ⟨v', rfl, r⟩ := R.one
    split at p
    · rename_i z
      obtain rfl := rv_str r
      split at p
      · rename_i hz
        exact call_len_str pins s σ H _ us Q I rv ⟨z, rfl, hz, now S (mk_int _) p⟩
      · exact absurd p id
    · cases e : seqOf h v with
      | none => rw [e] at p; exact absurd p id
      | some ys =>
        rw [e] at p
        obtain ⟨a, vs, rfl, sq, rr⟩ := S.seqOf r e
        have q := now S (mk_int _) p
        rw [rr.length] at q
        exact call_len_seq pins s σ H _ us Q I rv ⟨a, vs, rfl, sq.imp id (·.1), q⟩
  · obtain ⟨v', rfl, r⟩ := R.one
    obtain rfl := rv_int r
    exact call_int1 pins s σ H _ us Q I rv (.inl ⟨_, rfl, now S (mk_int _) p⟩)
  · obtain ⟨v', rfl, r⟩ := R.one
    obtain rfl := rv_bl r
    exact call_int1 pins s σ H _ us Q I rv (.inr ⟨_, rfl, now S (mk_int _) p⟩)
  · obtain ⟨v', rfl, r⟩ := R.one
    obtain rfl := rv_int r
    exact call_abs pins s σ H _ us Q I rv ⟨_, rfl, now S (mk_int _) p⟩
  · obtain ⟨v', w', rfl, r, r'⟩ := R.two
    obtain rfl := rv_int r
    obtain rfl := rv_int r'
    exact call_max2 hc pins s σ H _ us Q I rv ⟨_, _, rfl, now S (mk_int _) p⟩
  · obtain ⟨v', w', rfl, r, r'⟩ := R.two
    obtain rfl := rv_int r
    obtain rfl := rv_int r'
    exact call_min2 hc pins s σ H _ us Q I rv ⟨_, _, rfl, now S (mk_int _) p⟩
  · obtain ⟨v', rfl, r⟩ := R.one
    split at p
    · rename_i v i ns e
      obtain ⟨ys, e1, e2⟩ := Option.bind_eq_some_iff.mp e
      obtain ⟨a, vs, rfl, sq, rr⟩ := S.lstOf r e1
      obtain rfl := ints_ok e2 rr
      refine cr_max hc pins s σ H _ us Q I rv ⟨a, i :: ns, rfl, sq, by simp, fun m hm hall => ?_⟩
      obtain ⟨z1, z2⟩ := maxI_mem i ns
      rw [Int.le_antisymm (z2 m hm) (hall _ z1)]
      exact now S (mk_int _) p
    · exact absurd p id
  · obtain ⟨v', rfl, r⟩ := R.one
    split at p
    · rename_i v i ns e
      obtain ⟨ys, e1, e2⟩ := Option.bind_eq_some_iff.mp e
      obtain ⟨a, vs, rfl, sq, rr⟩ := S.lstOf r e1
      obtain rfl := ints_ok e2 rr
      refine cr_min hc pins s σ H _ us Q I rv ⟨a, i :: ns, rfl, sq, by simp, fun m hm hall => ?_⟩
      obtain ⟨z1, z2⟩ := minI_mem i ns
      rw [Int.le_antisymm (hall _ z1) (z2 m hm)]
      exact now S (mk_int _) p
    · exact absurd p id
  · obtain ⟨v', rfl, r⟩ := R.one
    rename_i v
    cases e : seqOf h v with
    | none => rw [e] at p; exact absurd p id
    | some ys =>
      rw [e] at p
      obtain ⟨a, vs, rfl, sq, rr⟩ := S.seqOf r e
      exact call_list_of pins s σ H _ us Q I rv ⟨a, vs, rfl, sq.imp id (·.1), (newL_ok S rr p).2⟩
  · obtain ⟨v', rfl, r⟩ := R.one
    rename_i v
    cases e : seqOf h v with
    | none => rw [e] at p; exact absurd p id
    | some ys =>
      rw [e] at p
      obtain ⟨a, vs, rfl, sq, rr⟩ := S.seqOf r e
      refine call_tuple_of pins s σ H _ us Q I rv ⟨a, vs, rfl, ?_⟩
      rcases sq with sq | ⟨sq, ev⟩
      · exact .inl ⟨sq, newT_ok S rr p⟩
      · subst ev
        exact .inr ⟨sq, now S r p⟩
  · obtain ⟨v', rfl, r⟩ := R.one
    rename_i v
    cases e : (lstOf h v).bind blsOf with
    | none => rw [e] at p; exact absurd p id
    | some bs =>
      rw [e] at p
      obtain ⟨ys, e1, e2⟩ := Option.bind_eq_some_iff.mp e
      obtain ⟨a, vs, rfl, sq, rr⟩ := S.lstOf r e1
      obtain rfl := bls_ok e2 rr
      exact cr_all hc pins s σ H _ us Q I rv ⟨a, bs, rfl, sq, now S (mk_bl _) p⟩
  · obtain ⟨v', rfl, r⟩ := R.one
    rename_i v
    cases e : (lstOf h v).bind blsOf with
    | none => rw [e] at p; exact absurd p id
    | some bs =>
      rw [e] at p
      obtain ⟨ys, e1, e2⟩ := Option.bind_eq_some_iff.mp e
      obtain ⟨a, vs, rfl, sq, rr⟩ := S.lstOf r e1
      obtain rfl := bls_ok e2 rr
      exact cr_any hc pins s σ H _ us Q I rv ⟨a, bs, rfl, sq, now S (mk_bl _) p⟩
  · obtain ⟨v', rfl, r⟩ := R.one
    rename_i v
    cases e : (lstOf h v).bind intsOf with
    | none => rw [e] at p; exact absurd p id
    | some ns =>
      rw [e] at p
      obtain ⟨ys, e1, e2⟩ := Option.bind_eq_some_iff.mp e
      obtain ⟨a, vs, rfl, sq, rr⟩ := S.lstOf r e1
      obtain rfl := ints_ok e2 rr
      exact cr_sum hc pins s σ H _ us Q I rv ⟨a, ns, rfl, sq, now S (mk_int _) p⟩
  · obtain ⟨v', w', rfl, r, r'⟩ := R.two
    obtain rfl := rv_int r
    obtain rfl := rv_int r'
    split at p
    · rename_i hz
      refine call_divmod pins s σ H _ us Q I rv ⟨_, _, rfl, hz, ?_⟩
      exact newT_ok S (RVs.cons (mk_int _) (RVs.cons (mk_int _) RVs.nil)) p
    · exact absurd p id
  · obtain ⟨v', rfl, r⟩ := R.one
    obtain rfl := rv_int r
    split at p
    · rename_i hz
      exact call_str_int pins s σ H _ us Q I rv ⟨_, rfl, hz, now S (mk_str _) p⟩
    · exact absurd p id
  · obtain ⟨v', rfl, r⟩ := R.one
    rename_i v
    cases e : (lstOf h v).bind intsOf with
    | none => rw [e] at p; exact absurd p id
    | some ns =>
      rw [e] at p
      obtain ⟨ys, e1, e2⟩ := Option.bind_eq_some_iff.mp e
      obtain ⟨a, vs, rfl, sq, rr⟩ := S.lstOf r e1
      obtain rfl := ints_ok e2 rr
      refine cr_sortedI pins s σ H _ us Q I rv ⟨a, ns, rfl, sq, fun ns' q hp hs hq => ?_⟩
      rw [sort_uniq hp hs]
      exact (newL_ok S (RVs.ints _) p).2 q hq
  · exact absurd p id
variable {W : WX} {a : Expr} {es : List Expr} {das : MA} {pos p : Pos}
theorem s_bi {b : Bi} {x : Str} (hc : X.calm = true) (hb : biOf x = some b) (hg : Gl X x) (hm : X.mg x = none) (ha : PA X (a :: es) (GoodA L X.K W das)) (he : starEach (a :: es) X.env = (false, eval a X.env) :: starEach es X.env)
    (hpl : (backTo pos (starEach es X.env)).any (·.1) = false) : PE X (.Call (.Name x p) (a :: es) [] pos) (GoodE L X.K W (eBi b das)) := by
  obtain ⟨hv, hn, hd⟩ := biOf_boot hb
  have k : ∀ σ H Q, GoodE L X.K W (eBi b das) σ H Q → tCB (rCall L X.K (biRun b)) (GoodA L X.K W das) σ H Q := fun σ H Q G => good_call (biRun_nox b) G
  have c := bi_ok (L := L) hc b
  cases b
  case int => exact peImp (pe_callTy c hg hm hv ha hn hd he hpl) k
  case list => exact peImp (pe_callTy c hg hm hv ha hn hd he hpl) k
  case tuple => exact peImp (pe_callTy c hg hm hv ha hn hd he hpl) k
  case str => exact peImp (pe_callTy c hg hm hv ha hn hd he hpl) k
  all_goals exact peImp (pe_callB c hg hm hv ha hn hd he hpl) k
end
end Mp
set_option Elab.async false
set_option linter.all false
set_option maxRecDepth 100000
set_option maxHeartbeats 1000000
namespace Mp
open PySem PySem.Spec PyProof.Rows L2
/-! ### a program's defs and classes -/
structure FnD where
  ps : List Str
  dfl : List (Str × Val)
  N : List Str
  sc : Scope
  body : List Stmt
structure ClD where
  init : Str
  meths : List (Str × Str)
  props : List (Str × Str)
  flds : List Str
structure Pg where
  fns : List (Str × FnD)
  tops : List Str
  cls : List (Str × ClD)
  glob : List (Str × Val)
  shapes : List (Str × Nat × List Str)
inductive Src where
  | ps (i : Nat) | kw (j : Nat) | df (v : Val)
def pick1 (us ws : List Val) : Src → Option Val
  | .ps i => us[i]?
  | .kw j => ws[j]?
  | .df v => some v
def selV (us ws : List Val) : List Src → Option (List Val)
  | [] => some []
  | s :: r => match pick1 us ws s, selV us ws r with
    | some v, some vs => some (v :: vs)
    | _, _ => none
def bindGo (n : Nat) (ks : List Str) (dfl : List (Str × Val)) : Nat → List Str → Option (List Src)
  | _, [] => some []
  | i, p :: ps => match (if i < n then some (Src.ps i) else match ks.idxOf? p with
      | some j => some (Src.kw j)
      | none => (dfl.lookup p).map Src.df), bindGo n ks dfl (i + 1) ps with
    | some s, some r => some (s :: r)
    | _, _ => none
def bindV (D : FnD) (n : Nat) (ks : List Str) : Option (List Src) := bindGo n ks D.dfl 0 D.ps
abbrev CallT := Str → List Val → Mem → Res Val
def eCall (m : List Val → Mem → Res Val) (as : MA) : ME := fun ρ h => (as ρ h).bind m
def eCallS (m : List Val → Mem → Res Val) (sel : List Src) (as ks : MA) : ME := fun ρ h => (as ρ h).bind fun us h => (ks ρ h).bind fun ws h => (Res.opt (selV us ws sel) h).bind m
def dropNon (r : Res Val) (v : Val) : Res Val := match r with
  | .ok .non h => .ok v h
  | .exc c fs h => .exc c fs h
  | _ => .bad
/-- C(..): a new instance, then its __init__ -/
def mkI (m : List Val → Mem → Res Val) (c : Str) (sel : List Src) (us ws : List Val) (h : Mem) : Res Val := match selV (.ref h.length :: us) ws sel with
  | some vs => dropNon (m vs (h ++ [.ins c []])) (.ref h.length)
  | none => .bad
def eMake (m : List Val → Mem → Res Val) (c : Str) (sel : List Src) (as ks : MA) : ME := fun ρ h => (as ρ h).bind fun us h => (ks ρ h).bind fun ws h => mkI m c sel us ws h
/-! ### what is known of a def -/
section
variable (L : Lk)
def spF (K : PySem.W.Frag) (n : Nat) (m : List Val → Mem → Res Val) : Sp := fun vs H Q E => vs.length = n ∧ ∃ f h ts, Sim L K f h H ∧ RVs L K f H ts vs ∧ PostG L K (RV L K) (fun cls d _ H' => E cls d H') f [] H Q (m ts h)
def ShpOk (K : PySem.W.Frag) (fd : FuncData) (ps : List Str) (n : Nat) (ks : List Str) (sel : List Src) : Prop := ∃ g gV, KBn K fd ps n ks g gV ∧
  ∀ f H ts zs vs ws us, RVs L K f H ts vs → RVs L K f H zs ws → ts.length = n → zs.length = ks.length → selV ts zs sel = some us → RVs L K f H us (gV vs ws)
structure FnF (P : Program) (w : World) (K : PySem.W.Frag) (mg : Str → Option Value) (base : Heap) (k : Nat) (Γ : Pg) (call : CallT) (g : Str) (D : FnD) : Prop where
  ex : ∃ fd, FnOk P w K mg base (L2.CX P w) k (L.F g) fd D.ps (spF L K D.ps.length (call g)) ∧ ∀ n ks sel, (g, n, ks) ∈ Γ.shapes → bindV D n ks = some sel → ShpOk L K fd D.ps n ks sel ∧ (ks = [] → n = D.ps.length → Binds K fd D.ps [])
  kp : PySem.W.keepIn K (.ref (L.F g)) = true
structure ClF (K : PySem.W.Frag) (c : Str) (C : ClD) : Prop where
  cl : Cls K (L.C c)
  mak : Mk K (L.C c) (L.F C.init)
  no : ∀ x ∈ C.flds, NoAttr K (L.C c) x
  me : ∀ p ∈ C.meths, Meth K (L.C c) p.1 (L.F p.2)
  pr : ∀ p ∈ C.props, ∃ q, PropOf K (L.C c) p.1 q (L.F p.2)
end
section
variable {L : Lk} {X : Cx} {W : WX} {pos : Pos}
/-! ### argument lists -/
def noStar : Expr → Bool
  | .Starred _ _ => false
  | _ => true
theorem star_cons {e : Expr} {es : List Expr} {env : PySem.Env} (h : noStar e = true) : starEach (e :: es) env = (false, eval e env) :: starEach es env := by
  cases e <;> first | rfl | (simp [noStar] at h)
theorem star_any {env : PySem.Env} {pos : Pos} : ∀ {es : List Expr}, es.all noStar = true → (backTo pos (starEach es env)).any (·.1) = false
  | [], _ => rfl
  | e :: es, h => by
    simp only [List.all_cons, Bool.and_eq_true] at h
    rw [star_cons h.1]
    show (false || (backTo pos (starEach es env)).any (·.1)) = false
    rw [star_any h.2]
    rfl
theorem kw_all {env : PySem.Env} {pos : Pos} : ∀ {kws : List Keyword}, kws.all (·.arg.isSome) = true → (backToKw pos (keywordEach kws env)).all (·.1.isSome) = true ∧ (backToKw pos (keywordEach kws env)).any (·.1.isNone) = false ∧
    (backToKw pos (keywordEach kws env)).filterMap (·.1) = kws.filterMap (·.arg)
  | [], _ => ⟨rfl, rfl, rfl⟩
  | ⟨nm, e, p⟩ :: kws, h => by
    simp only [List.all_cons, Bool.and_eq_true] at h
    obtain ⟨h1, h2, h3⟩ := kw_all (env := env) (pos := pos) h.2
    cases nm with
    | none => simp at h
    | some x =>
      refine ⟨?_, ?_, ?_⟩
      · show ((some x).isSome && (backToKw pos (keywordEach kws env)).all (·.1.isSome)) = true
        rw [h1]; rfl
      · show ((some x).isNone || (backToKw pos (keywordEach kws env)).any (·.1.isNone)) = false
        rw [h2]; rfl
      · show x :: (backToKw pos (keywordEach kws env)).filterMap (·.1) = x :: kws.filterMap (·.arg)
        rw [h3]
theorem pkImp {X : Cx} {e : List Keyword} {t t' : TA} (h : PK X e t) (i : ∀ σ H Q, t' σ H Q → t σ H Q) : PK X e t' := ⟨fun pos pins s σ H Q I q => h.run pos pins s σ H Q I (i σ H Q q)⟩
theorem k_nil : PK X [] (GoodA L X.K W aNil) := pkImp pk_nil fun σ H Q ⟨f, ρ, h, S, E, p⟩ => p f H [] (Ext.refl _ _) S RVs.nil
theorem k_cons {nm : Option Str} {e : Expr} {kp : Pos} {kws : List Keyword} {da : ME} {das : MA} (ha : PE X e (GoodE L X.K W da)) (hr : PK X kws (GoodA L X.K W das)) : PK X (⟨nm, e, kp⟩ :: kws) (GoodA L X.K W (aCons da das)) := by
  refine pkImp (pk_cons ha hr) fun σ H Q ⟨f, ρ, h, S, E, p⟩ => ?_
  refine ⟨f, ρ, h, S, E, (PostG.bind (R := RV L X.K) p).imp fun x' H1 ⟨f1, x, h1, e1, X1, S1, R1, p1⟩ => ?_⟩
  refine ⟨f1, ρ, h1, S1, E.mono S X1, (PostG.bind (R := RVs L X.K) p1).imp fun xs' H2 ⟨f2, xs, h2, e2, X2, S2, R2, p2⟩ => ?_⟩
  exact p2 f2 H2 _ (Ext.refl _ _) S2 (RVs.cons (R1.mono S1 X2) R2)
theorem goodA_nil {σ : L2.St} {H : Hp} {Q : List V → Hp → Prop} {das : MA} (e : das = aNil) (G : GoodA L X.K W das σ H Q) : Q [] H := by
  subst e
  obtain ⟨f, ρ, h, S, E, p⟩ := G
  exact p f H [] (Ext.refl _ _) S RVs.nil
/-- the arguments of a call, then the call -/
theorem call_args {fv : Value} {first : List Value} {es : List Expr} {kws : List Keyword} {das dks : MA} (hk : PySem.W.keepIn X.K fv = true) (ha : PA X es (GoodA L X.K W das)) (hkw : PK X kws (GoodA L X.K W dks)) (hst : es.all noStar = true) (hnm : kws.all (·.arg.isSome) = true)
    (hz : es = [] → das = aNil) (hz2 : kws = [] → dks = aNil) {pins : List (Addr × Obj)} {s : Shared} {σ : L2.St} {H : Hp} {Q : Value → Shared → Prop} (I : Inv X pins σ H s)
    (h : GoodA L X.K W das σ H fun vs H1 => GoodA L X.K W dks σ H1 fun zs H2 => ∀ s2 us ws, Inv X pins σ H2 s2 → Vals vs us → Vals zs ws → wpAny (model X.prog X.w) X.A (call fv (first ++ us) ((kws.filterMap (·.arg)).zip ws)) Q X.xe s2) :
    wpAny (model X.prog X.w) X.A (callWith pos fv first (backTo pos (starEach es X.env)) (backToKw pos (keywordEach kws X.env))) Q X.xe s := by
  obtain ⟨k1, k2, k3⟩ := kw_all (env := X.env) (pos := pos) hnm
  have hany := star_any (env := X.env) (pos := pos) hst
  cases es with
  | nil =>
    have h2 := goodA_nil (hz rfl) h
    cases kws with
    | nil => exact PySem.W.callWith_K0 I.kIn hk (goodA_nil (hz2 rfl) h2 s [] [] I .nil .nil)
    | cons k kws =>
      refine PySem.W.callWith_KW0 (h₀ := X.base) I.ok.mod.kin hk k1 (thn (hkw.run pos pins s σ H _ I h2) fun ws s2 ⟨zs, H2, I2, rz, q2⟩ => ⟨I2.kIn, ?_⟩) (by rw [k2]; rfl)
      rw [k3]
      exact q2 s2 [] ws I2 .nil rz
  | cons e es =>
    simp only [List.all_cons, Bool.and_eq_true] at hst
    cases kws with
    | nil =>
      refine PySem.W.callWith_K (h₀ := X.base) I.ok.mod.kin hk (thn (ha.run pos pins s σ H _ I h) fun us s1 ⟨vs, H1, I1, r, q⟩ => ⟨I1.kIn, ?_⟩) (star_cons hst.1) (star_any hst.2)
      exact goodA_nil (hz2 rfl) q s1 us [] I1 r .nil
    | cons k kws =>
      refine PySem.W.callWith_KW (h₀ := X.base) I.ok.mod.kin hk k1 (thn (ha.run pos pins s σ H _ I h) fun us s1 ⟨vs, H1, I1, r, q⟩ => ?_) (by rw [k2, hany]; rfl) (star_cons hst.1)
      refine thn (hkw.run pos pins s1 σ H1 _ I1 q) fun ws s2 ⟨zs, H2, I2, rz, q2⟩ => ⟨I2.kIn, ?_⟩
      rw [k3]
      exact q2 s2 us ws I2 r rz
/-! ### a def runs -/
theorem run_shape {CX : CXT} {k n : Nat} {fa : Addr} {fd : FuncData} {ps ks : List Str} {sp : Sp} {E : L2.St → XK} {g : List Value → List Value → List Value} {gV : List V → List V → List V} {pins : List (Addr × Obj)} {σ : L2.St} {H : Hp} {s : Shared} {Q : VK} {us ws : List Value} {vs zs : List V}
    (F : FnOk X.prog X.w X.K X.mg X.base CX k fa fd ps sp) (hr : Room k X.A) (hb : KBn X.K fd ps n ks g gV) (hx : PassesAt CX X σ (E σ)) (I : Inv X pins σ H s) (r : Vals vs us) (rz : Vals zs ws) (l1 : vs.length = n) (l2 : zs.length = ks.length) (h : sp (gV vs zs) H Q (E σ)) :
    wpAny (model X.prog X.w) X.A (call (.ref fa) us (ks.zip ws)) (EP X pins σ Q) X.xe s := by
  have r2 := hb.rel r rz
  refine wpAny_call (codeAny_mono (F.run X.A X.stack s H ⟨us, ks.zip ws⟩ (g us ws) (gV vs zs) Q (E σ) hr I.env0 (hb.to s us ws I.kIn (r.length.symm.trans l1) (rz.length.symm.trans l2)) r2 h) fun r s' hq => ?_)
  cases r with
  | error e => exact hx pins H s e s' I hq
  | ok fl =>
    cases fl with
    | ret u => exact I.after hq
    | next => exact False.elim hq
    | brk => exact False.elim hq
    | cont => exact False.elim hq
theorem run_makeN {CX : CXT} {k n : Nat} {C fa : Addr} {fd : FuncData} {ps ks : List Str} {sp : Sp} {E : L2.St → XK} {g : List Value → List Value → List Value} {gV : List V → List V → List V} {pins : List (Addr × Obj)} {σ : L2.St} {H : Hp} {s : Shared} {Q : VK} {us ws : List Value} {vs zs : List V}
    (M : Mk X.K C fa) (F : FnOk X.prog X.w X.K X.mg X.base CX k fa fd ps sp) (hr : Room (k + 1) X.A) (hb : KBn X.K fd ps (n + 1) ks g gV) (hx : PassesAt CX X σ (E σ)) (I : Inv X pins σ H s) (r : Vals vs us) (rz : Vals zs ws) (l1 : vs.length = n) (l2 : zs.length = ks.length)
    (h : ∀ x dx, H x = none → H dx = none → dx ≠ x → sp (gV (.ref x :: vs) zs) (upd (upd H dx (.own x)) x (.ins C dx [])) (fun v H2 => v = .non ∧ Q (.ref x) H2) (E σ)) :
    wpAny (model X.prog X.w) X.A (call (.ref C) us (ks.zip ws)) (EP X pins σ Q) X.xe s := by
  have hq := h (s.heap.objs.size + 1) s.heap.objs.size (I.hok.fresh (Nat.le_succ _)) (I.hok.fresh (Nat.le_refl _)) (Nat.ne_of_lt (Nat.lt_succ_self _))
  have I2 := Inv.made (C := C) I
  have r1 : Vals (V.ref (s.heap.objs.size + 1) :: vs) (Value.ref (s.heap.objs.size + 1) :: us) := .cons rfl r
  have r2 := hb.rel r1 rz
  have bt := hb.to _ (Value.ref (s.heap.objs.size + 1) :: us) ws I2.kIn (by rw [List.length_cons, ← r.length, l1]) (rz.length.symm.trans l2)
  refine wpAny_call (make_map (f := fa) I.kIn M.makes M.init (beq_iff_eq.mp M.fn) (codeAny_mono (F.run _ X.stack _ _ ⟨Value.ref (s.heap.objs.size + 1) :: us, ks.zip ws⟩ _ _ _ (E σ) (hr.make C us (ks.zip ws)) (I2.env0.make C us (ks.zip ws)) bt r2 hq) fun r s' hq' => ?_))
  cases r with
  | error e => exact hx pins _ _ e s' I2 hq'
  | ok fl =>
    cases fl with
    | ret u =>
      obtain ⟨v, H', I3, rv, ev, q3⟩ := I2.after hq'
      subst ev
      exact ⟨rv, ⟨V.ref (s.heap.objs.size + 1), H', I3, rfl, q3⟩⟩
    | next => exact False.elim hq'
    | brk => exact False.elim hq'
    | cont => exact False.elim hq'
/-- the promise of a def, met -/
theorem sp_of {K : PySem.W.Frag} {f : Nm} {h : Mem} {H : Hp} {σ : L2.St} {n : Nat} {m : List Val → Mem → Res Val} {ts : List Val} {vs : List V} {Q : VK} (S : Sim L K f h H) (r : RVs L K f H ts vs) (hl : ts.length = n) (p : PostG L K (RV L K) W f σ H Q (m ts h)) :
    spF L K n m vs H Q (WE W σ) := by
  refine ⟨by rw [← r.length]; exact hl, f, h, ts, S, r, ?_⟩
  cases e : m ts h with
  | ok v h' => rw [e] at p; exact p
  | exc c fs h' => rw [e] at p; exact p
  | bad => rw [e] at p; exact p
theorem selV_len {us ws : List Val} : ∀ {sel : List Src} {vs : List Val}, selV us ws sel = some vs → vs.length = sel.length
  | [], vs, e => by simp [selV] at e; subst e; rfl
  | s :: r, vs, e => by
    simp only [selV] at e
    split at e
    · rename_i v ws e1 e2
      cases e
      rw [List.length_cons, List.length_cons, selV_len e2]
    · cases e
theorem bindGo_len {n : Nat} {ks : List Str} {dfl : List (Str × Val)} : ∀ {ps : List Str} {i : Nat} {sel : List Src}, bindGo n ks dfl i ps = some sel → sel.length = ps.length
  | [], _, sel, e => by simp [bindGo] at e; subst e; rfl
  | p :: ps, i, sel, e => by
    simp only [bindGo] at e
    split at e
    · rename_i s r e1 e2
      cases e
      rw [List.length_cons, List.length_cons, bindGo_len e2]
    · cases e
section
variable {Γ : Pg} {call : CallT} {g : Str} {D : FnD} {k : Nat} {es : List Expr} {kws : List Keyword} {das dks : MA} {sel : List Src} {p : Pos}
/-- f(..) of a def of the module -/
theorem s_callS (tk : Takes X W) (F : FnF L X.prog X.w X.K X.mg X.base k Γ call g D) (hr : Room k X.A) (hg : Gl X g) (hm : X.mg g = some (.ref (L.F g))) (hdb : (g == ("__debug__" : Str)) = false) (ha : PA X es (GoodA L X.K W das)) (hkw : PK X kws (GoodA L X.K W dks))
    (hst : es.all noStar = true) (hnm : kws.all (·.arg.isSome) = true) (hz : es = [] → das = aNil) (hz2 : kws = [] → dks = aNil) (hl : ∀ ρ h us h', das ρ h = .ok us h' → us.length = es.length) (hl2 : ∀ ρ h us h', dks ρ h = .ok us h' → us.length = kws.length)
    (hsh : (g, es.length, kws.filterMap (·.arg)) ∈ Γ.shapes) (hb : bindV D es.length (kws.filterMap (·.arg)) = some sel) (hkl : (kws.filterMap (·.arg)).length = kws.length) :
    PE X (.Call (.Name g p) es kws pos) (GoodE L X.K W (eCallS (call g) sel das dks)) := by
  refine ⟨fun pins s σ H Q I ⟨f, ρ, h, S, E, pp⟩ => ?_⟩
  refine wpAny_Call_Name_kw (ld_glob I hg hm ?_ hdb)
  obtain ⟨fd, Fo, Sh⟩ := F.ex
  obtain ⟨⟨gg, gV, kb, rel⟩, _⟩ := Sh _ _ _ hsh hb
  refine call_args (L := L) (W := W) F.kp ha hkw hst hnm hz hz2 I ⟨f, ρ, h, S, E, (PostG.bind (R := RVs L X.K) pp).imp fun vs H1 ⟨f1, us, h1, e1, X1, S1, R1, p1⟩ => ?_⟩
  refine ⟨f1, ρ, h1, S1, E.mono S X1, (PostG.bind (R := RVs L X.K) p1).imp fun zs H2 ⟨f2, ws, h2, e2, X2, S2, R2, p2⟩ => ?_⟩
  intro s2 uu ww I2 ru rw'
  cases es2 : selV us ws sel with
  | none => rw [es2] at p2; exact absurd p2 id
  | some ts =>
    rw [es2, Res.opt_some, Res.bind_ok] at p2
    have l1 := hl _ _ _ _ e1
    have l2 := hl2 _ _ _ _ e2
    have R1' := R1.mono S1 X2
    have RR := rel f2 H2 us ws vs zs ts R1' R2 l1 (by rw [l2, hkl]) es2
    refine run_shape (us := uu) (ws := ww) Fo hr kb (passAt tk σ) I2 ru rw' (by rw [← R1'.length, l1]) (by rw [← R2.length, l2, hkl]) ?_
    refine sp_of S2 RR ?_ p2
    rw [selV_len es2, bindGo_len hb]
/-- .. every parameter by position -/
theorem selV_id {us : List Val} : ∀ {m : Nat} {sel : List Src} {ps : List Str} {dfl : List (Str × Val)}, bindGo us.length [] dfl m ps = some sel → m + ps.length = us.length → selV us [] sel = some (us.drop m)
  | m, sel, [], dfl, e, hl => by
    simp [bindGo] at e
    subst e
    have : us.drop m = [] := List.drop_eq_nil_of_le (by simp at hl; omega)
    rw [this]
    rfl
  | m, sel, p :: ps, dfl, e, hl => by
    have hm : m < us.length := by rw [List.length_cons] at hl; omega
    simp only [bindGo, if_pos hm] at e
    split at e
    · rename_i s r e1 e2
      cases e1
      cases e
      have ih := selV_id e2 (by rw [List.length_cons] at hl; omega)
      simp only [selV, pick1]
      rw [ih, List.getElem?_eq_getElem hm]
      show some (us[m] :: us.drop (m + 1)) = _
      rw [← List.drop_eq_getElem_cons hm]
    · cases e
theorem s_call (tk : Takes X W) (F : FnF L X.prog X.w X.K X.mg X.base k Γ call g D) (hr : Room k X.A) (hg : Gl X g) (hm : X.mg g = some (.ref (L.F g))) (hdb : (g == ("__debug__" : Str)) = false) (ha : PA X es (GoodA L X.K W das))
    (hst : es.all noStar = true) (hz : es = [] → das = aNil) (hl : ∀ ρ h us h', das ρ h = .ok us h' → us.length = es.length)
    (hsh : (g, es.length, []) ∈ Γ.shapes) (hn : es.length = D.ps.length) :
    PE X (.Call (.Name g p) es [] pos) (GoodE L X.K W (eCall (call g) das)) := by
  cases hb : bindV D es.length [] with
  | none =>
    exfalso
    have : ∀ (ps : List Str) (i m : Nat), i + ps.length ≤ m → bindGo m [] D.dfl i ps ≠ none := by
      intro ps
      induction ps with
      | nil => intro i m _ e; simp [bindGo] at e
      | cons q qs ih =>
        intro i m hm e
        rw [List.length_cons] at hm
        have hi : i < m := by omega
        simp only [bindGo, if_pos hi] at e
        have i2 := ih (i + 1) m (by omega)
        cases z : bindGo m [] D.dfl (i + 1) qs with
        | none => exact i2 z
        | some r => rw [z] at e; cases e
    exact this D.ps 0 es.length (by omega) hb
  | some sel =>
    refine peImp (s_callS (dks := aNil) tk F hr hg hm hdb ha k_nil hst rfl hz (fun _ => rfl) hl (fun ρ h us h' e => by cases e; rfl) hsh hb rfl) fun σ H Q ⟨f, ρ, h, S, E, p⟩ => ⟨f, ρ, h, S, E, ?_⟩
    unfold eCallS
    unfold eCall at p
    cases e : das ρ h with
    | bad => rw [e] at p; exact p
    | exc c fs h' => rw [e] at p; exact p
    | ok us h1 =>
      rw [e] at p
      show PostG L X.K (RV L X.K) W f σ H Q ((Res.opt (selV us [] sel) h1).bind (call g))
      have l1 := hl _ _ _ _ e
      have := selV_id (us := us) (m := 0) (sel := sel) (ps := D.ps) (dfl := D.dfl) (by rw [l1]; exact hb) (by rw [l1, hn]; simp)
      rw [this, List.drop_zero]
      exact p
end
end
end Mp
set_option Elab.async false
set_option linter.all false
set_option maxRecDepth 100000
set_option maxHeartbeats 1000000
namespace Mp
open PySem PySem.Spec PyProof.Rows L2
/-! ### the machine: attributes, methods, isinstance, slices -/
def putFd (x : Str) (v : Val) : List (Str × Val) → List (Str × Val)
  | [] => [(x, v)]
  | (g, w) :: r => if g = x then (g, v) :: r else (g, w) :: putFd x v r
def attrOf (Γ : Pg) (call : CallT) (x : Str) (v : Val) (h : Mem) : Res Val := match v with
  | .ref n => match h[n]? with
    | some (.ins c fs) => match Γ.cls.lookup c with
      | some C => match C.props.lookup x with
        | some g => (call g [v] h).shut
        | none => if C.flds.contains x then Res.opt (fs.lookup x) h else .bad
      | none => .bad
    | _ => .bad
  | _ => .bad
def eAttr (Γ : Pg) (call : CallT) (x : Str) (a : ME) : ME := e1 (attrOf Γ call x) a
def setAttrM (Γ : Pg) (x : Str) (o v : Val) (h : Mem) : Res Val := match o with
  | .ref n => match h[n]? with
    | some (.ins c fs) => match Γ.cls.lookup c with
      | some C => if C.flds.contains x && decide (fs.length < 1000) then .ok .non (h.set n (.ins c (putFd x v fs))) else .bad
      | none => .bad
    | _ => .bad
  | _ => .bad
def sSetAttr (Γ : Pg) (x : Str) (o e : ME) : MS := fun ρ h => onE (e ρ h) ρ fun v h => onE (o ρ h) ρ fun ov h => onE (setAttrM Γ x ov v h) ρ fun _ h => .ok (.nx ρ) h
def sAugAttr (Γ : Pg) (x : Str) (o : ME) (op : Operator) (e : ME) : MS := fun ρ h => onE (o ρ h) ρ fun ov h => match ov with
  | .ref n => match h[n]? with
    | some (.ins c fs) => match Γ.cls.lookup c with
      | some C => if C.flds.contains x then (match fs.lookup x with
        | some v => onE (e ρ h) ρ fun y h => onE (augop op v y h) ρ fun z h => match h[n]? with
          | some (.ins c' fs') => if c' = c ∧ fs'.length < 1000 then .ok (.nx ρ) (h.set n (.ins c' (putFd x z fs'))) else .bad
          | _ => .bad
        | none => .bad) else .bad
      | none => .bad
    | _ => .bad
  | _ => .bad
/-- the methods of a list -/
inductive Lm where
  | append | extend | pop | clear | reverse
def lmTab : List (Str × Lm) := [("append", .append), ("extend", .extend), ("pop", .pop), ("clear", .clear), ("reverse", .reverse)]
def lmOf (m : Str) : Option Lm := lmTab.lookup m
def lmRun (m : Lm) (n : Nat) (args : List Val) (h : Mem) : Res Val := match h[n]? with
  | some (.lst xs) => match m, args with
    | .append, [y] => if xs.length < sizeLine then .ok .non (h.set n (.lst (xs ++ [y]))) else .bad
    | .extend, [.ref b] => match h[b]? with
      | some (.lst zs) => if xs.length + zs.length ≤ sizeLine then .ok .non (h.set n (.lst (xs ++ zs))) else .bad
      | _ => .bad
    | .pop, [] => match xs[xs.length - 1]? with
      | some y => .ok y (h.set n (.lst xs.dropLast))
      | none => .bad
    | .pop, [.int i] => match ixN xs.length i with
      | some k => match xs[k]? with
        | some y => .ok y (h.set n (.lst (xs.eraseIdx k)))
        | none => .bad
      | none => .bad
    | .clear, [] => .ok .non (h.set n (.lst []))
    | .reverse, [] => .ok .non (h.set n (.lst xs.reverse))
    | _, _ => .bad
  | _ => .bad
/-- a def called with n values by position and the keywords ks -/
def callBy (Γ : Pg) (call : CallT) (g : Str) (n : Nat) (ks : List Str) (us ws : List Val) (h : Mem) : Res Val := match Γ.fns.lookup g with
  | some D => if decide ((g, n, ks) ∈ Γ.shapes) then (match bindV D n ks with
    | some sel => (Res.opt (selV us ws sel) h).bind (call g)
    | none => .bad) else .bad
  | none => .bad
/-- o.m(..): the object decides -/
def methBy (Γ : Pg) (call : CallT) (m : Str) (n : Nat) (ks : List Str) (as kas : MA) (ρ : Env) (v : Val) (h : Mem) : Res Val := match v with
  | .ref a => match h[a]? with
    | some (.ins c fs) => match Γ.cls.lookup c with
      | some C => match C.meths.lookup m with
        | some g => if (fs.lookup m).isNone then (as ρ h).bind fun us h => (kas ρ h).bind fun ws h => callBy Γ call g (n + 1) ks (v :: us) ws h else .bad
        | none => .bad
      | none => .bad
    | some (.lst _) => match lmOf m, ks with
      | some k, [] => (as ρ h).bind fun us h => lmRun k a us h
      | _, _ => .bad
    | _ => .bad
  | _ => .bad
def eMeth (Γ : Pg) (call : CallT) (m : Str) (n : Nat) (ks : List Str) (o : ME) (as kas : MA) : ME := fun ρ h => (o ρ h).bind fun v h => methBy Γ call m n ks as kas ρ v h
/-- the built-in type of a value -/
def tyOf (h : Mem) : Val → Option String
  | .non => some "NoneType"
  | .bl _ => some "bool"
  | .int _ => some "int"
  | .str _ => some "str"
  | .tup _ => some "tuple"
  | .ref n => match h[n]? with
    | some (.lst _) => some "list"
    | some (.rol _) => some "list"
    | _ => none
  | .fn _ => none
def tyNames : List (Str × String) := [("int", "int"), ("bool", "bool"), ("str", "str"), ("list", "list"), ("tuple", "tuple"), ("dict", "dict")]
def subTy (t T : String) : Bool := t == T || (t == "bool" && T == "int")
def isiV (Ts : List String) (v : Val) (h : Mem) : Res Val := match tyOf h v with
  | some t => .ok (.bl (Ts.any (subTy t))) h
  | none => .bad
def eIsi (Ts : List String) (a : ME) : ME := e1 (isiV Ts) a
def cut {α : Type} (xs : List α) (lo hi : Option Int) : List α := (xs.drop (HT.sIx xs.length 0 lo)).take (HT.sIx xs.length xs.length hi - HT.sIx xs.length 0 lo)
def sliceV (v : Val) (lo hi : Option Int) (h : Mem) : Res Val := match v with
  | .tup ts => .ok (.tup (cut ts lo hi)) h
  | .str z => if z.length ≤ sizeLine then .ok (.str (Txt.slice z lo hi)) h else .bad
  | .ref n => match h[n]? with
    | some (.lst xs) => newL (cut xs lo hi) h
    | some (.rol xs) => newL (cut xs lo hi) h
    | _ => .bad
  | _ => .bad
abbrev MO := Env → Mem → Res (Option Int)
def oNone : MO := fun _ h => .ok none h
def oSome (e : ME) : MO := fun ρ h => (e ρ h).bind fun v h => match v with
  | .int i => .ok (some i) h
  | _ => .bad
def eSlice (a : ME) (lo hi : MO) : ME := fun ρ h => (a ρ h).bind fun v h => (lo ρ h).bind fun l h => (hi ρ h).bind fun u h => sliceV v l u h
def rgOk (a b : Int) : Bool := small62 a && small62 b && decide ((b - a).toNat ≤ 2 ^ 24)
def rgL (a b : Int) : List Val := (List.range (b - a).toNat).map fun i => .int (a + (i : Nat))
/-- list(range(..)) -/
def eListR1 (a : ME) : ME := e1 (fun v h => match v with
  | .int j => if rgOk 0 j then newL (rgL 0 j) h else .bad
  | _ => .bad) a
def eListR2 (a b : ME) : ME := e2 (fun v u h => match v, u with
  | .int i, .int j => if rgOk i j then newL (rgL i j) h else .bad
  | _, _ => .bad) a b
section
variable {L : Lk} {X : Cx} {W : WX} {pos : Pos} {a b c : Expr} {da db dc : ME} {Γ : Pg} {call : CallT} {k : Nat}
theorem Res.shut_post {K : PySem.W.Frag} {f : Nm} {σ : L2.St} {H : Hp} {Q : VK} {r : Res Val} (p : PostG L K (RV L K) W f σ H Q r.shut) : PostG L K (RV L K) WF f σ H Q r := by
  cases r with
  | ok v h => exact p
  | exc c fs h => exact absurd p id
  | bad => exact p
theorem base_ok {o : Expr} {x : Str} (h : (match o with | .Call (.Name _ _) [] [] _ => false | _ => true) = true) : attributeBase o x X.env (eval o X.env) = eval o X.env := by
  unfold attributeBase
  split
  · simp at h
  · rfl
theorem rf_get {K : PySem.W.Frag} {f : Nm} {H : Hp} {x : Str} : ∀ {fs : List (Str × Val)} {gs : List (Str × V)}, RFs L K f H fs gs → (∀ v, fs.lookup x = some v → ∃ v', gs.lookup x = some v' ∧ RV L K f H v v') ∧ (fs.lookup x = none → gs.lookup x = none)
  | [], gs, r => by
    obtain ⟨r1, r2⟩ := r
    have : gs = [] := by cases gs <;> simp at r1 ⊢
    subst this
    exact ⟨fun v e => (by cases e), fun _ => rfl⟩
  | (g, w) :: fs, gs, r => by
    obtain ⟨r1, r2⟩ := r
    cases gs with
    | nil => simp at r1
    | cons q gs =>
      obtain ⟨g', w'⟩ := q
      simp only [List.map_cons, List.cons.injEq] at r1
      obtain ⟨rfl, r1⟩ := r1
      simp only [List.map_cons] at r2
      unfold RVs at r2
      obtain ⟨v0, q0, e0, z1, z2⟩ := r2
      simp only [List.cons.injEq] at e0
      obtain ⟨e1, e2⟩ := e0
      subst e1
      subst e2
      obtain ⟨i1, i2⟩ := rf_get (x := x) (fs := fs) (gs := gs) ⟨r1, z2⟩
      by_cases hx : (x == g) = true
      · simp only [List.lookup_cons, hx]
        exact ⟨fun v e => by cases e; exact ⟨w', rfl, z1⟩, fun e => by cases e⟩
      · have hx : (x == g) = false := by simpa using hx
        simp only [List.lookup_cons, hx]
        exact ⟨i1, i2⟩
theorem rf_put {K : PySem.W.Frag} {f : Nm} {H : Hp} {x : Str} {v : Val} {v' : V} (rv : RV L K f H v v') : ∀ {fs : List (Str × Val)} {gs : List (Str × V)}, RFs L K f H fs gs → RFs L K f H (putFd x v fs) (putF x v' gs)
  | [], gs, r => by
    obtain ⟨r1, r2⟩ := r
    have : gs = [] := by cases gs <;> simp at r1 ⊢
    subst this
    exact ⟨rfl, RVs.cons rv RVs.nil⟩
  | (g, w) :: fs, gs, r => by
    obtain ⟨r1, r2⟩ := r
    cases gs with
    | nil => simp at r1
    | cons q gs =>
      obtain ⟨g', w'⟩ := q
      simp only [List.map_cons, List.cons.injEq] at r1
      obtain ⟨rfl, r1⟩ := r1
      simp only [List.map_cons] at r2
      unfold RVs at r2
      obtain ⟨v0, q0, e0, z1, z2⟩ := r2
      simp only [List.cons.injEq] at e0
      obtain ⟨e1, e2⟩ := e0
      subst e1
      subst e2
      unfold putFd putF
      by_cases hx : g = x
      · rw [if_pos hx, if_pos hx]
        exact ⟨by simp [r1], RVs.cons rv z2⟩
      · rw [if_neg hx, if_neg hx]
        obtain ⟨i1, i2⟩ := rf_put (x := x) (v := v) (v' := v') rv (fs := fs) (gs := gs) ⟨r1, z2⟩
        exact ⟨by simp [i1], RVs.cons z1 i2⟩
theorem Sim.ins {K : PySem.W.Frag} {f : Nm} {h : Mem} {H : Hp} (S : Sim L K f h H) {n : Nat} {ad : Addr} {cl : Str} {fs : List (Str × Val)} (e : f n = some ad) (q : h[n]? = some (.ins cl fs)) : ∃ dx gs, H ad = some (.ins (L.C cl) dx gs) ∧ RFs L K f H fs gs := by
  obtain ⟨o, q', r⟩ := S.at_ n ad e
  rw [q] at q'; cases q'
  exact r
theorem flds_of {C : ClD} {x : Str} (h : C.flds.contains x = true) : x ∈ C.flds := by simpa using h
/-- e.x -/
theorem s_attr {x : Str} (ha : PE X a (GoodE L X.K W da)) (CF : ∀ c C, Γ.cls.lookup c = some C → ClF L X.K c C) (PF : ∀ c C g, Γ.cls.lookup c = some C → C.props.lookup x = some g → ∃ D, FnF L X.prog X.w X.K X.mg X.base k Γ call g D ∧ D.ps.length = 1 ∧ (g, 1, []) ∈ Γ.shapes ∧ ∃ sel, bindV D 1 [] = some sel) (hr : Room (k + 1) X.A)
    (hab : attributeBase a x X.env (eval a X.env) = eval a X.env) : PE X (.Attribute a x pos) (GoodE L X.K W (eAttr Γ call x da)) := by
  refine ⟨fun pins s σ H Q I ⟨f, ρ, h, S, E, p⟩ => ?_⟩
  have q := PostG.bind (R := RV L X.K) p
  have other : (∀ v h1, da ρ h = .ok v h1 → False) → wpAny (model X.prog X.w) X.A (eval (.Attribute a x pos) X.env) (EP X pins σ Q) X.xe s := fun no => by
    refine (pe_fld ha hab).run pins s σ H Q I ⟨f, ρ, h, S, E, q.imp fun v' H1 ⟨f1, v, h1, e1, _⟩ => absurd e1 (fun z => no _ _ z)⟩
  cases e : da ρ h with
  | bad => exact other fun v h1 z => by rw [e] at z; cases z
  | exc c fs h1 => exact other fun v h1 z => by rw [e] at z; cases z
  | ok v h1 =>
    have p0 : PostG L X.K (RV L X.K) W f σ H Q (attrOf Γ call x v h1) := by
      unfold eAttr e1 at p
      rw [e] at p
      exact p
    cases v with
    | ref n =>
      cases eo : h1[n]? with
      | none => simp only [attrOf, eo] at p0; exact absurd p0 id
      | some o =>
        cases o with
        | lst xs => simp only [attrOf, eo] at p0; exact absurd p0 id
        | rol xs => simp only [attrOf, eo] at p0; exact absurd p0 id
        | ins cl fs =>
          cases ec : Γ.cls.lookup cl with
          | none => simp only [attrOf, eo, ec] at p0; exact absurd p0 id
          | some C =>
            have cf := CF cl C ec
            cases ep : C.props.lookup x with
            | some g =>
              obtain ⟨D, F, hl1, hsh, sel, hb⟩ := PF cl C g ec ep
              obtain ⟨fd, Fo, Sh⟩ := F.ex
              obtain ⟨_, bb⟩ := Sh _ _ _ hsh hb
              obtain ⟨pq, pr⟩ := cf.pr (x, g) (PySem.mem_of_lookup ep)
              refine (pe_prop ha cf.cl pr Fo hr (bb rfl hl1.symm) .nil passL hab).run pins s σ H Q I ⟨f, ρ, h, S, E, ?_⟩
              rw [e]
              intro f1 H1 v' X1 S1 R1
              obtain ⟨ad, ea, rfl⟩ := rv_ref R1
              obtain ⟨dx, gs, hi, rf⟩ := S1.ins ea eo
              refine ⟨ad, dx, gs, rfl, hi, ?_⟩
              simp only [attrOf, eo, ec, ep] at p0
              have p1 := PostG.ext (Res.shut_post p0) X1
              exact sp_of (W := WF) (σ := σ) S1 (RVs.cons R1 RVs.nil) (by rw [hl1]; rfl) p1
            | none =>
              refine (pe_fld ha hab).run pins s σ H Q I ⟨f, ρ, h, S, E, ?_⟩
              rw [e]
              intro f1 H1 v' X1 S1 R1
              obtain ⟨ad, ea, rfl⟩ := rv_ref R1
              obtain ⟨dx, gs, hi, rf⟩ := S1.ins ea eo
              simp only [attrOf, eo, ec, ep] at p0
              split at p0
              · rename_i hf
                cases el : fs.lookup x with
                | none => rw [el] at p0; exact absurd p0 id
                | some v =>
                  rw [el] at p0
                  obtain ⟨w, l1, l2⟩ := (rf_get (x := x) rf).1 v el
                  exact ⟨ad, _, dx, gs, w, rfl, hi, cf.cl, cf.no x (flds_of hf), l1, p0 f1 H1 w X1 S1 l2⟩
              · exact absurd p0 id
    | non => simp only [attrOf] at p0; exact absurd p0 id
    | bl _ => simp only [attrOf] at p0; exact absurd p0 id
    | int _ => simp only [attrOf] at p0; exact absurd p0 id
    | str _ => simp only [attrOf] at p0; exact absurd p0 id
    | tup _ => simp only [attrOf] at p0; exact absurd p0 id
    | fn _ => simp only [attrOf] at p0; exact absurd p0 id
theorem setAttr_ok {f : Nm} {h : Mem} {H : Hp} {σ : L2.St} {x : Str} {o v : Val} {o' v' : V} {Q : V → Hp → Prop} (CF : ∀ c C, Γ.cls.lookup c = some C → ClF L X.K c C) (S : Sim L X.K f h H) (ro : RV L X.K f H o o') (rv : RV L X.K f H v v')
    (p : PostG L X.K (RV L X.K) W f σ H Q (setAttrM Γ x o v h)) : ∃ ad C dx fs, o' = .ref ad ∧ H ad = some (.ins C dx fs) ∧ Cls X.K C ∧ NoAttr X.K C x ∧ fs.length < 1000 ∧ Q .non (upd H ad (.ins C dx (putF x v' fs))) := by
  cases o with
  | ref n =>
    obtain ⟨ad, ea, rfl⟩ := rv_ref ro
    simp only [setAttrM] at p
    cases eo : h[n]? with
    | none => rw [eo] at p; exact absurd p id
    | some ob =>
      rw [eo] at p
      cases ob with
      | lst xs => exact absurd p id
      | rol xs => exact absurd p id
      | ins cl fs =>
        dsimp only at p
        cases ec : Γ.cls.lookup cl with
        | none => rw [ec] at p; exact absurd p id
        | some C =>
          rw [ec] at p
          have cf := CF cl C ec
          dsimp only at p
          split at p
          · rename_i hz
            rw [Bool.and_eq_true] at hz
            obtain ⟨dx, gs, hi, rf⟩ := S.ins ea eo
            have hlen : fs.length = gs.length := by
              have := congrArg List.length rf.1
              simpa using this
            refine ⟨ad, _, dx, gs, rfl, hi, cf.cl, cf.no x (flds_of hz.1), by rw [← hlen]; exact of_decide_eq_true hz.2, ?_⟩
            have xx := ext_upd (o := .ins (L.C cl) dx (putF x v' gs)) ea hi
            have rp := rf_put (x := x) rv rf
            exact p f _ .non xx (S.wr ea hi ⟨dx, _, upd_same, rp.1, rp.2.mono S xx⟩) mk_non
          · exact absurd p id
  | _ => simp only [setAttrM] at p; exact absurd p id
theorem st_setAttr {x : Str} {tp : Pos} (CF : ∀ c C, Γ.cls.lookup c = some C → ClF L X.K c C) (ha : PE X a (GoodE L X.K W da)) (hb : PE X b (GoodE L X.K W db)) (hs : swapsWith b (some (.Attribute a x tp)) pos.line X.env = pure false) :
    PS X (.Assign [.Attribute a x tp] b pos) (GoodS L X.K W (sSetAttr Γ x da db)) := by
  refine psImp (ps_fld ha hb hs) fun D σ H ⟨f, ρ, h, S, E, p⟩ => ?_
  refine ⟨f, ρ, h, S, E, (PostS.onE (R := RV L X.K) E S p).imp fun v' H1 ⟨f1, v, h1, e1, X1, S1, E1, R1, p1⟩ => ?_⟩
  refine ⟨f1, ρ, h1, S1, E1, (PostS.onE (R := RV L X.K) E1 S1 p1).imp fun o' H2 ⟨f2, o, h2, e2, X2, S2, E2, R2, p2⟩ => ?_⟩
  refine setAttr_ok (W := W) (σ := σ) (Q := fun _ H3 => D.nx σ H3) CF S2 R2 (R1.mono S1 X2) ?_
  exact (PostS.onE (R := RV L X.K) E2 S2 p2).imp fun v' H4 ⟨f4, v4, h4, e4, X4, S4, E4, R4, p4⟩ => p4 f4 H4 σ (Ext.refl _ _) S4 E4
theorem st_augAttr {x : Str} {op : Operator} {tp : Pos} (CF : ∀ c C, Γ.cls.lookup c = some C → ClF L X.K c C) (ha : PE X a (GoodE L X.K W da)) (hb : PE X b (GoodE L X.K W db)) :
    PS X (.AugAssign (.Attribute a x tp) op b pos) (GoodS L X.K W (sAugAttr Γ x da op db)) := by
  refine psImp (ps_fldaug ha hb (rd := ipV L X.K op) (fun pins s σ H x y u v Q I r1 r2 q => ipV_ok op pins s σ H x y u v Q I r1 r2 q)) fun D σ H ⟨f, ρ, h, S, E, p⟩ => ?_
  refine ⟨f, ρ, h, S, E, (PostS.onE (R := RV L X.K) E S p).imp fun o' H1 ⟨f1, o, h1, e1, X1, S1, E1, R1, p1⟩ => ?_⟩
  cases o with
  | ref n =>
    obtain ⟨ad, ea, rfl⟩ := rv_ref R1
    dsimp only at p1
    cases eo : h1[n]? with
    | none => rw [eo] at p1; exact absurd p1 id
    | some ob =>
      rw [eo] at p1
      cases ob with
      | lst xs => exact absurd p1 id
      | rol xs => exact absurd p1 id
      | ins cl fs =>
        dsimp only at p1
        cases ec : Γ.cls.lookup cl with
        | none => rw [ec] at p1; exact absurd p1 id
        | some C =>
          rw [ec] at p1
          have cf := CF cl C ec
          dsimp only at p1
          split at p1
          · rename_i hz
            obtain ⟨dx, gs, hi, rf⟩ := S1.ins ea eo
            cases el : fs.lookup x with
            | none => rw [el] at p1; exact absurd p1 id
            | some v =>
              rw [el] at p1
              dsimp only at p1
              obtain ⟨w, l1, l2⟩ := (rf_get (x := x) rf).1 v el
              refine ⟨ad, _, dx, gs, w, rfl, hi, cf.cl, cf.no x (flds_of hz), l1, ?_⟩
              refine ⟨f1, ρ, h1, S1, E1, (PostS.onE (R := RV L X.K) E1 S1 p1).imp fun y' H2 ⟨f2, y, h2, e2, X2, S2, E2, R2, p2⟩ => ?_⟩
              refine ⟨f2, h2, v, y, S2, l2.mono S1 X2, R2, ((PostS.onE (R := RV L X.K) E2 S2 p2).nox (augop_nox _ _ _ _)).imp fun z' H3 ⟨f3, z, h3, e3, X3, S3, E3, R3, p3⟩ => ?_⟩
              have ea3 : f3 n = some ad := X3.le n ad (X2.le n ad ea)
              cases eo3 : h3[n]? with
              | none => rw [eo3] at p3; exact absurd p3 id
              | some ob3 =>
                rw [eo3] at p3
                cases ob3 with
                | lst xs => exact absurd p3 id
                | rol xs => exact absurd p3 id
                | ins c3 fs3 =>
                  dsimp only at p3
                  split at p3
                  · rename_i hy
                    obtain ⟨rfl, hy⟩ := hy
                    obtain ⟨dx3, gs3, hi3, rf3⟩ := S3.ins ea3 eo3
                    have hlen : fs3.length = gs3.length := by
                      have := congrArg List.length rf3.1
                      simpa using this
                    refine ⟨dx3, gs3, hi3, by rw [← hlen]; exact hy, ?_⟩
                    have xx := ext_upd (o := .ins (L.C c3) dx3 (putF x z' gs3)) ea3 hi3
                    have rp := rf_put (x := x) R3 rf3
                    exact p3 f3 _ σ xx (S3.wr ea3 hi3 ⟨dx3, _, upd_same, rp.1, rp.2.mono S3 xx⟩) (E3.mono S3 xx)
                  · exact absurd p3 id
          · exact absurd p1 id
  | _ => dsimp only at p1; exact absurd p1 id
end
end Mp
set_option Elab.async false
set_option linter.all false
set_option maxRecDepth 100000
set_option maxHeartbeats 1000000
namespace Mp
open PySem PySem.Spec PyProof.Rows L2
section
variable {L : Lk} {X : Cx} {W : WX} {pos : Pos} {a b c o : Expr} {da db dc do_ : ME} {Γ : Pg} {call : CallT} {k : Nat} {es : List Expr} {kws : List Keyword} {das dks : MA}
/-! ### C(..) -/
theorem dropNon_ok {K : PySem.W.Frag} {f f' : Nm} {H H' : Hp} {σ : L2.St} {Q : VK} {r : Res Val} {n : Nat} {x : Addr} (xx : Ext f f' H H') (en : f' n = some x) (p : PostG L K (RV L K) W f σ H Q (dropNon r (.ref n))) :
    PostG L K (RV L K) W f' σ H' (fun v H2 => v = .non ∧ Q (.ref x) H2) r := by
  cases r with
  | ok v h =>
    cases v with
    | non =>
      intro f2 H2 v' X2 S2 R2
      exact ⟨rv_non R2, p f2 H2 _ (xx.trans X2) S2 (mk_ref (X2.le _ _ en))⟩
    | _ => exact absurd p id
  | exc c fs h => exact fun f2 H2 cls d X2 S2 rx => p f2 H2 cls d (xx.trans X2) S2 rx
  | bad => exact p
theorem s_make {cl : Str} {C : ClD} {D : FnD} {sel : List Src} {p : Pos} (tk : Takes X W) (cf : ClF L X.K cl C) (F : FnF L X.prog X.w X.K X.mg X.base k Γ call C.init D) (hr : Room (k + 1) X.A) (hg : Gl X cl) (hm : X.mg cl = some (.ref (L.C cl))) (hdb : (cl == ("__debug__" : Str)) = false)
    (ha : PA X es (GoodA L X.K W das)) (hkw : PK X kws (GoodA L X.K W dks)) (hst : es.all noStar = true) (hnm : kws.all (·.arg.isSome) = true) (hz : es = [] → das = aNil) (hz2 : kws = [] → dks = aNil)
    (hl : ∀ ρ h us h', das ρ h = .ok us h' → us.length = es.length) (hl2 : ∀ ρ h us h', dks ρ h = .ok us h' → us.length = kws.length)
    (hsh : (C.init, es.length + 1, kws.filterMap (·.arg)) ∈ Γ.shapes) (hb : bindV D (es.length + 1) (kws.filterMap (·.arg)) = some sel) (hkl : (kws.filterMap (·.arg)).length = kws.length) :
    PE X (.Call (.Name cl p) es kws pos) (GoodE L X.K W (eMake (call C.init) cl sel das dks)) := by
  refine ⟨fun pins s σ H Q I ⟨f, ρ, h, S, E, pp⟩ => ?_⟩
  refine wpAny_Call_Name_kw (ld_glob I hg hm ?_ hdb)
  obtain ⟨fd, Fo, Sh⟩ := F.ex
  obtain ⟨⟨gg, gV, kb, rel⟩, _⟩ := Sh _ _ _ hsh hb
  refine call_args (L := L) (W := W) cf.mak.kp ha hkw hst hnm hz hz2 I ⟨f, ρ, h, S, E, (PostG.bind (R := RVs L X.K) pp).imp fun vs H1 ⟨f1, us, h1, e1, X1, S1, R1, p1⟩ => ?_⟩
  refine ⟨f1, ρ, h1, S1, E.mono S X1, (PostG.bind (R := RVs L X.K) p1).imp fun zs H2 ⟨f2, ws, h2, e2, X2, S2, R2, p2⟩ => ?_⟩
  intro s2 uu ww I2 ru rw'
  have l1 := hl _ _ _ _ e1
  have l2 := hl2 _ _ _ _ e2
  have R1' := R1.mono S1 X2
  refine run_makeN (us := uu) (ws := ww) cf.mak Fo hr kb (passAt tk σ) I2 ru rw' (by rw [← R1'.length, l1]) (by rw [← R2.length, l2, hkl]) ?_
  intro x dx hx hdx ne
  unfold mkI at p2
  cases es2 : selV (.ref h2.length :: us) ws sel with
  | none => rw [es2] at p2; exact absurd p2 id
  | some ts =>
    rw [es2] at p2
    dsimp only at p2
    have hx1 : upd H2 dx (.own x) x = none := by rw [upd_ne (Ne.symm ne)]; exact hx
    have S3 := S2.out (o := .own x) hdx
    have S4 := S3.alloc (o := .ins (L.C cl) dx []) (ob := .ins cl []) hx1 ⟨dx, [], upd_same, rfl, RVs.nil⟩
    have X4 : Ext f2 (put f2 h2.length x) H2 (upd (upd H2 dx (.own x)) x (.ins (L.C cl) dx [])) := (ext_new hdx).trans (ext_put S3 hx1)
    have Rself : RVs L X.K (put f2 h2.length x) (upd (upd H2 dx (.own x)) x (.ins (L.C cl) dx [])) (.ref h2.length :: us) (.ref x :: vs) := RVs.cons (mk_ref put_same) (R1'.mono S2 X4)
    have RR := rel _ _ (.ref h2.length :: us) ws (.ref x :: vs) zs ts Rself (R2.mono S2 X4) (by rw [List.length_cons, l1]) (by rw [l2, hkl]) es2
    exact sp_of S4 RR (by rw [selV_len es2, bindGo_len hb]) (dropNon_ok X4 put_same p2)
/-! ### o.m(..) -/
theorem meth_tree {m : Str} {apos : Pos} (hb : attributeBase o m X.env (eval o X.env) = eval o X.env) (hf : methodCallForm (es.length + kws.length) (backTo pos (starEach es X.env)) (backToKw pos (keywordEach kws X.env)) = true) (hl : (apos.endLine == pos.line) = true) :
    eval (.Call (.Attribute o m apos) es kws pos) X.env = (do
      let ov ← eval o X.env
      standAt apos.atName
      let (f, first) ← holding [ov] (getMethod ov m (do return (← importBound o X.env).getD true))
      callWith pos f first (backTo pos (starEach es X.env)) (backToKw pos (keywordEach kws X.env))) := by
  rw [arm_eval_Call, hb]
  simp only [methodCall, calleeOf, hf, if_true, methodCallPos, hl, Bool.not_true, Bool.false_or, pure_bind]
theorem star_all {env : PySem.Env} {pos : Pos} : ∀ {es : List Expr}, es.all noStar = true → (backTo pos (starEach es env)).all (!·.1) = true
  | [], _ => rfl
  | e :: es, h => by
    simp only [List.all_cons, Bool.and_eq_true] at h
    rw [star_cons h.1]
    show (true && (backTo pos (starEach es env)).all (!·.1)) = true
    rw [star_all h.2]
    rfl
theorem few_ok (hst : es.all noStar = true) (hnm : kws.all (·.arg.isSome) = true) (hn : es.length + kws.length + 1 < 30) : methodCallForm (es.length + kws.length) (backTo pos (starEach es X.env)) (backToKw pos (keywordEach kws X.env)) = true := by
  unfold methodCallForm
  rw [star_all hst, (kw_all hnm).1]
  simp only [Bool.and_self, Bool.true_and, decide_eq_true_eq]
  split <;> omega
/-- what a list's method asks -/
def rLm (L : Lk) (K : PySem.W.Frag) (m : Lm) : V → List V → Hp → VK → Prop := fun x xs' H Q => ∃ f h n ad us, x = .ref ad ∧ f n = some ad ∧ Sim L K f h H ∧ RVs L K f H us xs' ∧ PostG L K (RV L K) WF f [] H Q (lmRun m n us h)
def Lm.id : Lm → String
  | .append => "list.append"
  | .extend => "list.extend"
  | .pop => "list.pop"
  | .clear => "list.clear"
  | .reverse => "list.reverse"
theorem RVs.zero {K : PySem.W.Frag} {f : Nm} {H : Hp} {vs : List V} (r : RVs L K f H [] vs) : vs = [] := by unfold RVs at r; exact r
theorem lmRun_nox (m : Lm) (n : Nat) (us : List Val) (h : Mem) : NoX (lmRun m n us h) := by
  unfold lmRun
  split
  · split <;> (try split) <;> (try split) <;> exact True.intro
  · exact True.intro
theorem lm_ok (m : Lm) : MtR X m.id (rLm L X.K m) := by
  intro pins s σ H x' xs' v us Q I rx rv ⟨f, h, n, ad, us', ex, ea, S, R, p⟩
  subst ex
  unfold lmRun at p
  split at p
  · rename_i xs q
    obtain ⟨vs, hv, rvs⟩ := S.lst ea q
    split at p
    · split at p
      · rename_i y hz
        obtain ⟨y', rfl, ry⟩ := R.one
        refine mt_append pins s σ H _ _ v us Q I rx rv ⟨ad, vs, y', rfl, rfl, hv, by rw [← rvs.length]; exact hz, ?_⟩
        have xx := ext_upd (o := .lst (vs ++ [y'])) ea hv
        exact p f _ _ xx (S.wr ea hv ⟨_, upd_same, (rvs.append (RVs.cons ry RVs.nil)).mono S xx⟩) mk_non
      · exact absurd p id
    · split at p
      · rename_i bb zs qb
        split at p
        · rename_i hz
          obtain ⟨y', rfl, ry⟩ := R.one
          obtain ⟨ab, eb, rfl⟩ := rv_ref ry
          obtain ⟨ws, hw, rws⟩ := S.lst eb qb
          refine mt_extend pins s σ H _ _ v us Q I rx rv ⟨ad, ab, vs, ws, rfl, rfl, hv, hw, by rw [← rvs.length, ← rws.length]; exact hz, ?_⟩
          have xx := ext_upd (o := .lst (vs ++ ws)) ea hv
          exact p f _ _ xx (S.wr ea hv ⟨_, upd_same, (rvs.append rws).mono S xx⟩) mk_non
        · exact absurd p id
      · exact absurd p id
    · split at p
      · rename_i y ey
        obtain rfl := R.zero
        obtain ⟨y', q1, q2⟩ := rvs.get ey
        rw [rvs.length] at q1
        refine mt_pop pins s σ H _ _ v us Q I rx rv ⟨ad, vs, y', rfl, rfl, hv, q1, ?_⟩
        have xx := ext_upd (o := .lst vs.dropLast) ea hv
        exact p f _ _ xx (S.wr ea hv ⟨_, upd_same, rvs.dropLast.mono S xx⟩) (q2.mono S xx)
      · exact absurd p id
    · split at p
      · rename_i i _ kk ek
        split at p
        · rename_i y ey
          obtain ⟨i', rfl, ri⟩ := R.one
          obtain rfl := rv_int ri
          obtain ⟨y', q1, q2⟩ := rvs.get ey
          obtain ⟨h1, h2, h3, h4⟩ := ixN_seq ek
          have hz := (I.lst hv)
          obtain ⟨_, _, _, _, hzz⟩ := hz
          have hn := line63
          rw [rvs.length] at h1 h2 h3 h4
          refine mt_popAt pins s σ H _ _ v us Q I rx rv ⟨ad, vs, i, kk, y', rfl, rfl, hv, by omega, by omega, h1, q1, ?_⟩
          have xx := ext_upd (o := .lst (vs.eraseIdx kk)) ea hv
          exact p f _ _ xx (S.wr ea hv ⟨_, upd_same, (rvs.eraseIdx kk).mono S xx⟩) (q2.mono S xx)
        · exact absurd p id
      · exact absurd p id
    · obtain rfl := R.zero
      refine mt_clear pins s σ H _ _ v us Q I rx rv ⟨ad, vs, rfl, rfl, hv, ?_⟩
      have xx := ext_upd (o := .lst []) ea hv
      exact p f _ _ xx (S.wr ea hv ⟨_, upd_same, RVs.nil⟩) mk_non
    · obtain rfl := R.zero
      refine mt_reverse pins s σ H _ _ v us Q I rx rv ⟨ad, vs, rfl, rfl, hv, ?_⟩
      have xx := ext_upd (o := .lst vs.reverse) ea hv
      exact p f _ _ xx (S.wr ea hv ⟨_, upd_same, rvs.reverse.mono S xx⟩) mk_non
    · exact absurd p id
  · exact absurd p id
theorem lm_pe {m : Str} {lm : Lm} {apos : Pos} {e : Expr} (hm : lmOf m = some lm) (ho : PE X o (GoodE L X.K W do_)) (ha : PA X (e :: es) (GoodA L X.K W das)) (hbase : attributeBase o m X.env (eval o X.env) = eval o X.env) (hst : (e :: es).all noStar = true) (hn : (e :: es).length + 1 < 30) (hline : (apos.endLine == pos.line) = true) :
    PE X (.Call (.Attribute o m apos) (e :: es) [] pos) (tBM X.K "list" (rLm L X.K lm) (GoodE L X.K W do_) (GoodA L X.K W das)) := by
  have hfew := few_ok (X := X) (pos := pos) (es := e :: es) (kws := []) hst rfl (by simpa using hn)
  simp only [List.all_cons, Bool.and_eq_true] at hst
  have h1 := star_cons (es := es) (env := X.env) hst.1
  have h2 := star_any (env := X.env) (pos := pos) hst.2
  have mm := PySem.mem_of_lookup hm
  simp only [lmTab, List.mem_cons, Prod.mk.injEq, List.not_mem_nil, or_false] at mm
  rcases mm with ⟨rfl, rfl⟩ | ⟨rfl, rfl⟩ | ⟨rfl, rfl⟩ | ⟨rfl, rfl⟩ | ⟨rfl, rfl⟩
  · exact pe_bm PySem.F.plainAttrs_list PySem.F.slot_list_append PySem.F.type_list_append (lm_ok .append) ho ha hbase hfew hline h1 h2
  · exact pe_bm PySem.F.plainAttrs_list PySem.F.slot_list_extend PySem.F.type_list_extend (lm_ok .extend) ho ha hbase hfew hline h1 h2
  · exact pe_bm PySem.F.plainAttrs_list PySem.F.slot_list_pop PySem.F.type_list_pop (lm_ok .pop) ho ha hbase hfew hline h1 h2
  · exact pe_bm PySem.F.plainAttrs_list PySem.F.slot_list_clear PySem.F.type_list_clear (lm_ok .clear) ho ha hbase hfew hline h1 h2
  · exact pe_bm PySem.F.plainAttrs_list PySem.F.slot_list_reverse PySem.F.type_list_reverse (lm_ok .reverse) ho ha hbase hfew hline h1 h2
theorem lm_pe0 {m : Str} {lm : Lm} {apos : Pos} (hm : lmOf m = some lm) (ho : PE X o (GoodE L X.K W do_)) (hbase : attributeBase o m X.env (eval o X.env) = eval o X.env) (hline : (apos.endLine == pos.line) = true) :
    PE X (.Call (.Attribute o m apos) [] [] pos) (tBM0 X.K "list" (rLm L X.K lm) (GoodE L X.K W do_)) := by
  have mm := PySem.mem_of_lookup hm
  simp only [lmTab, List.mem_cons, Prod.mk.injEq, List.not_mem_nil, or_false] at mm
  rcases mm with ⟨rfl, rfl⟩ | ⟨rfl, rfl⟩ | ⟨rfl, rfl⟩ | ⟨rfl, rfl⟩ | ⟨rfl, rfl⟩
  · exact pe_bm0 PySem.F.plainAttrs_list PySem.F.slot_list_append PySem.F.type_list_append (lm_ok .append) ho hbase hline
  · exact pe_bm0 PySem.F.plainAttrs_list PySem.F.slot_list_extend PySem.F.type_list_extend (lm_ok .extend) ho hbase hline
  · exact pe_bm0 PySem.F.plainAttrs_list PySem.F.slot_list_pop PySem.F.type_list_pop (lm_ok .pop) ho hbase hline
  · exact pe_bm0 PySem.F.plainAttrs_list PySem.F.slot_list_clear PySem.F.type_list_clear (lm_ok .clear) ho hbase hline
  · exact pe_bm0 PySem.F.plainAttrs_list PySem.F.slot_list_reverse PySem.F.type_list_reverse (lm_ok .reverse) ho hbase hline
end
end Mp
set_option Elab.async false
set_option linter.all false
set_option maxRecDepth 100000
set_option maxHeartbeats 1000000
namespace Mp
open PySem PySem.Spec PyProof.Rows L2
section
variable {L : Lk} {X : Cx} {W : WX} {pos : Pos} {a b c o : Expr} {da db dc do_ : ME} {Γ : Pg} {call : CallT} {k : Nat} {es : List Expr} {kws : List Keyword} {das dks : MA}
theorem s_meth {m : Str} {apos : Pos} (tk : Takes X W) (CF : ∀ c C, Γ.cls.lookup c = some C → ClF L X.K c C) (MF : ∀ g D, Γ.fns.lookup g = some D → FnF L X.prog X.w X.K X.mg X.base k Γ call g D) (hr : Room k X.A) (ho : PE X o (GoodE L X.K W do_))
    (ha : PA X es (GoodA L X.K W das)) (hkw : PK X kws (GoodA L X.K W dks)) (hst : es.all noStar = true) (hnm : kws.all (·.arg.isSome) = true) (hz : es = [] → das = aNil) (hz2 : kws = [] → dks = aNil)
    (hl : ∀ ρ h us h', das ρ h = .ok us h' → us.length = es.length) (hl2 : ∀ ρ h us h', dks ρ h = .ok us h' → us.length = kws.length) (hkl : (kws.filterMap (·.arg)).length = kws.length)
    (hbase : attributeBase o m X.env (eval o X.env) = eval o X.env) (hn : es.length + kws.length + 1 < 30) (hline : (apos.endLine == pos.line) = true) :
    PE X (.Call (.Attribute o m apos) es kws pos) (GoodE L X.K W (eMeth Γ call m es.length (kws.filterMap (·.arg)) do_ das dks)) := by
  refine ⟨fun pins s σ H Q I ⟨f, ρ, h, S, E, p⟩ => ?_⟩
  have tree := meth_tree (X := X) (o := o) (m := m) (apos := apos) (pos := pos) (es := es) (kws := kws) hbase (few_ok hst hnm hn) hline
  have q := PostG.bind (R := RV L X.K) p
  have other : (∀ v h1, do_ ρ h = .ok v h1 → False) → wpAny (model X.prog X.w) X.A (eval (.Call (.Attribute o m apos) es kws pos) X.env) (EP X pins σ Q) X.xe s := fun no => by
    refine PySem.W.methodCall_KW (pl := do return (← importBound o X.env).getD true) (thn (ho.run pins s σ H (fun _ _ => False) I ⟨f, ρ, h, S, E, q.imp fun v' H1 ⟨f1, v, h1, e1, _⟩ => absurd e1 (fun z => no _ _ z)⟩) fun u s1 ⟨x, H1, I1, rx, z⟩ => z.elim) tree
  cases e : do_ ρ h with
  | bad => exact other fun v h1 z => by rw [e] at z; cases z
  | exc c fs h1 => exact other fun v h1 z => by rw [e] at z; cases z
  | ok v h1 =>
    have p0 : PostG L X.K (RV L X.K) W f σ H Q (methBy Γ call m es.length (kws.filterMap (·.arg)) das dks ρ v h1) := by
      unfold eMeth at p
      rw [e] at p
      exact p
    cases v with
    | ref n =>
      cases eo : h1[n]? with
      | none => simp only [methBy, eo] at p0; exact absurd p0 id
      | some ob =>
        cases ob with
        | rol xs => simp only [methBy, eo] at p0; exact absurd p0 id
        | ins cl fs =>
          simp only [methBy, eo] at p0
          cases ec : Γ.cls.lookup cl with
          | none => rw [ec] at p0; exact absurd p0 id
          | some C =>
            rw [ec] at p0
            dsimp only at p0
            have cf := CF cl C ec
            cases em : C.meths.lookup m with
            | none => rw [em] at p0; exact absurd p0 id
            | some g =>
              rw [em] at p0
              dsimp only at p0
              split at p0
              · rename_i hfn
                have hfn : fs.lookup m = none := by simpa using hfn
                have me := cf.me (m, g) (PySem.mem_of_lookup em)
                refine PySem.W.methodCall_KW (pl := do return (← importBound o X.env).getD true) (thn (ho.run pins s σ H (fun v' H1 => ∃ f1, Ext f f1 H H1 ∧ Sim L X.K f1 h1 H1 ∧ RV L X.K f1 H1 (.ref n) v') I ⟨f, ρ, h, S, E, by rw [e]; exact fun f1 H1 v' X1 S1 R1 => ⟨f1, X1, S1, R1⟩⟩) fun u s1 ⟨x, H1, I1, rx, f1, X1, S1, R1⟩ => ?_) tree
                obtain ⟨ad, ea, rfl⟩ := rv_ref R1
                obtain rfl : u = Value.ref ad := rx
                obtain ⟨dx, gs, hi, rf⟩ := S1.ins ea eo
                refine getmeth_ok I1 hi cf.cl me ((rf_get (x := m) rf).2 hfn) ?_
                have p1 := PostG.ext p0 X1
                have E1 := E.mono S X1
                refine call_args (L := L) (W := W) (first := [.ref ad]) me.kp ha hkw hst hnm hz hz2 I1 ⟨f1, ρ, h1, S1, E1, (PostG.bind (R := RVs L X.K) p1).imp fun vs H2 ⟨f2, us, h2, e2, X2, S2, R2, p2⟩ => ?_⟩
                refine ⟨f2, ρ, h2, S2, E1.mono S1 X2, (PostG.bind (R := RVs L X.K) p2).imp fun zs H3 ⟨f3, ws, h3, e3, X3, S3, R3, p3⟩ => ?_⟩
                intro s3 uu ww I3 ru rw'
                unfold callBy at p3
                cases eD : Γ.fns.lookup g with
                | none => rw [eD] at p3; exact absurd p3 id
                | some D =>
                  rw [eD] at p3
                  dsimp only at p3
                  split at p3
                  · rename_i hsh
                    have hsh := of_decide_eq_true hsh
                    cases hb : bindV D (es.length + 1) (kws.filterMap (·.arg)) with
                    | none => rw [hb] at p3; exact absurd p3 id
                    | some sel =>
                      rw [hb] at p3
                      dsimp only at p3
                      cases es2 : selV (.ref n :: us) ws sel with
                      | none => rw [es2] at p3; exact absurd p3 id
                      | some ts =>
                        rw [es2, Res.opt_some, Res.bind_ok] at p3
                        obtain ⟨fd, Fo, Sh⟩ := (MF g D eD).ex
                        obtain ⟨⟨gg, gV, kb, rel⟩, _⟩ := Sh _ _ _ hsh hb
                        have l1 := hl _ _ _ _ e2
                        have l2 := hl2 _ _ _ _ e3
                        have R0 := (R1.mono S1 X2).mono S2 X3
                        have R2' := R2.mono S2 X3
                        have RR := rel f3 H3 (.ref n :: us) ws (.ref ad :: vs) zs ts (RVs.cons R0 R2') R3 (by rw [List.length_cons, l1]) (by rw [l2, hkl]) es2
                        refine run_shape (us := .ref ad :: uu) (ws := ww) (vs := .ref ad :: vs) Fo hr kb (passAt tk σ) I3 (.cons rfl ru) rw' (by rw [List.length_cons, ← R2'.length, l1]) (by rw [← R3.length, l2, hkl]) ?_
                        exact sp_of S3 RR (by rw [selV_len es2, bindGo_len hb]) p3
                  · exact absurd p3 id
              · exact absurd p0 id
        | lst xs =>
          simp only [methBy, eo] at p0
          cases em : lmOf m with
          | none => rw [em] at p0; exact absurd p0 id
          | some lm =>
            rw [em] at p0
            cases ek : kws.filterMap (·.arg) with
            | cons k1 kr => rw [ek] at p0; exact absurd p0 id
            | nil =>
              rw [ek] at p0
              dsimp only at p0
              have hk0 : kws = [] := List.eq_nil_of_length_eq_zero (by rw [← hkl, ek]; rfl)
              subst hk0
              cases es with
              | nil =>
                refine (lm_pe0 (L := L) (W := W) em ho hbase hline).run pins s σ H Q I ⟨f, ρ, h, S, E, ?_⟩
                rw [e]
                intro f1 H1 v' X1 S1 R1
                obtain ⟨ad, ea, rfl⟩ := rv_ref R1
                obtain ⟨vs, hv, rvs⟩ := S1.lst ea eo
                have hd : das = aNil := hz rfl
                subst hd
                exact ⟨.inl ⟨rfl, vs, SqL.of hv⟩, f1, h1, n, ad, [], rfl, ea, S1, RVs.nil, (PostG.ext (r := lmRun lm n [] h1) p0 X1).nox (lmRun_nox _ _ _ _)⟩
              | cons e1 es =>
                refine (lm_pe (L := L) (W := W) em ho ha hbase hst (by simpa using hn) hline).run pins s σ H Q I ⟨f, ρ, h, S, E, ?_⟩
                rw [e]
                intro f1 H1 v' X1 S1 R1
                obtain ⟨ad, ea, rfl⟩ := rv_ref R1
                obtain ⟨vs, hv, rvs⟩ := S1.lst ea eo
                refine ⟨.inl ⟨rfl, vs, SqL.of hv⟩, f1, ρ, h1, S1, E.mono S X1, (PostG.bind (R := RVs L X.K) (PostG.ext p0 X1)).imp fun xs' H2 ⟨f2, us, h2, e2, X2, S2, R2, p2⟩ => ?_⟩
                exact ⟨f2, h2, n, ad, us, rfl, X2.le _ _ ea, S2, R2, p2.nox (lmRun_nox _ _ _ _)⟩
    | non => simp only [methBy] at p0; exact absurd p0 id
    | bl _ => simp only [methBy] at p0; exact absurd p0 id
    | int _ => simp only [methBy] at p0; exact absurd p0 id
    | str _ => simp only [methBy] at p0; exact absurd p0 id
    | tup _ => simp only [methBy] at p0; exact absurd p0 id
    | fn _ => simp only [methBy] at p0; exact absurd p0 id
/-! ### isinstance -/
theorem ty_ok {K : PySem.W.Frag} {f : Nm} {h : Mem} {H : Hp} (S : Sim L K f h H) {v : Val} {v' : V} {t : String} (r : RV L K f H v v') (e : tyOf h v = some t) : TyX K H v' (.type t) ∧ t ∈ ["NoneType", "bool", "int", "str", "tuple", "list"] := by
  cases v with
  | non => obtain rfl := rv_non r; cases e; exact ⟨.base .non, by simp⟩
  | bl x => obtain rfl := rv_bl r; cases e; exact ⟨.base (.bl x), by simp⟩
  | int x => obtain rfl := rv_int r; cases e; exact ⟨.base (.int x), by simp⟩
  | str x => obtain rfl := rv_str r; cases e; exact ⟨.base (.str x), by simp⟩
  | tup ts =>
    cases e
    obtain ⟨ad, vs, rfl, sa, ra⟩ := rv_tup r
    refine ⟨?_, by simp⟩
    rcases sa with (sa | ⟨ob, sa⟩) | ⟨ob, its, n, h1, h2, _⟩
    · exact .base (.tup sa)
    · exact .fTuple sa
    · exact .kTuple h1 h2
  | ref n =>
    obtain ⟨ad, ea, rfl⟩ := rv_ref r
    simp only [tyOf] at e
    cases q : h[n]? with
    | none => rw [q] at e; cases e
    | some ob =>
      rw [q] at e
      cases ob with
      | lst xs => cases e; exact ⟨S.tyL ea (.inl q), by simp⟩
      | rol xs => cases e; exact ⟨S.tyL ea (.inr q), by simp⟩
      | ins c fs => cases e
  | fn g => cases e
theorem kit_tab : (["NoneType", "bool", "int", "str", "tuple", "list"].all fun t => tyNames.all fun T => decide (kitB t T.2 = some (subTy t T.2))) = true := by decide +kernel
theorem ty_boot : (tyNames.all fun T => decide (bootBuiltins T.1 = some (.type T.2)) && decide (T.1 ≠ "__name__") && decide ((T.1 == ("__debug__" : Str)) = false)) = true := by decide +kernel
theorem kit_sub {K : PySem.W.Frag} {t : String} {x : Str} {T : String} (ht : t ∈ ["NoneType", "bool", "int", "str", "tuple", "list"]) (hT : (x, T) ∈ tyNames) : PySem.W.kitOne K (.type t) (.type T) = some (subTy t T) :=
  kit_ty (of_decide_eq_true (List.all_eq_true.mp (List.all_eq_true.mp kit_tab t ht) (x, T) hT))
theorem boot_ty {x : Str} {T : String} (hT : (x, T) ∈ tyNames) : bootBuiltins x = some (.type T) ∧ x ≠ "__name__" ∧ (x == ("__debug__" : Str)) = false := by
  have h := List.all_eq_true.mp ty_boot _ hT
  simp only [Bool.and_eq_true, decide_eq_true_eq] at h
  exact ⟨h.1.1, h.1.2, h.2⟩
theorem s_isi1 {x : Str} {T : String} {p p1 pos : Pos} (hg : Gl X "isinstance") (hm : X.mg "isinstance" = none) (hT : (x, T) ∈ tyNames) (hgx : Gl X x) (hmx : X.mg x = none) (ha : PE X a (GoodE L X.K W da)) (hst : noStar a = true) :
    PE X (.Call (.Name "isinstance" p) [a, .Name x p1] [] pos) (GoodE L X.K W (eIsi [T] da)) := by
  obtain ⟨bv, bn, bd⟩ := boot_ty hT
  refine peImp (pe_callB call_isi hg hm boot_isinstance (pa_cons ha (pa_cons (pe_bltn (v := .ty T) hgx hmx bv rfl bn bd) pa_nil rfl) (star_cons hst)) (by decide) (by decide) (star_cons hst) rfl) fun σ H Q ⟨f, ρ, h, S, E, p⟩ => ?_
  refine ⟨f, ρ, h, S, E, (PostG.bind (R := RV L X.K) p).imp fun v' H1 ⟨f1, v, h1, e1, X1, S1, R1, p1⟩ => ?_⟩
  unfold isiV at p1
  cases et : tyOf h1 v with
  | none => rw [et] at p1; exact absurd p1 id
  | some t =>
    rw [et] at p1
    obtain ⟨ty, tm⟩ := ty_ok S1 R1 et
    refine ⟨v', .ty T, _, _, subTy t T, rfl, .ty T, ty, kit_sub tm hT, ?_⟩
    have z := now S1 (mk_bl _) p1
    simpa using z
theorem clsV_tys : ∀ {xs : List (Str × String)}, (∀ q ∈ xs, q ∈ tyNames) → ∀ {t : String}, t ∈ ["NoneType", "bool", "int", "str", "tuple", "list"] → ∀ {K : PySem.W.Frag}, PySem.W.kitAny K (.type t) (xs.map fun q => Value.type q.2) = some ((xs.map (·.2)).any (subTy t))
  | [], _, t, _, K => kitAny_nil
  | q :: xs, hq, t, ht, K => by
    have h1 := kit_sub (K := K) ht (hq q List.mem_cons_self)
    have h2 := clsV_tys (xs := xs) (fun q hq' => hq q (List.mem_cons_of_mem _ hq')) ht (K := K)
    rw [List.map_cons, List.map_cons, List.any_cons]
    refine kitAny_cons h1 (fun e => ?_) (fun e => by rw [e]; rfl)
    rw [e, Bool.false_or]
    exact h2
theorem paired_ty : ∀ xs : List (Str × String), Paired ClsV (xs.map fun q => V.ty q.2) (xs.map fun q => Value.type q.2)
  | [] => .nil
  | q :: xs => .cons (.ty q.2) (paired_ty xs)
/-- the names of types in a tuple -/
theorem pa_tys : ∀ {xs : List (Str × String)} {es : List Expr}, es.map (fun e => match e with | .Name x _ => some x | _ => none) = xs.map (fun q => some q.1) → (∀ q ∈ xs, q ∈ tyNames ∧ Gl X q.1 ∧ X.mg q.1 = none) → PA X es (fun _ H Q => Q (xs.map fun q => V.ty q.2) H)
  | [], [], _, _ => paImp pa_nil fun σ H Q h => h
  | [], _ :: _, e, _ => by simp at e
  | _ :: _, [], e, _ => by simp at e
  | q :: xs, e :: es, he, hq => by
    simp only [List.map_cons, List.cons.injEq] at he
    obtain ⟨h1, h2⟩ := he
    obtain ⟨hT, hg, hm⟩ := hq q List.mem_cons_self
    obtain ⟨bv, bn, bd⟩ := boot_ty (x := q.1) (T := q.2) hT
    cases e with
    | Name x p =>
      simp only [Option.some.injEq] at h1
      subst h1
      exact paImp (pa_cons (pe_bltn (v := .ty q.2) hg hm bv rfl bn bd) (pa_tys h2 fun r hr => hq r (List.mem_cons_of_mem _ hr)) rfl) fun σ H Q h => h
    | _ => simp at h1
theorem s_isiT {xs : List (Str × String)} {k : Nat} {p p1 pos : Pos} (hg : Gl X "isinstance") (hm : X.mg "isinstance" = none) (hxs : es.map (fun e => match e with | .Name x _ => some x | _ => none) = xs.map (fun q => some q.1)) (hq : ∀ q ∈ xs, q ∈ tyNames ∧ Gl X q.1 ∧ X.mg q.1 = none)
    (ha : PE X a (GoodE L X.K W da)) (hst : noStar a = true) (hlen : xs.length ≤ sizeLine) : PE X (.Call (.Name "isinstance" p) [a, .Tuple es k p1] [] pos) (GoodE L X.K W (eIsi (xs.map (·.2)) da)) := by
  refine peImp (pe_callB call_isiT hg hm boot_isinstance (pa_cons ha (pa_cons (pe_tup (pa_tys hxs hq)) pa_nil rfl) (star_cons hst)) (by decide) (by decide) (star_cons hst) rfl) fun σ H Q ⟨f, ρ, h, S, E, p⟩ => ?_
  refine ⟨f, ρ, h, S, E, (PostG.bind (R := RV L X.K) p).imp fun v' H1 ⟨f1, v, h1, e1, X1, S1, R1, p1⟩ => ?_⟩
  unfold isiV at p1
  refine ⟨by rw [List.length_map]; exact hlen, fun tp htp => ?_⟩
  cases et : tyOf h1 v with
  | none => rw [et] at p1; exact absurd p1 id
  | some t =>
    rw [et] at p1
    have x2 := ext_new (f := f1) (o := .tup (xs.map fun q => V.ty q.2)) htp
    have S2 := S1.out (o := .tup (xs.map fun q => V.ty q.2)) htp
    obtain ⟨ty, tm⟩ := ty_ok S2 (R1.mono S1 x2) et
    refine ⟨v', tp, _, _, _, _, rfl, upd_same, paired_ty xs, ty, clsV_tys (fun q z => (hq q z).1) tm, ?_⟩
    exact p1 f1 _ _ x2 S2 (mk_bl _)
end
end Mp
set_option Elab.async false
set_option linter.all false
set_option maxRecDepth 100000
set_option maxHeartbeats 1000000
namespace Mp
open PySem PySem.Spec PyProof.Rows L2
section
variable {L : Lk} {X : Cx} {W : WX} {pos : Pos} {a b c o : Expr} {da db dc do_ : ME} {es : List Expr} {das : MA}
def RP : Nm → Hp → Option Int → Option Int → Prop := fun _ _ x y => x = y
def GoodO (L : Lk) (K : PySem.W.Frag) (W : WX) (m : MO) : TO := fun σ H Q => ∃ f ρ h, Sim L K f h H ∧ EnvR L K f H ρ σ ∧ PostG L K RP W f σ H Q (m ρ h)
theorem poImp {e : Option Expr} {t t' : TO} (h : PO X e t) (i : ∀ σ H Q, t' σ H Q → t σ H Q) : PO X e t' := ⟨fun pins s σ H Q I q => h.run pins s σ H Q I (i σ H Q q)⟩
theorem o_none : PO X none (GoodO L X.K W oNone) := poImp po_none fun σ H Q ⟨f, ρ, h, S, E, p⟩ => p f H none (Ext.refl _ _) S rfl
theorem o_some (ha : PE X a (GoodE L X.K W da)) : PO X (some a) (GoodO L X.K W (oSome da)) := by
  refine poImp (po_some ha) fun σ H Q ⟨f, ρ, h, S, E, p⟩ => ?_
  refine ⟨f, ρ, h, S, E, (PostG.bind (R := RV L X.K) p).imp fun x' H1 ⟨f1, x, h1, e1, X1, S1, R1, p1⟩ => ?_⟩
  cases x with
  | int i => exact ⟨i, rv_int R1, p1 f1 H1 _ (Ext.refl _ _) S1 rfl⟩
  | _ => exact absurd p1 id
theorem cut_rel {K : PySem.W.Frag} {f : Nm} {H : Hp} {ts : List Val} {vs : List V} (r : RVs L K f H ts vs) (lo hi : Option Int) : RVs L K f H (cut ts lo hi) (cutV vs lo hi) := by
  unfold cut cutV
  rw [r.length]
  exact (r.drop _).take _
theorem sl_ok : SlR X (fun x' lo hi H Q => ∃ f h x, Sim L X.K f h H ∧ RV L X.K f H x x' ∧ PostG L X.K (RV L X.K) WF f [] H Q (sliceV x lo hi h)) := by
  intro pins s σ H x' v vl vu lo hi sl Q I rx hs pl pu ⟨f, h, x, S, R, p⟩
  cases x with
  | tup ts =>
    obtain ⟨ad, vs, rfl, sa, ra⟩ := rv_tup R
    simp only [sliceV] at p
    refine sl_tupA pins s σ H _ v vl vu lo hi sl Q I rx hs pl pu ⟨ad, vs, rfl, sa, fun z => ?_, fun _ q hq => newT_ok S (cut_rel ra lo hi) p q hq⟩
    have e : cut ts lo hi = ts := by
      unfold cut
      rw [ra.length, z.1, z.2]
      simp [← ra.length]
    rw [e] at p
    exact now S R p
  | str z =>
    obtain rfl := rv_str R
    simp only [sliceV] at p
    split at p
    · rename_i hz
      exact C8.sl_txt pins s σ H _ v vl vu lo hi sl Q I rx hs pl pu ⟨z, rfl, hz, now S (mk_str _) p⟩
    · exact absurd p id
  | ref n =>
    obtain ⟨ad, ea, rfl⟩ := rv_ref R
    simp only [sliceV] at p
    cases q : h[n]? with
    | none => rw [q] at p; exact absurd p id
    | some ob =>
      rw [q] at p
      cases ob with
      | lst xs =>
        obtain ⟨vs, sv, rv⟩ := S.seq ea (.inl q)
        exact sl_list pins s σ H _ v vl vu lo hi sl Q I rx hs pl pu ⟨ad, vs, rfl, sv, (newL_ok S (cut_rel rv lo hi) p).2⟩
      | rol xs =>
        obtain ⟨vs, sv, rv⟩ := S.seq ea (.inr q)
        exact sl_list pins s σ H _ v vl vu lo hi sl Q I rx hs pl pu ⟨ad, vs, rfl, sv, (newL_ok S (cut_rel rv lo hi) p).2⟩
      | ins c fs => exact absurd p id
  | non => simp only [sliceV] at p; exact absurd p id
  | bl _ => simp only [sliceV] at p; exact absurd p id
  | int _ => simp only [sliceV] at p; exact absurd p id
  | fn _ => simp only [sliceV] at p; exact absurd p id
theorem sliceV_nox (v : Val) (lo hi : Option Int) (h : Mem) : NoX (sliceV v lo hi h) := by
  unfold sliceV
  split
  · exact True.intro
  · split <;> exact True.intro
  · split <;> first | exact newL_nox _ _ | exact True.intro
  · exact True.intro
theorem s_slice {lo hi : Option Expr} {ml mh : MO} {p2 : Pos} (ha : PE X a (GoodE L X.K W da)) (hl : PO X lo (GoodO L X.K W ml)) (hu : PO X hi (GoodO L X.K W mh)) : PE X (.Subscript a (.Slice lo hi none p2) pos) (GoodE L X.K W (eSlice da ml mh)) := by
  refine peImp (pe_slice (sl_ok (L := L)) ha hl hu) fun σ H Q ⟨f, ρ, h, S, E, p⟩ => ?_
  refine ⟨f, ρ, h, S, E, (PostG.bind (R := RV L X.K) p).imp fun x' H1 ⟨f1, x, h1, e1, X1, S1, R1, p1⟩ => ?_⟩
  refine ⟨f1, ρ, h1, S1, E.mono S X1, (PostG.bind (R := RP) p1).imp fun l' H2 ⟨f2, l, h2, e2, X2, S2, R2, p2⟩ => ?_⟩
  obtain rfl : l = l' := R2
  refine ⟨f2, ρ, h2, S2, (E.mono S X1).mono S1 X2, (PostG.bind (R := RP) p2).imp fun u' H3 ⟨f3, u, h3, e3, X3, S3, R3, p3⟩ => ?_⟩
  obtain rfl : u = u' := R3
  exact ⟨f3, h3, x, S3, (R1.mono S1 X2).mono S2 X3, p3.nox (sliceV_nox _ _ _ _)⟩
/-! ### list(range(..)) -/
theorem rg_ok {i j : Int} (h : rgOk i j = true) : RgOk i j := by
  unfold rgOk small62 at h
  simp only [Bool.and_eq_true, decide_eq_true_eq] at h
  exact ⟨h.1.1.1, h.1.1.2, h.1.2.1, h.1.2.2, h.2⟩
theorem rgL_rel {K : PySem.W.Frag} {f : Nm} {H : Hp} (i j : Int) : RVs L K f H (rgL i j) (rgV i j) := by
  unfold rgL rgV
  have : ∀ l : List Nat, RVs L K f H (l.map fun n => Val.int (i + (n : Nat))) (l.map fun n => V.int (i + (n : Nat))) := fun l => by
    induction l with
    | nil => exact RVs.nil
    | cons n l ih => exact RVs.cons (mk_int _) ih
  exact this _
theorem s_listR1 {p p1 pos1 : Pos} (hc : X.calm = true) (hg : Gl X "list") (hm : X.mg "list" = none) (hgr : Gl X "range") (hmr : X.mg "range" = none) (ha : PE X a (GoodE L X.K W da)) (hst : noStar a = true) :
    PE X (.Call (.Name "list" p) [.Call (.Name "range" p1) [a] [] pos1] [] pos) (GoodE L X.K W (eListR1 da)) := by
  refine peImp (pe_listRg hc hg hm (prg_1 hgr hmr ha (star_cons hst)) rfl) fun σ H Q ⟨f, ρ, h, S, E, p⟩ => ?_
  refine ⟨f, ρ, h, S, E, (PostG.bind (R := RV L X.K) p).imp fun x' H1 ⟨f1, x, h1, e1, X1, S1, R1, p1⟩ => ?_⟩
  cases x with
  | int j =>
    dsimp only at p1
    split at p1
    · rename_i hz
      exact ⟨j, rv_int R1, rg_ok hz, (newL_ok S1 (rgL_rel 0 j) p1).2⟩
    · exact absurd p1 id
  | _ => exact absurd p1 id
theorem s_listR2 {p p1 pos1 : Pos} (hc : X.calm = true) (hg : Gl X "list") (hm : X.mg "list" = none) (hgr : Gl X "range") (hmr : X.mg "range" = none) (ha : PE X a (GoodE L X.K W da)) (hb : PE X b (GoodE L X.K W db)) (hst : noStar a = true) (hst2 : noStar b = true) :
    PE X (.Call (.Name "list" p) [.Call (.Name "range" p1) [a, b] [] pos1] [] pos) (GoodE L X.K W (eListR2 da db)) := by
  refine peImp (pe_listRg hc hg hm (prg_2 hgr hmr ha hb (star_cons hst) (star_cons hst2) (star_any (es := [b]) (by simp [hst2]))) rfl) fun σ H Q ⟨f, ρ, h, S, E, p⟩ => ?_
  refine ⟨f, ρ, h, S, E, (PostG.bind (R := RV L X.K) p).imp fun x' H1 ⟨f1, x, h1, e1, X1, S1, R1, p1⟩ => ?_⟩
  refine ⟨f1, ρ, h1, S1, E.mono S X1, (PostG.bind (R := RV L X.K) p1).imp fun y' H2 ⟨f2, y, h2, e2, X2, S2, R2, p2⟩ => ?_⟩
  have R1' := R1.mono S1 X2
  cases x with
  | int i =>
    cases y with
    | int j =>
      dsimp only at p2
      split at p2
      · rename_i hz
        exact ⟨i, j, rv_int R1', rv_int R2, rg_ok hz, (newL_ok S2 (rgL_rel i j) p2).2⟩
      · exact absurd p2 id
    | _ => exact absurd p2 id
  | _ => exact absurd p2 id
/-! ### [elt for t in it if c] -/
theorem s_lc {elt tg iter : Expr} {ifs : List Expr} {scope : Scope} {own : List (Str × Nat)} {t : Tg} {mi : MI} {mc : MT} {me : ME} (hc : X.calm = true) (hN : X.N.Nodup) (hi : PI X tg iter (GoodI L X.K W mi)) (ok : BlkOk X.N X.env.scope scope own) (hvs : ∀ j ∈ tgS t, j ∈ own.map (·.2))
    (hg : ∀ (s : Shared) (H : Hp) (C : Addr) (cl : List (Str × Addr)) (fp : List Addr), PG (X.blk s H scope (compEnvC scope cl C X.env) fp) tg (GoodG L X.K t))
    (ht : ∀ (s : Shared) (H : Hp) (C : Addr) (cl : List (Str × Addr)) (fp : List Addr), PTs (X.blk s H scope (compEnvC scope cl C X.env) fp) ifs (GoodT L X.K WF mc))
    (he : ∀ (s : Shared) (H : Hp) (C : Addr) (cl : List (Str × Addr)) (fp : List Addr), PE (X.blk s H scope (compEnvC scope cl C X.env) fp) elt (GoodE L X.K WF me)) (hs : ∀ x, foldedSetIterable iter X.env x = pure x) :
    PE X (.ListComp elt [⟨tg, iter, ifs, 0⟩] scope pos) (GoodE L X.K W (eLc (own.map (·.2)) t mi mc me)) :=
  peImp (pe_lc hc hN hi ok hg ht he hs) fun σ H Q G => good_lc hvs G
theorem st_setLc {i : Nat} {y : Str} {py spos : Pos} {elt tg iter : Expr} {ifs : List Expr} {scope : Scope} {own : List (Str × Nat)} {t : Tg} {mi : MI} {mc : MT} {me : ME} (hc : X.calm = true) (hN : X.N.Nodup) (hy : X.N[i]? = some y) (hyl : X.env.scope.names.lookup y = some .local)
    (hsw : swapsWith (.ListComp elt [⟨tg, iter, ifs, 0⟩] scope pos) (some (.Name y py)) spos.line X.env = pure true) (hi : PI X tg iter (GoodI L X.K W mi)) (ok : BlkOk X.N X.env.scope scope own) (hvs : ∀ j ∈ tgS t, j ∈ own.map (·.2))
    (hg : ∀ (s : Shared) (H : Hp) (C : Addr) (cl : List (Str × Addr)) (fp : List Addr), PG (X.blk s H scope (compEnvC scope cl C X.env) fp) tg (GoodG L X.K t))
    (ht : ∀ (s : Shared) (H : Hp) (C : Addr) (cl : List (Str × Addr)) (fp : List Addr), PTs (X.blk s H scope (compEnvC scope cl C X.env) fp) ifs (GoodT L X.K WF mc))
    (he : ∀ (s : Shared) (H : Hp) (C : Addr) (cl : List (Str × Addr)) (fp : List Addr), PE (X.blk s H scope (compEnvC scope cl C X.env) fp) elt (GoodE L X.K WF me)) (hs : ∀ x, foldedSetIterable iter X.env x = pure x) :
    PS X (.Assign [.Name y py] (.ListComp elt [⟨tg, iter, ifs, 0⟩] scope pos) spos) (GoodS L X.K W (sSet i (eLc (own.map (·.2)) t mi mc me))) := by
  refine psImp (ps_setLc hc hN hy hyl hsw hi ok hg ht he hs) fun D σ H G => ?_
  obtain ⟨f, ρ, h, S, E, p⟩ := G
  refine good_lc hvs ⟨f, ρ, h, S, E, (PostS.onE (R := RV L X.K) E S p).imp fun v' H1 ⟨f1, v, h1, e1, X1, S1, E1, R1, p1⟩ => p1 f1 H1 _ (Ext.refl _ _) S1 (E1.set R1 i)⟩
theorem ts_nil : PTs X [] (GoodT L X.K W tYesM) := by
  have h : PTs X [] tYes := pts_nil
  exact ⟨fun pins s σ H Q I ⟨f, ρ, h', S, E, p⟩ => h.run pins s σ H Q I (p f H true (Ext.refl _ _) S rfl)⟩
theorem ts_one {t : MT} (h : PT X c (GoodT L X.K W t)) : PTs X [c] (GoodT L X.K W t) := pts_one h
/-- a, b = x, y with plain local names -/
def sPar (i j : Nat) (as : MA) : MS := fun ρ h => onE (as ρ h) ρ fun vs h => match vs with
  | [v, w] => .ok (.nx ((ρ.set i (some v)).set j (some w))) h
  | _ => .bad
theorem st_par {i j : Nat} {x y : Str} {px py pt : Pos} {kt k2 : Nat} {pt2 : Pos} (hc : X.calm = true) (hN : X.N.Nodup) (hi : X.N[i]? = some x) (hj : X.N[j]? = some y) (hij : i ≠ j) (hx : X.env.scope.names.lookup x = some .local) (hy : X.env.scope.names.lookup y = some .local) (ha : PA X [a, b] (GoodA L X.K W das))
    (hw : swappedStores [.Tuple [.Name x px, .Name y py] kt pt] (.Tuple [a, b] k2 pt2) X.env = pure (some [x, y])) :
    PS X (.Assign [.Tuple [.Name x px, .Name y py] kt pt] (.Tuple [a, b] k2 pt2) pos) (GoodS L X.K W (sPar i j das)) := by
  refine psImp (ps_par hc hN hi hj hij hx hy ha hw) fun D σ H ⟨f, ρ, h, S, E, p⟩ => ?_
  refine ⟨f, ρ, h, S, E, (PostS.onE (R := RVs L X.K) E S p).imp fun vs' H1 ⟨f1, vs, h1, e1, X1, S1, E1, R1, p1⟩ => ?_⟩
  match vs, R1, p1 with
  | [v, w], R1, p1 =>
    obtain ⟨v', w', rfl, r1, r2⟩ := R1.two
    exact ⟨v', w', rfl, p1 f1 H1 _ (Ext.refl _ _) S1 ((E1.set r1 i).set r2 j)⟩
  | [], _, p1 => exact absurd p1 id
  | [_], _, p1 => exact absurd p1 id
  | _ :: _ :: _ :: _, _, p1 => exact absurd p1 id
end
end Mp
set_option Elab.async false
set_option linter.all false
set_option maxRecDepth 100000
set_option maxHeartbeats 2000000
namespace Mp
open PySem PySem.Spec PyProof.Rows L2
/-! ### the machine reads the syntax -/
def findIx : List Str → Str → Option Nat
  | [], _ => none
  | y :: r, x => if y = x then some 0 else (findIx r x).map (· + 1)
theorem findIx_get : ∀ {N : List Str} {x : Str} {i : Nat}, findIx N x = some i → N[i]? = some x
  | [], _, _, e => by cases e
  | y :: r, x, i, e => by
    unfold findIx at e
    split at e
    · rename_i h; cases e; rw [h]; rfl
    · obtain ⟨j, e1, rfl⟩ := Option.map_eq_some_iff.mp e
      exact findIx_get (N := r) e1
def visK : Option NameKind → Bool
  | some .local => true
  | some .cell => true
  | some .free => true
  | _ => false
def slotOf (N : List Str) (sc : Scope) (x : Str) : Option Nat := if visK (sc.names.lookup x) && !(x == ("__debug__" : Str)) && !(x == ("__classdict__" : Str)) then findIx N x else none
def isGl (sc : Scope) (x : Str) : Bool := decide (sc.names.lookup x = some .globalImplicit) && !(x == ("__debug__" : Str))
def locK : Option NameKind → Bool
  | some .local => true
  | some .cell => true
  | _ => false
def evA (ev : Expr → ME) : List Expr → MA
  | [] => aNil
  | e :: es => aCons (ev e) (evA ev es)
def evK (ev : Expr → ME) : List Keyword → MA
  | [] => aNil
  | ⟨_, e, _⟩ :: es => aCons (ev e) (evK ev es)
def evAnd (ev : Expr → ME) : List Expr → ME
  | [] => eBad
  | [a] => ev a
  | a :: b :: r => eAnd (ev a) (evAnd ev (b :: r))
def evOr (ev : Expr → ME) : List Expr → ME
  | [] => eBad
  | [a] => ev a
  | a :: b :: r => eOr (ev a) (evOr ev (b :: r))
def tBad : MT := fun _ _ => .bad
def evAndT (ev : Expr → MT) : List Expr → MT
  | [] => tBad
  | [a] => ev a
  | a :: b :: r => tAnd (ev a) (evAndT ev (b :: r))
def evOrT (ev : Expr → MT) : List Expr → MT
  | [] => tBad
  | [a] => ev a
  | a :: b :: r => tOr (ev a) (evOrT ev (b :: r))
def iBad : MI := fun _ _ => .bad
def isSlice : Expr → Bool
  | .Slice _ _ _ _ => true
  | _ => false
def isSetE : Expr → Bool
  | .Set _ _ _ => true
  | _ => false
def isTupE : Expr → Bool
  | .Tuple _ _ _ => true
  | _ => false
def baseOk : Expr → Bool
  | .Call (.Name _ _) [] [] _ => false
  | _ => true
/-- the target of a for, of a comprehension, of an assignment: names and tuples of them -/
def tgOf (N : List Str) (sc : Scope) : Nat → Expr → Option Tg
  | 0, _ => none
  | n + 1, e => match e with
    | .Name x _ => if locK (sc.names.lookup x) then (findIx N x).map .nm else none
    | .Tuple es _ _ => (go n es).map .tp
    | _ => none
where go (n : Nat) : List Expr → Option (List Tg)
    | [] => some []
    | e :: es => if noStar e then (match tgOf N sc n e, go n es with
      | some t, some ts => some (t :: ts)
      | _, _ => none) else none
def tyNamesOf : List Expr → Option (List (Str × String))
  | [] => some []
  | .Name x _ :: r => match tyNames.lookup x, tyNamesOf r with
    | some T, some l => some ((x, T) :: l)
    | _, _ => none
  | _ :: _ => none
def evO (ev : Expr → ME) : Option Expr → MO
  | none => oNone
  | some e => oSome (ev e)
def ownOf (N : List Str) (scope : Scope) : List (Str × Nat) := scope.names.filterMap fun p => if locK (some p.2) then (findIx N p.1).map fun i => (p.1, i) else none
def natIn (xs ys : List Nat) : Bool := xs.all fun x => ys.contains x
section
variable (Γ : Pg) (call : CallT) (N : List Str)
def evIsi (ev : Expr → ME) (sc : Scope) (args : List Expr) : ME := match args with
  | [a, .Name x _] => if noStar a && isGl sc x then (match tyNames.lookup x with
    | some T => eIsi [T] (ev a)
    | none => eBad) else eBad
  | [a, .Tuple es _ _] => match tyNamesOf es with
    | some xs => if noStar a && xs.all (fun q => isGl sc q.1) && decide (xs.length ≤ sizeLine) then eIsi (xs.map (·.2)) (ev a) else eBad
    | none => eBad
  | _ => eBad
def evBlt (ev : Expr → ME) (sc : Scope) (x : Str) (args : List Expr) : ME :=
  if x = "isinstance" then evIsi ev sc args else match biOf x, args with
    | some b, a :: es => eBi b (evA ev (a :: es))
    | _, _ => eBad
def evListR (ev : Expr → ME) (sc : Scope) (x : Str) (args : List Expr) : ME := match args with
  | [.Call (.Name y _) [a] [] _] => if x = "list" && decide (y = ("range" : Str)) && isGl sc "range" then (if noStar a then eListR1 (ev a) else eBad) else evBlt ev sc x args
  | [.Call (.Name y _) [a, b] [] _] => if x = "list" && decide (y = ("range" : Str)) && isGl sc "range" then (if noStar a && noStar b then eListR2 (ev a) (ev b) else eBad) else evBlt ev sc x args
  | _ => evBlt ev sc x args
def kwNames (kws : List Keyword) : List Str := kws.filterMap (·.arg)
def evCall (ev : Expr → ME) (sc : Scope) (x : Str) (args : List Expr) (kws : List Keyword) : ME :=
  if isGl sc x && args.all noStar && kws.all (·.arg.isSome) then
    (if Γ.tops.contains x then (match Γ.fns.lookup x with
      | some D => if decide ((x, args.length, kwNames kws) ∈ Γ.shapes) then
          (if kws.isEmpty && decide (args.length = D.ps.length) then eCall (call x) (evA ev args) else (match bindV D args.length (kwNames kws) with
            | some sel => eCallS (call x) sel (evA ev args) (evK ev kws)
            | none => eBad)) else eBad
      | none => eBad)
    else match Γ.cls.lookup x with
      | some C => (match Γ.fns.lookup C.init with
        | some D => if decide ((C.init, args.length + 1, kwNames kws) ∈ Γ.shapes) then (match bindV D (args.length + 1) (kwNames kws) with
            | some sel => eMake (call C.init) x sel (evA ev args) (evK ev kws)
            | none => eBad) else eBad
        | none => eBad)
      | none => if kws.isEmpty then evListR ev sc x args else eBad)
  else eBad
def evMeth (ev : Expr → ME) (o : Expr) (m : Str) (apos : Pos) (args : List Expr) (kws : List Keyword) (pos : Pos) : ME :=
  if baseOk o && args.all noStar && kws.all (·.arg.isSome) && decide (args.length + kws.length + 1 < 30) && (apos.endLine == pos.line) then eMeth Γ call m args.length (kwNames kws) (ev o) (evA ev args) (evK ev kws) else eBad
def evI (ev : Expr → ME) (sc : Scope) (tg iter : Expr) : MI := match iter with
  | .Call (.Name x _) [a] [] _ => if isGl sc x && decide (x = ("range" : Str)) then (if noStar a then iRng1 (ev a) else iBad) else if isGl sc x && decide (x = ("enumerate" : Str)) then (if noStar a && isTupE tg then iEnum (ev a) else iBad) else iVal (ev iter)
  | .Call (.Name x _) [a, b] [] _ => if isGl sc x && decide (x = ("range" : Str)) then (if noStar a && noStar b then iRng2 (ev a) (ev b) else iBad) else if isGl sc x && decide (x = ("zip" : Str)) then (if noStar a && noStar b && isTupE tg then iZip (ev a) (ev b) else iBad) else iVal (ev iter)
  | _ => if isSetE iter then iBad else iVal (ev iter)
def evIfs (ev : Expr → MT) : List Expr → MT
  | [] => tYesM
  | [c] => ev c
  | _ => tBad
def evLc (ev : Scope → Expr → ME × MT) (sc : Scope) (elt : Expr) (gens : List Comprehension) (scope : Scope) : ME := match gens with
  | [⟨tg, iter, ifs, is_async⟩] => (match tgOf N scope 5 tg with
    | some t => if decide (is_async = 0) && blkC N sc scope (ownOf N scope) && natIn (tgS t) ((ownOf N scope).map (·.2)) && decide (ifs.length ≤ 1) then
        eLc ((ownOf N scope).map (·.2)) t (evI (fun e => (ev sc e).1) sc tg iter) (evIfs (fun e => (ev (relS scope sc) e).2) ifs) (ev (relS scope sc) elt).1 else eBad
    | none => eBad)
  | _ => eBad
def evCmp (ev : Expr → ME) (a : Expr) (ops : List CmpOp) (bs : List Expr) : ME := match ops, bs with
  | [op], [b] => if behindInMarks op b then eBad else eCmp op (ev a) (ev b)
  | [op, op'], [b, c] => if lastMarks [op, op'] [b, c] then eBad else eChain op op' (ev a) (ev b) (ev c)
  | _, _ => eBad
def evSub (ev : Expr → ME) (a b : Expr) : ME := match b with
  | .Slice lo hi st _ => match st with
    | none => eSlice (ev a) (evO ev lo) (evO ev hi)
    | some _ => eBad
  | b => eIdx (ev a) (ev b)
def evConst : Const → ME
  | .none => eC .non
  | .bool b => eC (.bl b)
  | .int i => eC (.int i)
  | .str x => eC (.str x)
  | _ => eBad
def evName (sc : Scope) (x : Str) : ME := match slotOf N sc x with
  | some i => eVar i
  | none => if isGl sc x then (match Γ.glob.lookup x with
    | some v => eC v
    | none => if Γ.tops.contains x && (Γ.fns.lookup x).isSome then eC (.fn x) else eBad) else eBad
def evCl (ev : Expr → ME) (sc : Scope) (f : Expr) (args : List Expr) (kws : List Keyword) (pos : Pos) : ME := match f with
  | .Name x _ => evCall Γ call ev sc x args kws
  | .Attribute o m apos => evMeth Γ call ev o m apos args kws pos
  | _ => eBad
def evUn (ev : Expr → ME) (op : UnaryOp) (a : Expr) : ME := match op with
  | .USub => eNeg (ev a)
  | .Not => eNot (ev a)
  | _ => eBad
def ev1 (self : Scope → Expr → ME × MT) (sc : Scope) (e : Expr) : ME := match e with
  | .Constant c _ _ => evConst c
  | .Name x _ => evName Γ N sc x
  | .BinOp a op b _ => eBin op (self sc a).1 (self sc b).1
  | .UnaryOp op a _ => evUn (fun e => (self sc e).1) op a
  | .BoolOp op vs _ => (match op with
    | .And => evAnd (fun e => (self sc e).1) vs
    | .Or => evOr (fun e => (self sc e).1) vs)
  | .Compare a ops bs _ => evCmp (fun e => (self sc e).1) a ops bs
  | .IfExp c a b _ => eIf (self sc c).2 (self sc a).1 (self sc b).1
  | .Tuple es _ _ => if es.all noStar then eTup (evA (fun e => (self sc e).1) es) else eBad
  | .List es _ => if es.all noStar then eLst (evA (fun e => (self sc e).1) es) else eBad
  | .Subscript a b _ => evSub (fun e => (self sc e).1) a b
  | .Attribute a x _ => if baseOk a then eAttr Γ call x (self sc a).1 else eBad
  | .ListComp elt gens scope _ => evLc N self sc elt gens scope
  | .Call f args kws pos => evCl Γ call (fun e => (self sc e).1) sc f args kws pos
  | _ => eBad
def evT1 (self : Scope → Expr → ME × MT) (sc : Scope) (e : Expr) : MT := match e with
  | .UnaryOp op a pos => (match op with
    | .Not => tNot (self sc a).2
    | op => tE (ev1 Γ call N self sc (.UnaryOp op a pos)))
  | .BoolOp op vs _ => (match op with
    | .And => evAndT (fun e => (self sc e).2) vs
    | .Or => evOrT (fun e => (self sc e).2) vs)
  | .IfExp _ _ _ _ => tBad
  | e => tE (ev1 Γ call N self sc e)
def ev : Nat → Scope → Expr → ME × MT
  | 0, _, _ => (eBad, tBad)
  | n + 1, sc, e => (ev1 Γ call N (ev n) sc e, evT1 Γ call N (ev n) sc e)
end
/-! ### contexts -/
def bltNames : List Str := (["range", "enumerate", "zip", "isinstance"] : List Str) ++ biTab.map (·.1) ++ tyNames.map (·.1)
structure XOk (Γ : Pg) (L : Lk) (call : CallT) (k : Nat) (N : List Str) (sc : Scope) (X : Cx) : Prop where
  hN : X.N = N
  nd : N.Nodup
  hsc : X.env.scope = sc
  calm : X.calm = true
  room : Room (k + 1) X.A
  fn : ∀ g D, Γ.fns.lookup g = some D → FnF L X.prog X.w X.K X.mg X.base k Γ call g D
  top : ∀ g, Γ.tops.contains g = true → X.mg g = some (.ref (L.F g))
  cls : ∀ c C, Γ.cls.lookup c = some C → ClF L X.K c C
  clg : ∀ c C, Γ.cls.lookup c = some C → X.mg c = some (.ref (L.C c))
  glob : ∀ x v, Γ.glob.lookup x = some v → ∃ v' u, X.mg x = some u ∧ RelV v' u ∧ ∀ f H, RV L X.K f H v v'
  blt : ∀ x ∈ bltNames, Γ.tops.contains x = false → Γ.cls.lookup x = none → Γ.glob.lookup x = none → X.mg x = none
  nob : ∀ x ∈ bltNames, Γ.tops.contains x = false ∧ Γ.cls.lookup x = none ∧ Γ.glob.lookup x = none
  prop : ∀ c C x g, Γ.cls.lookup c = some C → C.props.lookup x = some g → ∃ D, Γ.fns.lookup g = some D ∧ D.ps.length = 1 ∧ (g, 1, []) ∈ Γ.shapes ∧ ∃ sel, bindV D 1 [] = some sel
section
variable {Γ : Pg} {L : Lk} {call : CallT} {k : Nat} {N : List Str} {sc : Scope} {X : Cx} {W : WX} {pos : Pos}
theorem XOk.gl (ok : XOk Γ L call k N sc X) {x : Str} (h : isGl sc x = true) : Gl X x ∧ (x == ("__debug__" : Str)) = false := by
  unfold isGl at h
  rw [Bool.and_eq_true] at h
  refine ⟨?_, by simpa using h.2⟩
  show X.env.scope.names.lookup x = _
  rw [ok.hsc]
  exact of_decide_eq_true h.1
theorem XOk.no (ok : XOk Γ L call k N sc X) {x : Str} (h : x ∈ bltNames) : X.mg x = none := by
  obtain ⟨h1, h2, h3⟩ := ok.nob x h
  exact ok.blt x h h1 h2 h3
theorem XOk.units (ok : XOk Γ L call k N sc X) : X.A.units + 65 < cLine := by
  have := ok.room.un
  omega
theorem XOk.slot (ok : XOk Γ L call k N sc X) {x : Str} {i : Nat} (h : slotOf N sc x = some i) : X.N[i]? = some x ∧ Vis X.env.scope x ∧ (x == ("__debug__" : Str)) = false ∧ (x == ("__classdict__" : Str)) = false := by
  unfold slotOf at h
  split at h
  · rename_i hc
    simp only [Bool.and_eq_true, Bool.not_eq_true'] at hc
    refine ⟨by rw [ok.hN]; exact findIx_get h, ?_, hc.1.2, hc.2⟩
    have hv := hc.1.1
    rw [← ok.hsc] at hv
    unfold Vis
    revert hv
    cases X.env.scope.names.lookup x with
    | none => intro hv; simp [visK] at hv
    | some kd => cases kd <;> simp [visK]
  · cases h
theorem evA_len {ev : Expr → ME} : ∀ {es : List Expr} {ρ : Env} {h : Mem} {us : List Val} {h' : Mem}, evA ev es ρ h = .ok us h' → us.length = es.length
  | [], ρ, h, us, h', e => by cases e; rfl
  | a :: es, ρ, h, us, h', e => by
    simp only [evA, aCons] at e
    cases q : ev a ρ h with
    | bad => rw [q] at e; cases e
    | exc _ _ _ => rw [q] at e; cases e
    | ok v h1 =>
      rw [q, Res.bind_ok] at e
      cases q2 : evA ev es ρ h1 with
      | bad => rw [q2] at e; cases e
      | exc _ _ _ => rw [q2] at e; cases e
      | ok vs h2 =>
        rw [q2] at e
        cases e
        rw [List.length_cons, List.length_cons, evA_len q2]
theorem evK_len {ev : Expr → ME} : ∀ {es : List Keyword} {ρ : Env} {h : Mem} {us : List Val} {h' : Mem}, evK ev es ρ h = .ok us h' → us.length = es.length
  | [], ρ, h, us, h', e => by cases e; rfl
  | ⟨_, a, _⟩ :: es, ρ, h, us, h', e => by
    simp only [evK, aCons] at e
    cases q : ev a ρ h with
    | bad => rw [q] at e; cases e
    | exc _ _ _ => rw [q] at e; cases e
    | ok v h1 =>
      rw [q, Res.bind_ok] at e
      cases q2 : evK ev es ρ h1 with
      | bad => rw [q2] at e; cases e
      | exc _ _ _ => rw [q2] at e; cases e
      | ok vs h2 =>
        rw [q2] at e
        cases e
        rw [List.length_cons, List.length_cons, evK_len q2]
theorem kwNames_len : ∀ {kws : List Keyword}, kws.all (·.arg.isSome) = true → (kws.filterMap (·.arg)).length = kws.length
  | [], _ => rfl
  | ⟨nm, e, p⟩ :: kws, h => by
    simp only [List.all_cons, Bool.and_eq_true] at h
    cases nm with
    | none => simp at h
    | some x =>
      show (x :: kws.filterMap (·.arg)).length = _
      rw [List.length_cons, List.length_cons, kwNames_len h.2]
theorem peBad {e : Expr} : PE X e (GoodE L X.K W eBad) := peNo (good_no fun _ _ => rfl)
theorem ptBad {e : Expr} : PT X e (GoodT L X.K W tBad) := ptNo (good_noT fun _ _ => rfl)
theorem piBad {tg e : Expr} : PI X tg e (GoodI L X.K W iBad) := ⟨fun pins s σ H R I ⟨f, ρ, h, _, _, p⟩ => absurd p id⟩
variable {fe : Expr → ME} {ft : Expr → MT}
theorem paL (h : ∀ e, PE X e (GoodE L X.K W (fe e))) : ∀ es : List Expr, es.all noStar = true → PA X es (GoodA L X.K W (evA fe es))
  | [], _ => a_nil
  | e :: es, hs => by
    simp only [List.all_cons, Bool.and_eq_true] at hs
    exact a_cons (h e) (paL h es hs.2) (star_cons hs.1)
theorem pkL (h : ∀ e, PE X e (GoodE L X.K W (fe e))) : ∀ es : List Keyword, PK X es (GoodA L X.K W (evK fe es))
  | [] => k_nil
  | ⟨_, e, _⟩ :: es => k_cons (h e) (pkL h es)
theorem andL (h : ∀ e, PE X e (GoodE L X.K W (fe e))) : ∀ vs : List Expr, PE X (.BoolOp .And vs pos) (GoodE L X.K W (evAnd fe vs))
  | [] => peBad
  | [a] => pe_one (h a)
  | a :: b :: r => s_and (h a) (andL h (b :: r))
theorem orL (h : ∀ e, PE X e (GoodE L X.K W (fe e))) : ∀ vs : List Expr, PE X (.BoolOp .Or vs pos) (GoodE L X.K W (evOr fe vs))
  | [] => peBad
  | [a] => pe_one (h a)
  | a :: b :: r => s_or (h a) (orL h (b :: r))
theorem andLT (h : ∀ e, PT X e (GoodT L X.K W (ft e))) : ∀ vs : List Expr, PW X (.BoolOp .And vs pos) (GoodT L X.K W (evAndT ft vs))
  | [] => ⟨fun _ pins s σ H Q I ⟨f, ρ, h, _, _, p⟩ => absurd p id⟩
  | [a] => pw_and1 (h a)
  | a :: b :: r => t_and (h a) (andLT h (b :: r))
theorem orLT (h : ∀ e, PT X e (GoodT L X.K W (ft e))) : ∀ vs : List Expr, PW X (.BoolOp .Or vs pos) (GoodT L X.K W (evOrT ft vs))
  | [] => ⟨fun _ pins s σ H Q I ⟨f, ρ, h, _, _, p⟩ => absurd p id⟩
  | [a] => pw_or1 (h a)
  | a :: b :: r => t_or (h a) (orLT h (b :: r))
theorem locK_of {kd : Option NameKind} {x : Str} {sc : Scope} (e : sc.names.lookup x = kd) (h : locK kd = true) : L2.Loc sc x := by
  unfold L2.Loc
  rw [e]
  cases kd with
  | none => simp [locK] at h
  | some q => cases q <;> simp [locK] at h ⊢
/-- targets -/
theorem tg_ok (hN : X.N = N) (nd : N.Nodup) (hc : X.calm = true) (hf : ∀ x, locK (sc.names.lookup x) = true → L2.Loc X.env.scope x ∧ (X.fn x = true ∨ X.env.scope.names.lookup x = some .local)) : ∀ (n : Nat) (e : Expr) (t : Tg), tgOf N sc n e = some t → PG X e (GoodG L X.K t)
  | 0, e, t, q => by simp [tgOf] at q
  | n + 1, e, t, q => by
    cases e with
    | Name x p =>
      simp only [tgOf] at q
      split at q
      · rename_i hl
        obtain ⟨i, e1, rfl⟩ := Option.map_eq_some_iff.mp q
        exact tg_name (by rw [hN]; exact nd) (by rw [hN]; exact findIx_get e1) (hf x hl).1 (hf x hl).2
      · cases q
    | Tuple es kk p =>
      simp only [tgOf] at q
      obtain ⟨ts, e1, rfl⟩ := Option.map_eq_some_iff.mp q
      have all : ∀ (es : List Expr) (ts : List Tg), tgOf.go N sc n es = some ts → PGs X es (GoodGs L X.K ts) ∧ (assignEach es X.env).length = ts.length ∧ (assignEach es X.env).findIdx? (·.1) = none := by
        intro es
        induction es with
        | nil =>
          intro ts e
          simp only [tgOf.go] at e
          cases e
          exact ⟨tg_nil, rfl, rfl⟩
        | cons e es ih =>
          intro ts q
          simp only [tgOf.go] at q
          split at q
          · rename_i hs
            split at q
            · rename_i t ts' e1 e2
              cases q
              obtain ⟨i1, i2, i3⟩ := ih ts' e2
              have ea : assignEach (e :: es) X.env = (false, assign e X.env) :: assignEach es X.env := by
                cases e <;> first | rfl | (simp [noStar] at hs)
              refine ⟨tg_cons (tg_ok hN nd hc hf n e t e1) i1 (by rw [ea]; rfl), by rw [ea, List.length_cons, List.length_cons, i2], ?_⟩
              rw [ea, List.findIdx?_cons]
              simp [i3]
            · cases q
          · cases q
      obtain ⟨a1, a2, a3⟩ := all es ts e1
      exact tg_tup hc a1 a2 a3
    | _ => simp [tgOf] at q
end
end Mp
set_option Elab.async false
set_option linter.all false
set_option maxRecDepth 100000
set_option maxHeartbeats 2000000
namespace Mp
open PySem PySem.Spec PyProof.Rows L2
section
variable {Γ : Pg} {L : Lk} {call : CallT} {k : Nat} {N : List Str} {sc : Scope} {X : Cx} {W : WX} {pos : Pos} {fe : Expr → ME} {ft : Expr → MT}
theorem XOk.blk (ok : XOk Γ L call k N sc X) (s : Shared) (H : Hp) (scope : Scope) (cl : List (Str × Addr)) (C : Addr) (fp : List Addr) : XOk Γ L call k N (relS scope sc) (X.blk s H scope (compEnvC scope cl C X.env) fp) where
  hN := ok.hN
  nd := ok.nd
  hsc := by rw [← ok.hsc]; rfl
  calm := ok.calm
  room := ok.room
  fn := ok.fn
  top := ok.top
  cls := ok.cls
  clg := ok.clg
  glob := ok.glob
  blt := ok.blt
  nob := ok.nob
  prop := ok.prop
theorem folded_ok {iter : Expr} (h : isSetE iter = false) : ∀ x, foldedSetIterable iter X.env x = pure x := by
  intro x
  cases iter <;> first | rfl | (simp [isSetE] at h)
theorem plain_ix {b : Expr} (h : isSlice b = false) : PlainIx b := by
  intro o i
  cases b <;> first | rfl | (simp [isSlice] at h)
theorem e_name (ok : XOk Γ L call k N sc X) (x : Str) : PE X (.Name x pos) (GoodE L X.K W (evName Γ N sc x)) := by
  unfold evName
  cases hs : slotOf N sc x with
  | some i =>
    obtain ⟨h1, h2, h3, h4⟩ := ok.slot hs
    exact s_var h1 h2 h3 h4
  | none =>
    dsimp only
    split
    · rename_i hg
      obtain ⟨g1, g2⟩ := ok.gl hg
      split
      · rename_i v e
        obtain ⟨v', u, h1, h2, h3⟩ := ok.glob x v e
        exact s_glob g1 h1 h2 h3 g2
      · split
        · rename_i ht
          rw [Bool.and_eq_true] at ht
          exact s_glob (v' := .ref (L.F x)) g1 (ok.top x ht.1) rfl (fun f H => by unfold RV; rfl) g2
        · exact peBad
    · exact peBad
theorem e_isi (ok : XOk Γ L call k N sc X) (h : ∀ e, PE X e (GoodE L X.K W (fe e))) {p : Pos} (hg : isGl sc "isinstance" = true) (args : List Expr) : PE X (.Call (.Name "isinstance" p) args [] pos) (GoodE L X.K W (evIsi fe sc args)) := by
  obtain ⟨g1, g2⟩ := ok.gl hg
  have m1 := ok.no (x := "isinstance") (by decide +kernel)
  have inT : ∀ {x : Str} {T : String}, tyNames.lookup x = some T → (x, T) ∈ tyNames ∧ X.mg x = none := fun {x T} e => by
    have mm := PySem.mem_of_lookup e
    refine ⟨mm, ok.no ?_⟩
    unfold bltNames
    exact List.mem_append_right _ (List.mem_map.mpr ⟨_, mm, rfl⟩)
  unfold evIsi
  split
  · rename_i a x p1
    split
    · rename_i hc
      rw [Bool.and_eq_true] at hc
      split
      · rename_i T e
        obtain ⟨t1, t2⟩ := inT e
        exact s_isi1 g1 m1 t1 (ok.gl hc.2).1 t2 (h a) hc.1
      · exact peBad
    · exact peBad
  · rename_i a es kk p1
    split
    · rename_i xs e
      split
      · rename_i hc
        simp only [Bool.and_eq_true] at hc
        have all : ∀ (es : List Expr) (xs : List (Str × String)), tyNamesOf es = some xs → es.map (fun e => match e with | .Name x _ => some x | _ => none) = xs.map (fun q => some q.1) ∧ ∀ q ∈ xs, q ∈ tyNames ∧ X.mg q.1 = none := by
          intro es
          induction es with
          | nil => intro xs e; simp [tyNamesOf] at e; subst e; exact ⟨rfl, fun q hq => by cases hq⟩
          | cons a es ih =>
            intro xs e
            cases a with
            | Name x p =>
              simp only [tyNamesOf] at e
              split at e
              · rename_i T l e1 e2
                cases e
                obtain ⟨i1, i2⟩ := ih l e2
                obtain ⟨t1, t2⟩ := inT e1
                refine ⟨by simp [i1], fun q hq => ?_⟩
                rcases List.mem_cons.mp hq with z | z
                · subst z; exact ⟨t1, t2⟩
                · exact i2 q z
              · cases e
            | _ => simp [tyNamesOf] at e
        obtain ⟨a1, a2⟩ := all es xs e
        refine s_isiT g1 m1 a1 (fun q hq => ⟨(a2 q hq).1, ?_, (a2 q hq).2⟩) (h a) hc.1.1 (of_decide_eq_true hc.2)
        exact (ok.gl (List.all_eq_true.mp hc.1.2 q hq)).1
      · exact peBad
    · exact peBad
  · exact peBad
theorem e_blt (ok : XOk Γ L call k N sc X) (h : ∀ e, PE X e (GoodE L X.K W (fe e))) {p : Pos} {x : Str} (hg : isGl sc x = true) (args : List Expr) (hst : args.all noStar = true) : PE X (.Call (.Name x p) args [] pos) (GoodE L X.K W (evBlt fe sc x args)) := by
  unfold evBlt
  split
  · rename_i e
    subst e
    exact e_isi ok h hg args
  · split
    · rename_i b a es e
      have hb : x ∈ bltNames := by
        unfold bltNames
        exact List.mem_append_left _ (List.mem_append_right _ (List.mem_map.mpr ⟨_, PySem.mem_of_lookup e, rfl⟩))
      have hst' := hst
      simp only [List.all_cons, Bool.and_eq_true] at hst'
      exact s_bi ok.calm e (ok.gl hg).1 (ok.no hb) (paL h (a :: es) hst) (star_cons hst'.1) (star_any hst'.2)
    · exact peBad
theorem e_listR (ok : XOk Γ L call k N sc X) (h : ∀ e, PE X e (GoodE L X.K W (fe e))) {p : Pos} {x : Str} (hg : isGl sc x = true) (args : List Expr) (hst : args.all noStar = true) : PE X (.Call (.Name x p) args [] pos) (GoodE L X.K W (evListR fe sc x args)) := by
  have mL := ok.no (x := "list") (by decide +kernel)
  have mR := ok.no (x := "range") (by decide +kernel)
  unfold evListR
  split
  · rename_i y p1 a p2
    split
    · rename_i hc
      simp only [Bool.and_eq_true, decide_eq_true_eq] at hc
      obtain ⟨⟨rfl, rfl⟩, hr⟩ := hc
      split
      · rename_i hs
        exact s_listR1 ok.calm (ok.gl hg).1 mL (ok.gl hr).1 mR (h a) hs
      · exact peBad
    · exact e_blt ok h hg _ hst
  · rename_i y p1 a b p2
    split
    · rename_i hc
      simp only [Bool.and_eq_true, decide_eq_true_eq] at hc
      obtain ⟨⟨rfl, rfl⟩, hr⟩ := hc
      split
      · rename_i hs
        rw [Bool.and_eq_true] at hs
        exact s_listR2 ok.calm (ok.gl hg).1 mL (ok.gl hr).1 mR (h a) (h b) hs.1 hs.2
      · exact peBad
    · exact e_blt ok h hg _ hst
  · exact e_blt ok h hg _ hst
theorem e_call (ok : XOk Γ L call k N sc X) (tk : Takes X W) (h : ∀ e, PE X e (GoodE L X.K W (fe e))) {p : Pos} (x : Str) (args : List Expr) (kws : List Keyword) : PE X (.Call (.Name x p) args kws pos) (GoodE L X.K W (evCall Γ call fe sc x args kws)) := by
  unfold evCall
  split
  · rename_i hc
    simp only [Bool.and_eq_true] at hc
    obtain ⟨⟨hg, hst⟩, hnm⟩ := hc
    obtain ⟨g1, g2⟩ := ok.gl hg
    have hr : Room k X.A := ok.room.mono (Nat.le_succ k)
    split
    · rename_i ht
      split
      · rename_i D eD
        have F := ok.fn x D eD
        split
        · rename_i hsh
          have hsh := of_decide_eq_true hsh
          split
          · rename_i hk
            rw [Bool.and_eq_true] at hk
            have hk0 : kws = [] := by cases kws with | nil => rfl | cons _ _ => simp at hk
            subst hk0
            exact s_call tk F hr g1 (ok.top x ht) g2 (paL h args hst) hst (fun e => by rw [e]; rfl) (fun ρ h us h' e => evA_len e) hsh (of_decide_eq_true hk.2)
          · split
            · rename_i sel hb
              exact s_callS tk F hr g1 (ok.top x ht) g2 (paL h args hst) (pkL h kws) hst hnm (fun e => by rw [e]; rfl) (fun e => by rw [e]; rfl) (fun ρ h us h' e => evA_len e) (fun ρ h us h' e => evK_len e) hsh hb (kwNames_len hnm)
            · exact peBad
        · exact peBad
      · exact peBad
    · split
      · rename_i C eC
        split
        · rename_i D eD
          split
          · rename_i hsh
            have hsh := of_decide_eq_true hsh
            split
            · rename_i sel hb
              exact s_make tk (ok.cls x C eC) (ok.fn C.init D eD) ok.room g1 (ok.clg x C eC) g2 (paL h args hst) (pkL h kws) hst hnm (fun e => by rw [e]; rfl) (fun e => by rw [e]; rfl) (fun ρ h us h' e => evA_len e) (fun ρ h us h' e => evK_len e) hsh hb (kwNames_len hnm)
            · exact peBad
          · exact peBad
        · exact peBad
      · split
        · rename_i hk
          have hk0 : kws = [] := by cases kws with | nil => rfl | cons _ _ => simp at hk
          subst hk0
          exact e_listR ok h hg args hst
        · exact peBad
  · exact peBad
theorem base_of {o : Expr} {x : Str} (h : baseOk o = true) : attributeBase o x X.env (eval o X.env) = eval o X.env := by
  apply base_ok
  unfold baseOk at h
  exact h
theorem e_meth (ok : XOk Γ L call k N sc X) (tk : Takes X W) (h : ∀ e, PE X e (GoodE L X.K W (fe e))) {apos : Pos} (o : Expr) (m : Str) (args : List Expr) (kws : List Keyword) : PE X (.Call (.Attribute o m apos) args kws pos) (GoodE L X.K W (evMeth Γ call fe o m apos args kws pos)) := by
  unfold evMeth
  split
  · rename_i hc
    simp only [Bool.and_eq_true] at hc
    obtain ⟨⟨⟨⟨hb, hst⟩, hnm⟩, hn⟩, hl⟩ := hc
    exact s_meth tk ok.cls ok.fn (ok.room.mono (Nat.le_succ k)) (h o) (paL h args hst) (pkL h kws) hst hnm (fun e => by rw [e]; rfl) (fun e => by rw [e]; rfl) (fun ρ h us h' e => evA_len e) (fun ρ h us h' e => evK_len e) (kwNames_len hnm) (base_of hb) (of_decide_eq_true hn) hl
  · exact peBad
theorem i_iter (ok : XOk Γ L call k N sc X) (h : ∀ e, PE X e (GoodE L X.K W (fe e))) (tg iter : Expr) : PI X tg iter (GoodI L X.K W (evI fe sc tg iter)) ∧ (isSetE iter = true → evI fe sc tg iter = iBad) := by
  have mR := ok.no (x := "range") (by decide +kernel)
  have mE := ok.no (x := "enumerate") (by decide +kernel)
  have mZ := ok.no (x := "zip") (by decide +kernel)
  unfold evI
  split
  · rename_i x p a p2
    refine ⟨?_, fun e => by simp [isSetE] at e⟩
    split
    · rename_i hc
      simp only [Bool.and_eq_true, decide_eq_true_eq] at hc
      obtain ⟨hg, rfl⟩ := hc
      split
      · rename_i hs; exact i_rng1 (ok.gl hg).1 mR (h a) (star_cons hs)
      · exact piBad
    · split
      · rename_i hc
        simp only [Bool.and_eq_true, decide_eq_true_eq] at hc
        obtain ⟨hg, rfl⟩ := hc
        split
        · rename_i hs
          rw [Bool.and_eq_true] at hs
          cases tg with
          | Tuple elts kk tp => exact i_enum (ok.gl hg).1 mE (h a) (star_cons hs.1)
          | _ => simp [isTupE] at hs
        · exact piBad
      · exact i_val (h _)
  · rename_i x p a b p2
    refine ⟨?_, fun e => by simp [isSetE] at e⟩
    split
    · rename_i hc
      simp only [Bool.and_eq_true, decide_eq_true_eq] at hc
      obtain ⟨hg, rfl⟩ := hc
      split
      · rename_i hs
        rw [Bool.and_eq_true] at hs
        exact i_rng2 (ok.gl hg).1 mR (h a) (h b) (by rw [star_cons hs.1, star_cons hs.2]; rfl) (star_cons hs.2)
      · exact piBad
    · split
      · rename_i hc
        simp only [Bool.and_eq_true, decide_eq_true_eq] at hc
        obtain ⟨hg, rfl⟩ := hc
        split
        · rename_i hs
          simp only [Bool.and_eq_true] at hs
          obtain ⟨⟨h1, h2⟩, h3⟩ := hs
          cases tg with
          | Tuple elts kk tp => exact i_zip (ok.gl hg).1 mZ (h a) (h b) (star_cons h1) (star_cons h2) (star_any (es := [b]) (by simp [h2]))
          | _ => simp [isTupE] at h3
        · exact piBad
      · exact i_val (h _)
  · split
    · exact ⟨piBad, fun _ => rfl⟩
    · rename_i hs
      exact ⟨i_val (h _), fun e => absurd e hs⟩
theorem e_cmp (ok : XOk Γ L call k N sc X) (h : ∀ e, PE X e (GoodE L X.K W (fe e))) (a : Expr) (ops : List CmpOp) (bs : List Expr) : PE X (.Compare a ops bs pos) (GoodE L X.K W (evCmp fe a ops bs)) ∧ PT X (.Compare a ops bs pos) (GoodT L X.K W (tE (evCmp fe a ops bs))) := by
  have bad : ∀ {e : Expr}, PT X e (GoodT L X.K W (tE eBad)) := fun {e} => ptNo fun σ H Q ⟨f, ρ, h, _, _, p⟩ => p
  unfold evCmp
  split
  · rename_i op b
    split
    · exact ⟨peBad, bad⟩
    · rename_i hm
      have hm : behindInMarks op b = false := by simpa using hm
      exact ⟨s_cmp ok.units (h a) (h b) hm, t_cmp ok.units (h a) (h b) hm⟩
  · rename_i op op' b c
    split
    · exact ⟨peBad, bad⟩
    · rename_i hm
      have hm : lastMarks [op, op'] [b, c] = false := by simpa using hm
      refine ⟨s_chain ok.units (h a) (h b) (h c) hm, ?_⟩
      refine t_of_val (pt_chain (scmp (L := L) ok.units op) (scmp (L := L) ok.units op') (h a) (h b) (h c) hm) (fun σ H Q G => ?_) (fun ρ h x h1 e => chain_bl e)
      -- the value's own reading
      obtain ⟨f, ρ, hh, S, E, p⟩ := G
      refine ⟨f, ρ, hh, S, E, (PostG.bind (R := RV L X.K) p).imp fun x' H1 ⟨f1, x, h1, e1, X1, S1, R1, p1⟩ => ?_⟩
      refine ⟨f1, ρ, h1, S1, E.mono S X1, (PostG.bind (R := RV L X.K) p1).imp fun y' H2 ⟨f2, y, h2, e2, X2, S2, R2, p2⟩ => ?_⟩
      refine ⟨f2, h2, x, y, S2, R1.mono S1 X2, R2, ((PostG.bind (R := RV L X.K) p2).nox (cmpR_nox _ _ _ _)).imp fun z' H3 ⟨f3, z, h3, e3, X3, S3, R3, p3⟩ => ?_⟩
      obtain ⟨kk, rfl⟩ := cmpR_bl e3
      obtain rfl := rv_bl R3
      refine ⟨kk, rfl, ?_⟩
      cases kk with
      | true =>
        rw [if_pos rfl]
        refine ⟨f3, ρ, h3, S3, ((E.mono S X1).mono S1 X2).mono S2 X3, (PostG.bind (R := RV L X.K) p3).imp fun w' H4 ⟨f4, w, h4, e4, X4, S4, R4, p4⟩ => ?_⟩
        exact ⟨f4, h4, y, w, S4, (R2.mono S2 X3).mono S3 X4, R4, p4.nox (cmpR_nox _ _ _ _)⟩
      | false =>
        rw [if_neg Bool.false_ne_true]
        exact now S3 (mk_bl _) p3
  · exact ⟨peBad, bad⟩
theorem e_sub (h : ∀ e, PE X e (GoodE L X.K W (fe e))) (a b : Expr) : PE X (.Subscript a b pos) (GoodE L X.K W (evSub fe a b)) := by
  have po : ∀ o : Option Expr, PO X o (GoodO L X.K W (evO fe o)) := fun o => by
    cases o with
    | none => exact o_none
    | some e => exact o_some (h e)
  cases b with
  | Slice lo hi st p =>
    cases st with
    | none => exact s_slice (h a) (po lo) (po hi)
    | some _ => exact peBad
  | _ => exact s_idx (h a) (h _) (plain_ix rfl)
theorem e_lc (ok : XOk Γ L call k N sc X) (n : Nat) (ih : ∀ (sc : Scope) (X : Cx), XOk Γ L call k N sc X → ∀ W, Takes X W → ∀ e, PE X e (GoodE L X.K W (ev Γ call N n sc e).1) ∧ PT X e (GoodT L X.K W (ev Γ call N n sc e).2)) (tk : Takes X W)
    (elt : Expr) (gens : List Comprehension) (scope : Scope) : PE X (.ListComp elt gens scope pos) (GoodE L X.K W (evLc N (ev Γ call N n) sc elt gens scope)) ∧
      ∀ {i : Nat} {y : Str} {py spos : Pos}, X.N[i]? = some y → X.env.scope.names.lookup y = some .local → swapsWith (.ListComp elt gens scope pos) (some (.Name y py)) spos.line X.env = pure true →
        PS X (.Assign [.Name y py] (.ListComp elt gens scope pos) spos) (GoodS L X.K W (sSet i (evLc N (ev Γ call N n) sc elt gens scope))) := by
  have badS : ∀ {st : Stmt} {i : Nat}, PS X st (GoodS L X.K W (sSet i eBad)) := fun {st i} => psNo fun D σ H ⟨f, ρ, h, _, _, p⟩ => p
  unfold evLc
  split
  · rename_i tg iter ifs isa
    split
    · rename_i t et
      split
      · rename_i hc
        simp only [Bool.and_eq_true, decide_eq_true_eq] at hc
        obtain ⟨⟨⟨rfl, hb⟩, hv⟩, hl⟩ := hc
        have hN := ok.hN
        have hi := i_iter ok (fun e => (ih sc X ok W tk e).1) tg iter
        have bo : BlkOk X.N X.env.scope scope (ownOf N scope) := by rw [ok.hN, ok.hsc]; exact blkOk_by hb
        have hvs : ∀ j ∈ tgS t, j ∈ (ownOf N scope).map (·.2) := fun j hj => by
          have := List.all_eq_true.mp hv j hj
          simpa using this
        have hg : ∀ (s : Shared) (H : Hp) (C : Addr) (cl : List (Str × Addr)) (fp : List Addr), PG (X.blk s H scope (compEnvC scope cl C X.env) fp) tg (GoodG L X.K t) := fun s H C cl fp => by
          refine tg_ok (X := X.blk s H scope (compEnvC scope cl C X.env) fp) (sc := scope) ok.hN ok.nd ok.calm (fun x hx => ?_) 5 tg t et
          have keep : ∀ kd, kd ≠ NameKind.free → scope.names.lookup x = some kd → (compEnvC scope cl C X.env).scope.names.lookup x = some kd := fun kd nf e => lookup_relS_keep (sc := X.env.scope) nf e
          cases e : scope.names.lookup x with
          | none => rw [e] at hx; simp [locK] at hx
          | some kd =>
            rw [e] at hx
            cases kd with
            | «local» => exact ⟨.inl (keep _ (by decide) e), .inr (keep _ (by decide) e)⟩
            | cell => exact ⟨.inr (keep _ (by decide) e), .inl (by show (scope.names.lookup x == some NameKind.cell) = true; rw [e]; rfl)⟩
            | free => simp [locK] at hx
            | globalExplicit => simp [locK] at hx
            | globalImplicit => simp [locK] at hx
        have hE := fun (s : Shared) (H : Hp) (C : Addr) (cl : List (Str × Addr)) (fp : List Addr) (e : Expr) => ih (relS scope sc) (X.blk s H scope (compEnvC scope cl C X.env) fp) (ok.blk s H scope cl C fp) WF takes0 e
        have ht : ∀ (s : Shared) (H : Hp) (C : Addr) (cl : List (Str × Addr)) (fp : List Addr), PTs (X.blk s H scope (compEnvC scope cl C X.env) fp) ifs (GoodT L X.K WF (evIfs (fun e => (ev Γ call N n (relS scope sc) e).2) ifs)) := fun s H C cl fp => by
          match ifs, hl with
          | [], _ => exact ts_nil
          | [c], _ => exact ts_one (hE s H C cl fp c).2
          | _ :: _ :: _, hl => simp at hl
        have he := fun (s : Shared) (H : Hp) (C : Addr) (cl : List (Str × Addr)) (fp : List Addr) => (hE s H C cl fp elt).1
        cases hset : isSetE iter with
        | true =>
          have eb := hi.2 hset
          rw [eb]
          refine ⟨peNo fun σ H Q ⟨f, ρ, h, _, _, p⟩ => p, fun _ _ _ => psNo fun D σ H ⟨f, ρ, h, _, _, p⟩ => p⟩
        | false =>
          refine ⟨s_lc ok.calm (by rw [hN]; exact ok.nd) hi.1 bo hvs hg ht he (folded_ok hset), fun hy hyl hsw => ?_⟩
          exact st_setLc ok.calm (by rw [hN]; exact ok.nd) hy hyl hsw hi.1 bo hvs hg ht he (folded_ok hset)
      · exact ⟨peBad, fun _ _ _ => badS⟩
    · exact ⟨peBad, fun _ _ _ => badS⟩
  · exact ⟨peBad, fun _ _ _ => badS⟩
/-- THE EXPRESSIONS -/
theorem sE : ∀ (n : Nat) (sc : Scope) (X : Cx), XOk Γ L call k N sc X → ∀ W, Takes X W → ∀ e, PE X e (GoodE L X.K W (ev Γ call N n sc e).1) ∧ PT X e (GoodT L X.K W (ev Γ call N n sc e).2)
  | 0, sc, X, ok, W, tk, e => ⟨peBad, ptBad⟩
  | n + 1, sc, X, ok, W, tk, e => by
    have ih := sE n
    have h : ∀ e, PE X e (GoodE L X.K W (ev Γ call N n sc e).1) := fun e => (ih sc X ok W tk e).1
    have ht : ∀ e, PT X e (GoodT L X.K W (ev Γ call N n sc e).2) := fun e => (ih sc X ok W tk e).2
    have v : PE X e (GoodE L X.K W (ev1 Γ call N (ev Γ call N n) sc e)) := by
      cases e with
      | Constant c j p =>
        cases c with
        | none => exact s_non
        | bool b => exact s_bl
        | int i => exact s_int
        | str x => exact s_str
        | _ => exact peBad
      | Name x p => exact e_name ok x
      | BinOp a op b p => exact s_bin (h a) (h b)
      | UnaryOp op a p =>
        cases op with
        | USub => exact s_neg (h a)
        | Not => exact s_not (h a)
        | _ => exact peBad
      | BoolOp op vs p =>
        cases op with
        | And => exact andL h vs
        | Or => exact orL h vs
      | Compare a ops bs p => exact (e_cmp ok h a ops bs).1
      | IfExp c a b p => exact s_if (ht c) (h a) (h b)
      | Tuple es kk p =>
        simp only [ev1]
        split
        · rename_i hs; exact s_tup (paL h es hs)
        · exact peBad
      | List es p =>
        simp only [ev1]
        split
        · rename_i hs; exact s_lst (paL h es hs)
        · exact peBad
      | Subscript a b p => exact e_sub h a b
      | Attribute a x p =>
        simp only [ev1]
        split
        · rename_i hs
          refine s_attr (h a) ok.cls (fun c C g ec ep => ?_) ok.room (base_of hs)
          obtain ⟨D, d1, d2, d3, d4⟩ := ok.prop c C x g ec ep
          exact ⟨D, ok.fn g D d1, d2, d3, d4⟩
        · exact peBad
      | ListComp elt gens scope p => exact (e_lc ok n ih tk elt gens scope).1
      | Call f args kws p =>
        cases f with
        | Name x p1 => exact e_call ok tk h x args kws
        | Attribute o m apos => exact e_meth ok tk h o m args kws
        | _ => exact peBad
      | _ => exact peBad
    refine ⟨v, ?_⟩
    show PT X e (GoodT L X.K W (evT1 Γ call N (ev Γ call N n) sc e))
    cases e with
    | UnaryOp op a p =>
      cases op with
      | Not => exact t_not (ht a)
      | USub => exact t_val v (fun _ => rfl)
      | UAdd => exact t_val v (fun _ => rfl)
      | Invert => exact t_val v (fun _ => rfl)
    | BoolOp op vs p =>
      cases op with
      | And => exact (andLT ht vs).pt
      | Or => exact (orLT ht vs).pt
    | IfExp c a b p => exact ptBad
    | Compare a ops bs p => exact (e_cmp ok h a ops bs).2
    | _ => exact t_val v (fun _ => rfl)
end
end Mp
set_option Elab.async false
set_option linter.all false
set_option maxRecDepth 100000
set_option maxHeartbeats 2000000
namespace Mp
open PySem PySem.Spec PyProof.Rows L2
/-! ### statements read off the syntax -/
def isCompE : Expr → Bool
  | .ListComp _ _ _ _ => true
  | .SetComp _ _ _ _ => true
  | .DictComp _ _ _ _ _ => true
  | _ => false
def isListCompE : Expr → Bool
  | .ListComp _ _ _ _ => true
  | _ => false
def evSs (self : Stmt → MS) : List Stmt → MS
  | [] => sSkip
  | s :: r => match r with
    | [] => self s
    | _ => sSeq (self s) (evSs self r)
def parOk (sc : Scope) (x y : Str) (px py : Pos) (a b : Expr) : Bool := decide (sc.names.lookup x = some .local) && decide (sc.names.lookup y = some .local) && !(decide (x = y)) && (py.line == px.line) && noStar a && noStar b && !([a, b].all (foldedForSure 8)) && !([a, b].all (constantsAlone 8)) && decide (sc.kind = .function)
/-- how deep expressions are read; how many turns a while may take -/
def eFuel : Nat := 40
def wFuel : Nat := 100000
section
variable (Γ : Pg) (call : CallT) (N : List Str) (sc : Scope)
def evX (e : Expr) : ME := (ev Γ call N (eFuel + 1) sc e).1
def evXT (e : Expr) : MT := (ev Γ call N (eFuel + 1) sc e).2
def evTup (ts : List Expr) (value : Expr) (tg : Expr) : MS := match ts, value with
  | [.Name x px, .Name y py], .Tuple [a, b] _ _ => if parOk sc x y px py a b then (match findIx N x, findIx N y with
    | some i, some j => sPar i j (evA (evX Γ call N sc) [a, b])
    | _, _ => sBad) else sBad
  | _, value => if isTupE value || isCompE value then sBad else (match tgOf N sc 5 tg with
    | some t => sAsg t (evX Γ call N sc value)
    | none => sBad)
def evAsg (t value : Expr) : MS := match t with
  | .Name x _ => if locK (sc.names.lookup x) && (isListCompE value || !isCompE value) then (match findIx N x with
    | some i => sSet i (evX Γ call N sc value)
    | none => sBad) else sBad
  | .Attribute o x _ => sSetAttr Γ x (evX Γ call N sc o) (evX Γ call N sc value)
  | .Subscript a b _ => if isSlice b then sBad else sSetIdx (evX Γ call N sc a) (evX Γ call N sc b) (evX Γ call N sc value)
  | .Tuple ts _ _ => evTup Γ call N sc ts value t
  | _ => sBad
def evAug (t : Expr) (op : Operator) (value : Expr) : MS := match t with
  | .Name x _ => if locK (sc.names.lookup x) then (match findIx N x with
    | some i => sAug i op (evX Γ call N sc value)
    | none => sBad) else sBad
  | .Attribute o x _ => sAugAttr Γ x (evX Γ call N sc o) op (evX Γ call N sc value)
  | .Subscript a b _ => if isSlice b then sBad else sAugIdx (evX Γ call N sc a) (evX Γ call N sc b) op (evX Γ call N sc value)
  | _ => sBad
def evS1 (self : Stmt → MS) (st : Stmt) : MS := match st with
  | .Pass _ => sSkip
  | .Break _ => sBrk
  | .Continue _ => sCnt
  | .Return o _ => (match o with
    | none => sRetN
    | some e => sRet (evX Γ call N sc e))
  | .Expr e _ => if isCompE e then sBad else sExpr (evX Γ call N sc e)
  | .If c a b _ => sIf (evXT Γ call N sc c) (evSs self a) (evSs self b)
  | .Assign ts value _ => (match ts with
    | [t] => evAsg Γ call N sc t value
    | _ => sBad)
  | .AugAssign t op value _ => evAug Γ call N sc t op value
  | .For tg iter body els _ => if isSetE iter then sBad else (match tgOf N sc 5 tg with
    | some t => sFor t (evI (evX Γ call N sc) sc tg iter) (evSs self body) (evSs self els)
    | none => sBad)
  | .While c body els _ => sWhile wFuel (evXT Γ call N sc c) (evSs self body) (evSs self els)
  | _ => sBad
def evS : Nat → Stmt → MS
  | 0 => fun _ => sBad
  | n + 1 => evS1 Γ call N sc (evS n)
end
def fin (r : Res Fl) : Res Val := match r with
  | .ok (.nx _) h => .ok .non h
  | .ok (.rt v) h => .ok v h
  | .ok (.xc _ c fs) h => .exc c fs h
  | _ => .bad
@[simp] theorem fin_rt (v : Val) (h : Mem) : fin (.ok (.rt v) h) = .ok v h := rfl
@[simp] theorem fin_nx (ρ : Env) (h : Mem) : fin (.ok (.nx ρ) h) = .ok .non h := rfl
def startE (N : List Str) (vs : List Val) : Env := vs.map some ++ List.replicate (N.length - vs.length) none
def sFuel : Nat := 20
def runD (Γ : Pg) (call : CallT) (D : FnD) (args : List Val) (h : Mem) : Res Val :=
  if args.length = D.ps.length then fin (evSs (evS Γ call D.N D.sc sFuel) D.body (startE D.N args) h) else .bad
def callF (Γ : Pg) : Nat → CallT
  | 0 => fun _ _ _ => .bad
  | d + 1 => fun g args h => match Γ.fns.lookup g with
    | none => .bad
    | some D => runD Γ (callF Γ d) D args h
section
variable {Γ : Pg} {L : Lk} {call : CallT} {k : Nat} {N : List Str} {sc : Scope} {X : Cx} {W : WX} {pos : Pos}
theorem psBad {st : Stmt} : PS X st (GoodS L X.K W sBad) := psNo fun D σ H ⟨f, ρ, h, _, _, p⟩ => p
theorem ssL {self : Stmt → MS} (h : ∀ st, PS X st (GoodS L X.K W (self st))) : ∀ sts : List Stmt, PSs X sts (GoodS L X.K W (evSs self sts))
  | [] => ss_nil
  | [s] => ss_one (h s)
  | s :: t :: r => ss_cons (h s) (ssL h (t :: r))
theorem sw_name {e : Expr} {t : Str} {p : Pos} {l : Nat} (h : isCompE e = false) : swapsWith e (some (.Name t p)) l X.env = pure false := by
  cases e <;> first | rfl | (simp [isCompE] at h)
theorem sw_none {e : Expr} {l : Nat} (h : isCompE e = false) : swapsWith e none l X.env = pure false := by
  cases e <;> first | rfl | (simp [isCompE] at h)
theorem sw_attr {e o : Expr} {x : Str} {p : Pos} {l : Nat} : swapsWith e (some (.Attribute o x p)) l X.env = pure false := by
  cases e <;> rfl
theorem sw_sub {e a b : Expr} {p : Pos} {l : Nat} : swapsWithSole [.Subscript a b p] e l X.env = pure false := by
  show swapsWith e (some (.Subscript a b p)) l X.env = pure false
  cases e <;> rfl
theorem sw_tup {e : Expr} {ts : List Expr} {kk : Nat} {p : Pos} {l : Nat} : swapsWithSole [.Tuple ts kk p] e l X.env = pure false := by
  show swapsWith e (some (.Tuple ts kk p)) l X.env = pure false
  cases e <;> rfl
theorem ss_none {e : Expr} {ts : List Expr} {kk : Nat} {p : Pos} (h : isTupE e = false) : swappedStores [.Tuple ts kk p] e X.env = pure none := by
  cases e <;> first | rfl | (simp [isTupE] at h)
theorem ss_sub {e a b : Expr} {p : Pos} : swappedStores [.Subscript a b p] e X.env = pure none := by
  cases e <;> rfl
theorem loc_hf (hsc : X.env.scope = sc) (hfn : ∀ x, X.fn x = true) : ∀ x, locK (sc.names.lookup x) = true → L2.Loc X.env.scope x ∧ (X.fn x = true ∨ X.env.scope.names.lookup x = some .local) := fun x h =>
  ⟨by rw [hsc]; exact locK_of rfl h, .inl (hfn x)⟩
theorem swap2 {env : PySem.Env} {x y : Str} {px py p pt : Pos} {a b : Expr} {kk k2 : Nat} (kx : env.kindOf x = some .local) (ky : env.kindOf y = some .local) (bk : env.blockKind = .function) (na : noStar a = true) (nb : noStar b = true) (hxy : ¬ x = y) (hl : (py.line == px.line) = true) (hf : [a, b].all (foldedForSure 8) = false) (hk : [a, b].all (constantsAlone 8) = false) :
    swappedStores [.Tuple [.Name x px, .Name y py] kk p] (.Tuple [a, b] k2 pt) env = pure (some [x, y]) := by
  have ns : ([a, b].any fun | .Starred .. => true | _ => false) = false := by
    have e : ∀ e : Expr, noStar e = true → (match e with | .Starred .. => true | _ => false) = false := fun e he => by
      cases e <;> first | rfl | (simp [noStar] at he)
    simp only [List.any_cons, List.any_nil, e a na, e b nb]
    rfl
  have hfm : ([Expr.Name x px, Expr.Name y py].filterMap fun
      | .Name id pos => if env.kindOf id == some .local && pos.line == px.line then some id else none
      | _ => none) = [x, y] := by
    simp [kx, ky, beq_iff_eq.mp hl]
  have hed : ([x, y] : List Str).eraseDups.length = 2 := by
    have : (y == x) = false := by simpa using fun e => hxy e.symm
    simp [List.eraseDups_cons, this]
  unfold swappedStores
  simp only [bk, List.length_cons, List.length_nil, hf, hk]
  refine (if_neg (by decide)).trans ((if_neg (fun hh => Bool.noConfusion (ns.symm.trans hh))).trans ((if_neg (fun hh => ?_)).trans ?_))
  · have h2 : (([x, y] : List Str).length != 0 + 1 + 1 || ([x, y] : List Str).eraseDups.length != ([x, y] : List Str).length) = true := hfm ▸ hh
    rw [hed] at h2
    simp at h2
  · exact congrArg (fun l => (pure (some l) : Sem (Option (List Str)))) hfm
theorem st_assign (ok : XOk Γ L call k N sc X) (tk : Takes X W) (hfn : ∀ x, X.fn x = true) (t value : Expr) : PS X (.Assign [t] value pos) (GoodS L X.K W (evAsg Γ call N sc t value)) := by
  have h : ∀ e, PE X e (GoodE L X.K W (evX Γ call N sc e)) := fun e => (sE (eFuel + 1) sc X ok W tk e).1
  have nd : X.N.Nodup := by rw [ok.hN]; exact ok.nd
  have hf := loc_hf ok.hsc hfn
  cases t with
  | Name x p =>
    simp only [evAsg]
    split
    · rename_i hc
      rw [Bool.and_eq_true] at hc
      split
      · rename_i i hi
        have hi' : X.N[i]? = some x := by rw [ok.hN]; exact findIx_get hi
        have go : ∀ {e : Expr}, swapsWith e (some (.Name x p)) pos.line X.env = pure false → PS X (.Assign [.Name x p] e pos) (GoodS L X.K W (sSet i (evX Γ call N sc e))) := fun {e} hs => st_set nd hi' (hf x hc.1).1 (h e) hs (hf x hc.1).2
        by_cases hv : isCompE value = false
        · exact go (sw_name hv)
        · cases value with
          | ListComp elt gens scope vp =>
            have sw : swapsWith (.ListComp elt gens scope vp) (some (.Name x p)) pos.line X.env = pure (X.env.blockKind == .function && X.env.kindOf x == some .local && p.line == vp.line && !(scope.names.any fun (n, k) => n == x && (k == .local || k == .cell))) := rfl
            cases hb : (X.env.blockKind == .function && X.env.kindOf x == some .local && p.line == vp.line && !(scope.names.any fun (n, k) => n == x && (k == .local || k == .cell))) with
            | false => rw [hb] at sw; exact go sw
            | true =>
              rw [hb] at sw
              simp only [Bool.and_eq_true] at hb
              have hl : X.env.scope.names.lookup x = some .local := by
                have := hb.1.1.2
                exact beq_iff_eq.mp this
              exact (e_lc ok eFuel (sE eFuel) tk elt gens scope).2 hi' hl sw
          | _ => simp [isCompE, isListCompE] at hv hc
      · exact psBad
    · exact psBad
  | Attribute o x p => exact st_setAttr ok.cls (h o) (h value) sw_attr
  | Subscript a b p =>
    simp only [evAsg]
    split
    · exact psBad
    · rename_i hs
      have hs : isSlice b = false := by simpa using hs
      refine st_setIdx (h a) (h b) (h value) sw_sub ss_sub ?_
      intro v
      cases b <;> first | rfl | (simp [isSlice] at hs)
  | Tuple ts kk p =>
    simp only [evAsg, evTup]
    split
    · rename_i x px y py a b k2 pt2
      split
      · rename_i hp
        split
        · rename_i i j hi hj
          unfold parOk at hp
          simp only [Bool.and_eq_true, decide_eq_true_eq, Bool.not_eq_true', decide_eq_false_iff_not] at hp
          obtain ⟨⟨⟨⟨⟨⟨⟨⟨h1, h2⟩, h3⟩, h4⟩, h5⟩, h6⟩, h7⟩, h8⟩, h9⟩ := hp
          have hi' : X.N[i]? = some x := by rw [ok.hN]; exact findIx_get hi
          have hj' : X.N[j]? = some y := by rw [ok.hN]; exact findIx_get hj
          have hij : i ≠ j := fun e => by
            subst e
            rw [hi'] at hj'
            cases hj'
            exact h3 rfl
          refine st_par ok.calm nd hi' hj' hij (by rw [ok.hsc]; exact h1) (by rw [ok.hsc]; exact h2) (paL h [a, b] (by simp [h5, h6])) ?_
          have kx : X.env.kindOf x = some .local := by show X.env.scope.names.lookup x = _; rw [ok.hsc]; exact h1
          have ky : X.env.kindOf y = some .local := by show X.env.scope.names.lookup y = _; rw [ok.hsc]; exact h2
          have bk : X.env.blockKind = .function := by
            unfold Env.blockKind
            rw [ok.hsc, h9]
            rfl
          exact swap2 kx ky bk h5 h6 h3 h4 h7 h8
        · exact psBad
      · exact psBad
    · split
      · exact psBad
      · rename_i hv
        have hv : isTupE value = false ∧ isCompE value = false := by simpa using hv
        split
        · rename_i t et
          exact st_asg (h value) (tg_ok ok.hN ok.nd ok.calm hf 5 _ t et) sw_tup (ss_none hv.1) rfl
        · exact psBad
  | _ => exact psBad
theorem st_augS (ok : XOk Γ L call k N sc X) (tk : Takes X W) (hfn : ∀ x, X.fn x = true) (t : Expr) (op : Operator) (value : Expr) : PS X (.AugAssign t op value pos) (GoodS L X.K W (evAug Γ call N sc t op value)) := by
  have h : ∀ e, PE X e (GoodE L X.K W (evX Γ call N sc e)) := fun e => (sE (eFuel + 1) sc X ok W tk e).1
  have nd : X.N.Nodup := by rw [ok.hN]; exact ok.nd
  have hf := loc_hf ok.hsc hfn
  cases t with
  | Name x p =>
    simp only [evAug]
    split
    · rename_i hc
      split
      · rename_i i hi
        exact st_aug nd (by rw [ok.hN]; exact findIx_get hi) (hf x hc).1 (h value) (hf x hc).2
      · exact psBad
    · exact psBad
  | Attribute o x p => exact st_augAttr ok.cls (h o) (h value)
  | Subscript a b p =>
    simp only [evAug]
    split
    · exact psBad
    · rename_i hs
      have hs : isSlice b = false := by simpa using hs
      refine st_augIdx (h a) (h b) (h value) ?_
      intro ov iv new
      cases b <;> first | rfl | (simp [isSlice] at hs)
  | _ => exact psBad
/-- THE STATEMENTS -/
theorem sS (ok : XOk Γ L call k N sc X) (tk : Takes X W) (hp : PassesOwn (model X.prog X.w) X.A X.env X.xe) (hfn : ∀ x, X.fn x = true) : ∀ (n : Nat) (st : Stmt), PS X st (GoodS L X.K W (evS Γ call N sc n st))
  | 0, st => psBad
  | n + 1, st => by
    have h : ∀ e, PE X e (GoodE L X.K W (evX Γ call N sc e)) := fun e => (sE (eFuel + 1) sc X ok W tk e).1
    have ht : ∀ e, PT X e (GoodT L X.K W (evXT Γ call N sc e)) := fun e => (sE (eFuel + 1) sc X ok W tk e).2
    have ih := ssL (sS ok tk hp hfn n)
    show PS X st (GoodS L X.K W (evS1 Γ call N sc (evS Γ call N sc n) st))
    cases st with
    | Pass p => exact st_pass
    | Break p => exact st_brk
    | Continue p => exact st_cnt
    | Return o p =>
      cases o with
      | none => exact st_retN
      | some e => exact st_ret (h e)
    | Expr e p =>
      simp only [evS1]
      split
      · exact psBad
      · rename_i hc
        exact st_expr (h e) (sw_none (by simpa using hc))
    | If c a b p => exact st_if (ht c) (ih a) (ih b)
    | Assign ts value p =>
      match ts with
      | [t] => exact st_assign ok tk hfn t value
      | [] => exact psBad
      | _ :: _ :: _ => exact psBad
    | AugAssign t op value p => exact st_augS ok tk hfn t op value
    | For tg iter body els p =>
      simp only [evS1]
      split
      · exact psBad
      · rename_i hs
        have hs : isSetE iter = false := by simpa using hs
        split
        · rename_i t et
          exact st_for hp ok.calm (i_iter ok h tg iter).1 (tg_ok ok.hN ok.nd ok.calm (loc_hf ok.hsc hfn) 5 tg t et) (ih body) (ih els) (folded_ok hs)
        · exact psBad
    | While c body els p => exact st_while hp (ht c) (ih body) (ih els)
    | _ => exact psBad
end
end Mp
set_option Elab.async false
set_option linter.all false
set_option maxRecDepth 100000
set_option maxHeartbeats 2000000
namespace Mp
open PySem PySem.Spec PyProof.Rows L2
/-! ### the defs, all levels -/
structure DefF (L : Lk) (K : PySem.W.Frag) (Γ : Pg) (g : Str) (D : FnD) : Prop where
  ex : ∃ (x qual : Str) (params : Arguments) (dvs : List V) (kws : List (Str × V)) (fd : FuncData), FunD K x qual params D.body D.sc dvs kws (L.F g) fd ∧ ∀ n ks sel, (g, n, ks) ∈ Γ.shapes → bindV D n ks = some sel → ShpOk L K fd D.ps n ks sel ∧ (ks = [] → n = D.ps.length → Binds K fd D.ps [])
  sc : C8.scC D.N D.ps D.sc = true
structure PgOk (Γ : Pg) (L : Lk) (K : PySem.W.Frag) (mg : Str → Option Value) : Prop where
  df : ∀ g D, Γ.fns.lookup g = some D → DefF L K Γ g D
  top : ∀ g, Γ.tops.contains g = true → mg g = some (.ref (L.F g))
  cls : ∀ c C, Γ.cls.lookup c = some C → ClF L K c C
  clg : ∀ c C, Γ.cls.lookup c = some C → mg c = some (.ref (L.C c))
  glob : ∀ x v, Γ.glob.lookup x = some v → ∃ v' u, mg x = some u ∧ RelV v' u ∧ ∀ f H, RV L K f H v v'
  blt : ∀ x ∈ bltNames, Γ.tops.contains x = false → Γ.cls.lookup x = none → Γ.glob.lookup x = none → mg x = none
  nob : ∀ x ∈ bltNames, Γ.tops.contains x = false ∧ Γ.cls.lookup x = none ∧ Γ.glob.lookup x = none
  prop : ∀ c C x g, Γ.cls.lookup c = some C → C.props.lookup x = some g → ∃ D, Γ.fns.lookup g = some D ∧ D.ps.length = 1 ∧ (g, 1, []) ∈ Γ.shapes ∧ ∃ sel, bindV D 1 [] = some sel
section
variable {Γ : Pg} {L : Lk} {P : Program} {w : World} {K : PySem.W.Frag} {mg : Str → Option Value} {base : Heap}
theorem spF_bad {n : Nat} {vs : List V} {H : Hp} {Q : VK} {E : XK} {m : List Val → Mem → Res Val} (hm : ∀ ts h, m ts h = .bad) (h : spF L K n m vs H Q E) : False := by
  obtain ⟨_, f, hh, ts, _, _, p⟩ := h
  rw [hm] at p
  exact p
theorem envR_none {f : Nm} {H : Hp} (n : Nat) : EnvR L K f H (List.replicate n none) (List.replicate n none) :=
  ⟨by simp, fun i v e => by
    rw [List.getElem?_replicate] at e
    split at e <;> cases e⟩
theorem envR_cons {f : Nm} {H : Hp} {ρ : Mp.Env} {σ : L2.St} {v : Val} {v' : V} (r : RV L K f H v v') (E : EnvR L K f H ρ σ) : EnvR L K f H (some v :: ρ) (some v' :: σ) :=
  ⟨by simp [E.len], fun i w e => by
    cases i with
    | zero => cases e; exact ⟨v', rfl, r⟩
    | succ i => exact E.at_ i w e⟩
theorem envR_start {f : Nm} {H : Hp} {ρ0 : Mp.Env} {σ0 : L2.St} (h0 : EnvR L K f H ρ0 σ0) : ∀ {ts : List Val} {vs : List V}, RVs L K f H ts vs → EnvR L K f H (ts.map some ++ ρ0) (vs.map some ++ σ0)
  | [], vs, r => by
    unfold RVs at r
    subst r
    exact h0
  | t :: ts, vs, r => by
    unfold RVs at r
    obtain ⟨v, r', rfl, h1, h2⟩ := r
    exact envR_cons h1 (envR_start h0 h2)
theorem fnStep {d : Nat} {g : Str} {D : FnD} {x qual : Str} {params : Arguments} {dvs : List V} {kws : List (Str × V)} {fd : FuncData} (pg : PgOk Γ L K mg) (ih : ∀ g' D', Γ.fns.lookup g' = some D' → FnF L P w K mg base (2 * d) Γ (callF Γ d) g' D') (hg : Γ.fns.lookup g = some D)
    (F : FunD K x qual params D.body D.sc dvs kws (L.F g) fd) : FnOk P w K mg base (L2.CX P w) (2 * (d + 1)) (L.F g) fd D.ps (spF L K D.ps.length (callF Γ (d + 1) g)) := by
    have sc := C8.fnScope_by (pg.df g D hg).sc
    refine FunD.ok (k := 2 * d + 1) F sc (fun vs H Q E h => h.1) ?_
    intro cdv A outer s H vs Q E hr hsp
    obtain ⟨hl, f, h, ts, S, R, p⟩ := hsp
    have ok : XOk Γ L (callF Γ d) (2 * d) D.N D.sc (cxOf (L2.CX P w) P w K mg base D.N qual D.sc (L.F g) cdv A outer s H E) :=
      ⟨rfl, sc.nd, rfl, rfl, hr, ih, pg.top, pg.cls, pg.clg, pg.glob, pg.blt, pg.nob, pg.prop⟩
    have tk : Takes (cxOf (L2.CX P w) P w K mg base D.N qual D.sc (L.F g) cdv A outer s H E) (fun cls d _ H => E cls d H) := takes_of rfl rfl rfl rfl
    refine ⟨_, ssL (sS (L := L) ok tk (passes_of rfl) (fun x => rfl) sFuel) D.body, ?_⟩
    refine ⟨f, startE D.N ts, h, S, ?_, ?_⟩
    · unfold startE L2.start
      rw [R.length]
      exact envR_start (envR_none _) R
    · have e : callF Γ (d + 1) g ts h = fin (evSs (evS Γ (callF Γ d) D.N D.sc sFuel) D.body (startE D.N ts) h) := by
        have e0 : callF Γ (d + 1) g ts h = runD Γ (callF Γ d) D ts h := by
          conv => lhs; unfold callF
          simp only [hg]
        rw [e0]
        unfold runD
        exact if_pos (by rw [R.length]; exact hl)
      rw [e] at p
      cases e2 : evSs (evS Γ (callF Γ d) D.N D.sc sFuel) D.body (startE D.N ts) h with
      | bad => rw [e2] at p; exact p
      | exc c fs h' => rw [e2] at p; exact p
      | ok fl h' =>
        rw [e2] at p
        cases fl with
        | nx ρ => exact fun f' H' σ' x S' E' => p f' H' .non x S' (by unfold RV; rfl)
        | rt v => exact p
        | bk ρ => exact absurd p id
        | ct ρ => exact absurd p id
        | xc ρ c fs => exact fun f' H' σ' cls d x S' E' rx => p f' H' cls d x S' rx
theorem fnF (pg : PgOk Γ L K mg) : ∀ (d : Nat) (g : Str) (D : FnD), Γ.fns.lookup g = some D → FnF L P w K mg base (2 * d) Γ (callF Γ d) g D
  | 0, g, D, hg => by
    obtain ⟨x, qual, params, dvs, kws, fd, F, Sh⟩ := (pg.df g D hg).ex
    exact ⟨⟨fd, ⟨fun vs H Q E h => (spF_bad (fun _ _ => rfl) h).elim, fun A outer s H args us vs Q E _ _ _ _ h => (spF_bad (fun _ _ => rfl) h).elim⟩, Sh⟩, F.kp⟩
  | d + 1, g, D, hg => by
    obtain ⟨x, qual, params, dvs, kws, fd, F, Sh⟩ := (pg.df g D hg).ex
    exact ⟨⟨fd, fnStep pg (fun g' D' h' => fnF pg d g' D' h') hg F, Sh⟩, F.kp⟩
end
end Mp
set_option Elab.async false
set_option linter.all false
set_option maxRecDepth 100000
set_option maxHeartbeats 2000000
namespace Mp
open PySem PySem.Spec PyProof.Rows L2
/-! ### the text's data -/
inductive SrcI where
  | ps (i : Nat) | kw (j : Nat) | df (i : Nat) | kd (i : Nat)
deriving DecidableEq
def toS (dfl : List Val) (kwd : List (Str × Val)) : SrcI → Src
  | .ps i => .ps i
  | .kw j => .kw j
  | .df i => .df (dfl.getD i .non)
  | .kd i => .df ((kwd.map (·.2)).getD i .non)
structure Dd where
  g : Str
  at_ : Str × Option Str
  name : Str
  qual : Str
  params : Arguments
  ps : List Str
  dfl : List Val
  N : List Str
  sc : Scope
  body : List Stmt
  prop : Bool := false
  kwd : List (Str × Val) := []
/-- keyword-only parameters stand last -/
def Dd.fn (d : Dd) : FnD := ⟨d.ps, ((d.ps.drop (d.ps.length - d.kwd.length - d.dfl.length)).zip d.dfl) ++ d.kwd, d.N, d.sc, d.body⟩
/-- where a def stands; a property's getter too -/
def Dd.ad (d : Dd) (K : PySem.W.Frag) : Addr := if d.prop then (match PySem.W.findIn K (.ref (He.ga K d.at_.1)) (d.at_.2.getD "") with
  | some (some (.ref p)) => (match PySem.W.recIn K p "property" with
    | some (.ref g :: _) => g
    | _ => 0)
  | _ => 0) else He.fAd K d.at_
/-- the i-th default, an object -/
def dfAd (K : PySem.W.Frag) (a : Addr) (i : Nat) : Addr := match K.lookup a with
  | some ⟨_, _, .func y, _⟩ => (match y.defaults with
    | .ref T => (match K.lookup T with
      | some ⟨_, _, .seq zs _, _⟩ => (match zs.toList[i]? with
        | some (.ref b) => b
        | _ => 0)
      | _ => 0)
    | _ => 0)
  | _ => 0
/-- a default as the head says it -/
def dvOf (K : PySem.W.Frag) (a : Addr) (i : Nat) : Val → V
  | .non => .non
  | .bl b => .bl b
  | .int i => .int i
  | .str x => .str x
  | _ => .ref (dfAd K a i)
def dvsOf (K : PySem.W.Frag) (a : Addr) : Nat → List Val → List V
  | _, [] => []
  | i, v :: r => dvOf K a i v :: dvsOf K a (i + 1) r
/-- a flat value -/
def fvOf : Val → Option V
  | .non => some .non
  | .bl b => some (.bl b)
  | .int i => some (.int i)
  | .str x => some (.str x)
  | _ => none
def kwsOf : List (Str × Val) → List (Str × V)
  | [] => []
  | (x, v) :: r => (x, (fvOf v).getD .non) :: kwsOf r
theorem kws_rel {L : Lk} {K : PySem.W.Frag} {f : Nm} {H : Hp} : ∀ {l : List (Str × Val)}, (l.all fun q => (fvOf q.2).isSome) = true → RVs L K f H (l.map (·.2)) ((kwsOf l).map (·.2))
  | [], _ => by
    unfold RVs
    rfl
  | (x, v) :: r, h => by
    rw [List.all_cons, Bool.and_eq_true] at h
    have ih := kws_rel (L := L) (K := K) (f := f) (H := H) h.2
    unfold RVs
    refine ⟨_, _, rfl, ?_, ih⟩
    have h1 := h.1
    cases v with
    | non => unfold RV; rfl
    | bl b => unfold RV; rfl
    | int b => unfold RV; rfl
    | str b => unfold RV; rfl
    | tup b => simp [fvOf] at h1
    | ref b => simp [fvOf] at h1
    | fn b => simp [fvOf] at h1
abbrev FnO : Type := Option (Str × Str × Arguments × FuncBody × Scope × Addr × List (Str × Addr) × Addr)
def fnO (K : PySem.W.Frag) (a : Addr) : FnO := match K.lookup a with
  | some ⟨_, _, .func y, _⟩ => some (y.name, y.qualname, y.params, y.body, y.scope, y.globals, y.closure, y.builtins)
  | _ => none
def Dd.val (d : Dd) : FnO := some (d.name, d.qual, d.params, .stmts d.body, d.sc, mainGlobals, [], builtinsNs)
def Dd.ok (K : PySem.W.Frag) (d : Dd) : Bool := PySem.W.keepIn K (.ref (d.ad K)) && (match K.lookup (d.ad K) with
  | some ⟨_, _, .func y, _⟩ => PySem.W.codeIn K y.code d.qual && (He.dflB K y.defaults (dvsOf K (d.ad K) 0 d.dfl) && He.kwdB K y.kwdefaults (kwsOf d.kwd))
  | _ => false)
theorem Dd.fun_ {K : PySem.W.Frag} {d : Dd} (e : fnO K (d.ad K) = d.val) (c : d.ok K = true) : ∃ fd, FunD K d.name d.qual d.params d.body d.sc (dvsOf K (d.ad K) 0 d.dfl) (kwsOf d.kwd) (d.ad K) fd := by
  have c0 := He.ba c
  unfold fnO at e
  cases q : K.lookup (d.ad K) with
  | none => rw [q] at e; cases e
  | some o =>
    rcases o with ⟨o1, o2, o3, o4⟩
    rw [q] at e
    have c1 := c0.2
    rw [q] at c1
    cases o3 with
    | func y =>
      rcases y with ⟨y1, y2, y3, y4, y5, y6, y7, y8, y9, y10, y11, y12, y13, y14, y15⟩
      have e1 : (some (y1, y2, y3, y4, y5, y6, y7, y15) : FnO) = d.val := e
      unfold Dd.val at e1
      simp only [Option.some.injEq, Prod.mk.injEq] at e1
      rcases e1 with ⟨e1, e2, e3, e4, e5, e6, e7, e8⟩
      subst e1 e2 e3 e4 e5 e6 e7 e8
      have c2 := He.ba (show (PySem.W.codeIn K y13 d.qual && (He.dflB K y8 (dvsOf K (d.ad K) 0 d.dfl) && He.kwdB K y9 (kwsOf d.kwd))) = true from c1)
      have c3 := He.ba c2.2
      exact ⟨_, ⟨o1, o2, y8, y9, y10, y11, y12, y13, y14, o4, rfl, q, c2.1, He.dflB_ok c3.1, He.kwdB_ok c3.2⟩, c0.1⟩
    | _ => cases c1
mutual
def relVal (K : PySem.W.Frag) : Val → Value → Bool
  | .non, .none => true
  | .bl b, .bool c => b == c
  | .int i, .int j _ => decide (i = j)
  | .str x, .str y _ => decide (x = y)
  | .tup vs, .ref a => (match K.lookup a with
    | some ⟨.type c, _, .seq its _, _⟩ => decide (c = "tuple") && (decide (its.size ≤ sizeLine) && relVals K vs its.toList)
    | _ => false)
  | _, _ => false
def relVals (K : PySem.W.Frag) : List Val → List Value → Bool
  | [], [] => true
  | v :: vs, u :: us => relVal K v u && relVals K vs us
  | _, _ => false
end
mutual
theorem relVal_ok {K : PySem.W.Frag} (L : Lk) : ∀ (v : Val) (u : Value), relVal K v u = true → ∃ v', RelV v' u ∧ ∀ f H, RV L K f H v v'
  | .non, u, h => by
    cases u <;> simp [relVal] at h
    exact ⟨.non, rfl, fun f H => by unfold RV; rfl⟩
  | .bl b, u, h => by
    cases u <;> simp [relVal] at h
    subst h
    exact ⟨.bl b, rfl, fun f H => by unfold RV; rfl⟩
  | .int i, u, h => by
    cases u <;> simp [relVal] at h
    subst h
    exact ⟨.int i, ⟨_, rfl⟩, fun f H => by unfold RV; rfl⟩
  | .str x, u, h => by
    cases u <;> simp [relVal] at h
    subst h
    exact ⟨.str x, ⟨_, rfl⟩, fun f H => by unfold RV; rfl⟩
  | .ref n, u, h => by cases u <;> simp [relVal] at h
  | .fn g, u, h => by cases u <;> simp [relVal] at h
  | .tup vs, u, h => by
    cases u with
    | ref a =>
      have h0 : (match K.lookup a with
        | some ⟨.type c, _, .seq its _, _⟩ => decide (c = "tuple") && (decide (its.size ≤ sizeLine) && relVals K vs its.toList)
        | _ => false) = true := by
        simpa only [relVal] using h
      cases q : K.lookup a with
      | none => rw [q] at h0; cases h0
      | some o =>
        obtain ⟨oc, od, dt, osl⟩ := o
        rw [q] at h0
        cases oc with
        | type c =>
          cases dt with
          | seq its n =>
            obtain ⟨h1, h2⟩ := He.ba (show (decide (c = "tuple") && (decide (its.size ≤ sizeLine) && relVals K vs its.toList)) = true from h0)
            obtain ⟨h3, h4⟩ := He.ba h2
            obtain ⟨vs', r, rv⟩ := relVals_ok L vs its.toList h4
            refine ⟨.ref a, rfl, fun f H => ?_⟩
            unfold RV
            exact ⟨a, vs', rfl, .inr ⟨_, its, n, q, congrArg Value.type (of_decide_eq_true h1), rfl, of_decide_eq_true h3, r⟩, rv f H⟩
          | _ => cases h0
        | _ => cases dt <;> cases h0
    | _ => simp [relVal] at h
theorem relVals_ok {K : PySem.W.Frag} (L : Lk) : ∀ (vs : List Val) (us : List Value), relVals K vs us = true → ∃ vs', Vals vs' us ∧ ∀ f H, RVs L K f H vs vs'
  | [], us, h => by
    cases us with
    | nil => exact ⟨[], .nil, fun f H => by unfold RVs; rfl⟩
    | cons u us => simp [relVals] at h
  | v :: vs, us, h => by
    cases us with
    | nil => simp [relVals] at h
    | cons u us =>
      have h0 : (relVal K v u && relVals K vs us) = true := by simpa only [relVals] using h
      obtain ⟨h1, h2⟩ := He.ba h0
      obtain ⟨v', r1, q1⟩ := relVal_ok L v u h1
      obtain ⟨vs', r2, q2⟩ := relVals_ok L vs us h2
      exact ⟨v' :: vs', .cons r1 r2, fun f H => by unfold RVs; exact ⟨v', vs', rfl, q1 f H, q2 f H⟩⟩
end
/-! ### what a call binds -/
def pick4 {α : Type} (us ws its ms : List α) : SrcI → Option α
  | .ps i => us[i]?
  | .kw j => ws[j]?
  | .df i => its[i]?
  | .kd i => ms[i]?
def selI {α : Type} (sel : List SrcI) (us ws its ms : List α) : List α := sel.filterMap (pick4 us ws its ms)
def AllL {α : Type} : Nat → (List α → Prop) → Prop
  | 0, p => p []
  | n + 1, p => ∀ x, AllL n fun l => p (x :: l)
theorem AllL.at_ {α : Type} : ∀ {n : Nat} {p : List α → Prop}, AllL n p → ∀ l : List α, l.length = n → p l
  | 0, p, h, l, e => by
    cases l with
    | nil => exact h
    | cons _ _ => cases e
  | n + 1, p, h, l, e => by
    cases l with
    | nil => cases e
    | cons x l => exact AllL.at_ (h x) l (by simpa using e)
/-- the keyword-only defaults that a call leaves to the def -/
def lack (ks names : List Str) (ms : List Value) : List (Str × Value) := (names.zip ms).filter fun q => !ks.contains q.1
structure BindOk (d : Dd) (n : Nat) (ks : List Str) (sel : List SrcI) : Prop where
  bv : bindV d.fn n ks = some (sel.map (toS d.dfl d.kwd))
  idq : (!(ks.isEmpty && n == d.ps.length) || decide (sel = (List.range n).map .ps)) = true
  inb : sel.all (fun s => match s with | .ps i => decide (i < n) | .kw j => decide (j < ks.length) | .df i => decide (i < d.dfl.length) | .kd i => decide (i < d.kwd.length)) = true
  flt : (d.kwd.all fun q => (fvOf q.2).isSome) = true
  no : d.dfl = [] → d.kwd = [] → ∀ (kV doc pm : Value) (an : Option Addr) (cdv ct : Value), AllL n fun us => AllL ks.length fun ws => bindArgs (PySem.W.fnOf d.name d.qual d.params d.body d.sc .none kV doc pm an cdv ct) ⟨us, ks.zip ws⟩ = pure (d.ps.zip (selI sel us ws [] []))
  some_ : d.dfl ≠ [] → d.kwd = [] → ∀ (T : Addr) (kV doc pm : Value) (an : Option Addr) (cdv ct : Value), AllL n fun us => AllL ks.length fun ws => AllL d.dfl.length fun its => ∃ k, bindArgs (PySem.W.fnOf d.name d.qual d.params d.body d.sc (.ref T) kV doc pm an cdv ct) ⟨us, ks.zip ws⟩ = seqItems? (.ref T) >>= k ∧ k (some its.toArray) = pure (d.ps.zip (selI sel us ws its []))
  noK : d.dfl = [] → d.kwd ≠ [] → ∀ (D : Addr) (doc pm : Value) (an : Option Addr) (cdv ct : Value), AllL n fun us => AllL ks.length fun ws => AllL d.kwd.length fun ms => KwChain D (lack ks (d.kwd.map (·.1)) ms) (bindArgs (PySem.W.fnOf d.name d.qual d.params d.body d.sc .none (.ref D) doc pm an cdv ct) ⟨us, ks.zip ws⟩) (d.ps.zip (selI sel us ws [] ms))
  someK : d.dfl ≠ [] → d.kwd ≠ [] → ∀ (T D : Addr) (doc pm : Value) (an : Option Addr) (cdv ct : Value), AllL n fun us => AllL ks.length fun ws => AllL d.dfl.length fun its => AllL d.kwd.length fun ms => ∃ k, bindArgs (PySem.W.fnOf d.name d.qual d.params d.body d.sc (.ref T) (.ref D) doc pm an cdv ct) ⟨us, ks.zip ws⟩ = seqItems? (.ref T) >>= k ∧ KwChain D (lack ks (d.kwd.map (·.1)) ms) (k (some its.toArray)) (d.ps.zip (selI sel us ws its ms))
section
variable {K : PySem.W.Frag}
theorem vals_pick {vs zs ds es : List V} {us ws its ms : List Value} (r1 : Vals vs us) (r2 : Vals zs ws) (r3 : Vals ds its) (r4 : Vals es ms) (s : SrcI) : (pick4 vs zs ds es s = none ∧ pick4 us ws its ms s = none) ∨ ∃ v u, pick4 vs zs ds es s = some v ∧ pick4 us ws its ms s = some u ∧ RelV v u := by
  have key : ∀ {xs : List V} {ys : List Value} (i : Nat), Vals xs ys → (xs[i]? = none ∧ ys[i]? = none) ∨ ∃ v u, xs[i]? = some v ∧ ys[i]? = some u ∧ RelV v u := fun {xs ys} i r => by
    cases e : xs[i]? with
    | none =>
      refine .inl ⟨rfl, ?_⟩
      rw [List.getElem?_eq_none_iff] at e ⊢
      rw [← r.length]
      exact e
    | some v =>
      obtain ⟨u, e2, rv⟩ := r.get e
      exact .inr ⟨v, u, rfl, e2, rv⟩
  cases s with
  | ps i => exact key i r1
  | kw i => exact key i r2
  | df i => exact key i r3
  | kd i => exact key i r4
theorem vals_sel {vs zs ds es : List V} {us ws its ms : List Value} (r1 : Vals vs us) (r2 : Vals zs ws) (r3 : Vals ds its) (r4 : Vals es ms) : ∀ sel : List SrcI, Vals (selI sel vs zs ds es) (selI sel us ws its ms)
  | [] => .nil
  | s :: sel => by
    have ih := vals_sel r1 r2 r3 r4 sel
    unfold selI at ih ⊢
    rcases vals_pick r1 r2 r3 r4 s with ⟨e1, e2⟩ | ⟨v, u, e1, e2, rv⟩
    · rw [List.filterMap_cons, List.filterMap_cons, e1, e2]
      exact ih
    · rw [List.filterMap_cons, List.filterMap_cons, e1, e2]
      exact .cons rv ih
theorem rvs_get {L : Lk} {f : Nm} {H : Hp} : ∀ {ts : List Val} {vs : List V} {i : Nat} {t : Val}, RVs L K f H ts vs → ts[i]? = some t → ∃ v, vs[i]? = some v ∧ RV L K f H t v
  | [], vs, i, t, _, e => by simp at e
  | x :: ts, vs, i, t, r, e => by
    unfold RVs at r
    obtain ⟨v, r', rfl, h1, h2⟩ := r
    cases i with
    | zero => simp at e; subst e; exact ⟨v, rfl, h1⟩
    | succ i => exact rvs_get (i := i) h2 (by simpa using e)
/-- the values picked, of the text and of the model -/
theorem sel_rel {L : Lk} {f : Nm} {H : Hp} {dfl : List Val} {ds : List V} {kwd : List (Str × Val)} {es : List V} (hd : RVs L K f H dfl ds) (he : RVs L K f H (kwd.map (·.2)) es) {ts zs : List Val} {vs ws : List V} (r1 : RVs L K f H ts vs) (r2 : RVs L K f H zs ws) :
    ∀ (sel : List SrcI) (us : List Val), (sel.all fun s => match s with | .ps i => true | .kw j => true | .df i => decide (i < dfl.length) | .kd i => decide (i < kwd.length)) = true → selV ts zs (sel.map (toS dfl kwd)) = some us → RVs L K f H us (selI sel vs ws ds es)
  | [], us, _, e => by
    simp [selV] at e
    subst e
    unfold RVs
    rfl
  | s :: sel, us, hb, e => by
    rw [List.all_cons, Bool.and_eq_true] at hb
    simp only [List.map_cons, selV] at e
    split at e
    · rename_i v rest e1 e2
      cases e
      have ih := sel_rel hd he r1 r2 sel rest hb.2 e2
      have : ∃ v', pick4 vs ws ds es s = some v' ∧ RV L K f H v v' := by
        cases s with
        | ps i => exact rvs_get r1 e1
        | kw j => exact rvs_get r2 e1
        | df i =>
          have hi : i < dfl.length := of_decide_eq_true hb.1
          simp only [toS, pick1, Option.some.injEq] at e1
          rw [List.getD_eq_getElem?_getD, List.getElem?_eq_getElem hi] at e1
          exact rvs_get hd (by rw [List.getElem?_eq_getElem hi]; exact congrArg some e1)
        | kd i =>
          have hi : i < (kwd.map (·.2)).length := by rw [List.length_map]; exact of_decide_eq_true hb.1
          simp only [toS, pick1, Option.some.injEq] at e1
          rw [List.getD_eq_getElem?_getD, List.getElem?_eq_getElem hi] at e1
          exact rvs_get he (by rw [List.getElem?_eq_getElem hi]; exact congrArg some e1)
      obtain ⟨v', e3, rv⟩ := this
      unfold selI at ih ⊢
      rw [List.filterMap_cons, e3]
      unfold RVs
      exact ⟨v', _, rfl, rv, ih⟩
    · cases e
theorem selI_id {α : Type} (us its ms : List α) : selI ((List.range us.length).map .ps) us [] its ms = us := by
  unfold selI
  rw [List.filterMap_map]
  have e : (pick4 us [] its ms ∘ SrcI.ps) = fun i => us[i]? := rfl
  rw [e]
  clear e
  induction us with
  | nil => rfl
  | cons x us ih =>
    rw [List.length_cons, List.range_succ_eq_map, List.filterMap_cons]
    simp only [List.getElem?_cons_zero, List.filterMap_map, Function.comp_def, List.getElem?_cons_succ]
    rw [ih]
/-- a shape of call -/
theorem shp_ok {L : Lk} {d : Dd} {n : Nat} {ks : List Str} {seli : List SrcI} {f : Addr} {fd : FuncData} {dvs : List V} (F : FunD K d.name d.qual d.params d.body d.sc dvs (kwsOf d.kwd) f fd) (hd : ∀ f H, RVs L K f H d.dfl dvs) (b : BindOk d n ks seli) {sel : List Src} (hs : bindV d.fn n ks = some sel) :
    ShpOk L K fd d.ps n ks sel ∧ (ks = [] → n = d.ps.length → Binds K fd d.ps []) := by
  have es : sel = seli.map (toS d.dfl d.kwd) := Option.some.inj (hs.symm.trans b.bv)
  subst es
  obtain ⟨oc, od, dV, kV, doc, pm, an, cdv, ct, osl, rfl, lk, hcd, hD, hK⟩ := F.ex
  have hl : d.dfl.length = dvs.length := (hd (fun _ => none) (fun _ => none)).length
  have hkl : (kwsOf d.kwd).map (·.1) = d.kwd.map (·.1) := by
    have : ∀ l : List (Str × Val), (kwsOf l).map (·.1) = l.map (·.1) := fun l => by
      induction l with
      | nil => rfl
      | cons q r ih => obtain ⟨x, v⟩ := q; simp [kwsOf, ih]
    exact this _
  have hkn : d.kwd.length = (kwsOf d.kwd).length := by
    have := congrArg List.length hkl
    simpa using this.symm
  -- the defaults' values
  have main : ∃ its ms : List Value, Vals dvs its ∧ Vals ((kwsOf d.kwd).map (·.2)) ms ∧ ∀ (s : Shared) (us ws : List Value), K.In s.heap → us.length = n → ws.length = ks.length → BindsTo s (PySem.W.fnOf d.name d.qual d.params d.body d.sc dV kV doc pm an cdv ct) ⟨us, ks.zip ws⟩ (d.ps.zip (selI seli us ws its ms)) := by
    have lacks : ∀ (D : Addr) (ms : List Value), ms.length = (kwsOf d.kwd).length → (∀ q ∈ ((kwsOf d.kwd).map (·.1)).zip ms, PySem.W.nsIn K D q.1 = some (some q.2)) → ∀ q ∈ lack ks (d.kwd.map (·.1)) ms, PySem.W.nsIn K D q.1 = some (some q.2) := fun D ms _ h q hq => h q (by
      rw [hkl]
      exact (List.mem_filter.mp hq).1)
    by_cases hk0 : d.kwd = []
    · have ek : kwsOf d.kwd = [] := by rw [hk0]; rfl
      rcases hD with ⟨e, rfl⟩ | ⟨ne, T, o, its, m, rfl, lT, oT, rT⟩
      · subst e
        refine ⟨[], [], .nil, by rw [ek]; exact .nil, fun s us ws X l1 l2 => .of_eq ?_⟩
        have e0 : d.dfl = [] := List.eq_nil_of_length_eq_zero hl
        exact ((b.no e0 hk0 kV doc pm an cdv ct).at_ us l1).at_ ws l2
      · refine ⟨its, [], rT, by rw [ek]; exact .nil, fun s us ws X l1 l2 => ?_⟩
        have e0 : d.dfl ≠ [] := fun e => by
          rw [e] at hl
          exact ne (List.eq_nil_of_length_eq_zero hl.symm)
        obtain ⟨k, e1, e2⟩ := (((b.some_ e0 hk0 T kV doc pm an cdv ct).at_ us l1).at_ ws l2).at_ its (by rw [hl, rT.length])
        refine BindsTo.of_looks fun M => ?_
        rw [e1]
        exact looks_items X lT oT (.of_pure e2)
    · have ek : kwsOf d.kwd ≠ [] := fun e => hk0 (List.eq_nil_of_length_eq_zero (by rw [hkn, e]; rfl))
      rcases hK with e | ⟨D, rfl, hq⟩
      · exact absurd e ek
      · obtain ⟨ms, hml, rk, hks⟩ := kwd_vals hq
        have hks := lacks D ms hml hks
        have hmn : ms.length = d.kwd.length := hml.trans hkn.symm
        rcases hD with ⟨e, rfl⟩ | ⟨ne, T, o, its, m, rfl, lT, oT, rT⟩
        · subst e
          refine ⟨[], ms, .nil, rk, fun s us ws X l1 l2 => BindsTo.of_looks fun M => ?_⟩
          have e0 : d.dfl = [] := List.eq_nil_of_length_eq_zero hl
          exact KwChain.looks X hks ((((b.noK e0 hk0 D doc pm an cdv ct).at_ us l1).at_ ws l2).at_ ms hmn)
        · refine ⟨its, ms, rT, rk, fun s us ws X l1 l2 => ?_⟩
          have e0 : d.dfl ≠ [] := fun e => by
            rw [e] at hl
            exact ne (List.eq_nil_of_length_eq_zero hl.symm)
          obtain ⟨k, e1, e2⟩ := ((((b.someK e0 hk0 T D doc pm an cdv ct).at_ us l1).at_ ws l2).at_ its (by rw [hl, rT.length])).at_ ms hmn
          refine BindsTo.of_looks fun M => ?_
          rw [e1]
          exact looks_items X lT oT (KwChain.looks X hks e2)
  obtain ⟨its, ms, rT, rM, to⟩ := main
  refine ⟨⟨fun us ws => selI seli us ws its ms, fun vs zs => selI seli vs zs dvs ((kwsOf d.kwd).map (·.2)), ⟨to, fun r1 r2 => vals_sel r1 r2 rT rM seli⟩, ?_⟩, ?_⟩
  · intro f H ts zs vs ws us r1 r2 l1 l2 e
    refine sel_rel (hd f H) (kws_rel b.flt) r1 r2 seli us ?_ e
    have := b.inb
    rw [List.all_eq_true] at this ⊢
    intro x hx
    have := this x hx
    cases x with
    | df i => exact this
    | kd i => exact this
    | _ => rfl
  · intro hk hn s us X hlen
    subst hk hn
    rw [List.append_nil] at hlen ⊢
    have q := b.idq
    rw [Bool.or_eq_true] at q
    rcases q with q | q
    · simp at q
    · have q := of_decide_eq_true q
      have := to s us [] X hlen rfl
      rw [q, ← hlen, selI_id] at this
      exact this
end
/-! ### the program -/
structure Txt where
  dds : List Dd
  tops : List Str
  cls : List (Str × ClD)
  glob : List (Str × Val)
  shapes : List (Str × Nat × List Str)
def Txt.pg (T : Txt) : Pg := ⟨T.dds.map fun d => (d.g, d.fn), T.tops, T.cls, T.glob, T.shapes⟩
def adIn (K : PySem.W.Frag) : List Dd → Str → Addr
  | [], _ => 0
  | d :: r, g => if g == d.g then d.ad K else adIn K r g
def Txt.lk (T : Txt) (K : PySem.W.Frag) : Lk := ⟨fun c => He.ga K c, adIn K T.dds⟩
def adOf (dds : List Dd) (g : Str) : Bool × Str × Option Str := match dds.find? (fun d => g == d.g) with
  | some d => (d.prop, d.at_)
  | none => (true, "", none)
def clFa (c : Str) (C : ClD) : List He.Fa := [.glo c, .cls c, .mkr c] ++ C.flds.map (.noat c) ++ C.meths.map fun m => .meth c m.1
def Txt.fa (T : Txt) : List He.Fa := T.tops.map .glo ++ T.cls.flatMap (fun p => clFa p.1 p.2) ++ bltNames.map .free
def noLst (o : Obj) : Bool := match o.cls with
  | .type c => !decide (c = "list")
  | _ => true
def globB (K : PySem.W.Frag) (p : Str × Val) : Bool := match PySem.W.nsIn K mainGlobals p.1 with
  | some (some u) => relVal K p.2 u
  | _ => false
def dflsB (K : PySem.W.Frag) (d : Dd) : Bool := match K.lookup (d.ad K) with
  | some ⟨_, _, .func fd, _⟩ => (match d.dfl with
    | [] => true
    | _ => (match fd.defaults with
      | .ref T => (match K.lookup T with
        | some ⟨_, _, .seq its _, _⟩ => relVals K d.dfl its.toList
        | _ => false)
      | _ => false))
  | _ => false
def propB (K : PySem.W.Frag) (c x : Str) (g : Addr) : Bool := match PySem.W.findIn K (.ref (He.ga K c)) x with
  | some (some (.ref p)) => He.eqO (PySem.W.specialIn K (.ref p) "__get__") (some (some (.builtin "property.__get__"))) && (decide (PySem.W.takesIn K (.ref p) = some true) && (match PySem.W.recIn K p "property" with
    | some (.ref g' :: _) => decide (g' = g)
    | _ => false))
  | _ => false
def Txt.ex (T : Txt) (K : PySem.W.Frag) : Bool := (K.all fun q => noLst q.2) && (T.glob.all (globB K) && (T.dds.all (dflsB K) && T.cls.all fun p => p.2.props.all fun q => propB K p.1 q.1 (adIn K T.dds q.2)))
/-- the Hook -/
abbrev AlM : Type := Bool × List FnO
def Txt.obs (T : Txt) (K : PySem.W.Frag) : AlM := ((T.fa.all fun f => f.ok K) && (T.dds.all (Dd.ok K) && T.ex K), T.dds.map fun d => fnO K (d.ad K))
def Txt.told (T : Txt) : AlM := (true, T.dds.map Dd.val)
structure Says (T : Txt) (K : PySem.W.Frag) : Prop where
  fa : ∀ f ∈ T.fa, f.ok K = true
  df : ∀ d ∈ T.dds, ∃ fd, FunD K d.name d.qual d.params d.body d.sc (dvsOf K (d.ad K) 0 d.dfl) (kwsOf d.kwd) (d.ad K) fd
  ex : T.ex K = true
theorem says_of {T : Txt} {K : PySem.W.Frag} (e : T.obs K = T.told) : Says T K := by
  have e1 : ((T.fa.all fun f => f.ok K) && (T.dds.all (Dd.ok K) && T.ex K)) = true := congrArg (fun z : AlM => z.1) e
  have e2 : (T.dds.map fun d => fnO K (d.ad K)) = T.dds.map Dd.val := congrArg (fun z : AlM => z.2) e
  have h1 := He.ba e1
  have h2 := He.ba h1.2
  exact ⟨List.all_eq_true.mp h1.1, fun d hd => Dd.fun_ (List.map_inj_left.mp e2 d hd) (List.all_eq_true.mp h2.1 d hd), h2.2⟩
def Txt.obsG (T : Txt) (g : Addr → Option Obj) : AlM := T.obs (He.frT g (He.asD g 6))
def Txt.hook (T : Txt) : PySem.W.Hook where
  α := AlM
  obs := fun s => T.obsG s.heap.get?
  val := fun _ => T.told
  says := fun _ h => ∃ K : PySem.W.Frag, K.In h ∧ Says T K
  of := fun _ _ e => ⟨_, He.frT_in, says_of e⟩
  keeps := fun _ _ _ z k => z.elim fun K y => ⟨K, PySem.W.Frag.In.keeps y.1 k, y.2⟩
theorem obsG_eq {T : Txt} {g : Addr → Option Obj} {s : Shared} (h : ∀ a, g a = s.heap.get? a) : T.obsG g = T.hook.obs s := by
  have : g = s.heap.get? := funext h
  subst this
  rfl
/-- what is to be looked at of the text alone -/
structure TxtOk (T : Txt) : Prop where
  nd : (T.dds.map (·.g)).Nodup
  sc : (T.dds.all fun d => C8.scC d.N d.ps d.sc) = true
  sh : ∀ s ∈ T.shapes, ∃ d ∈ T.dds, d.g = s.1 ∧ ∃ sel, BindOk d s.2.1 s.2.2 sel
  tops : (T.tops.all fun g => decide (adOf T.dds g = (false, g, none)) && (T.dds.any fun d => g == d.g)) = true
  cl : (T.cls.all fun p => decide (adOf T.dds p.2.init = (false, p.1, some ("__init__" : Str))) && (T.dds.any fun d => p.2.init == d.g) && p.2.meths.all fun m => decide (adOf T.dds m.2 = (false, p.1, some m.1)) && (T.dds.any fun d => m.2 == d.g)) = true
  pr : (T.cls.all fun p => p.2.props.all fun q => (match T.pg.fns.lookup q.2 with | some D => decide (D.ps.length = 1) && (T.shapes.any fun s => decide (s = (q.2, 1, []))) && (bindV D 1 []).isSome | none => false)) = true
  nob : (bltNames.all fun x => !(T.tops.contains x) && (T.cls.lookup x).isNone && (T.glob.lookup x).isNone) = true
theorem lookup_map_dd : ∀ {dds : List Dd} {g : Str} {D : FnD}, (dds.map fun d => (d.g, d.fn)).lookup g = some D → ∃ d ∈ dds, d.g = g ∧ d.fn = D
  | [], g, D, h => by cases h
  | d :: r, g, D, h => by
    simp only [List.map_cons, List.lookup_cons] at h
    cases q : g == d.g with
    | true =>
      rw [q] at h
      cases h
      exact ⟨d, List.mem_cons_self, (beq_iff_eq.mp q).symm, rfl⟩
    | false =>
      rw [q] at h
      obtain ⟨d', m, e⟩ := lookup_map_dd h
      exact ⟨d', List.mem_cons_of_mem _ m, e⟩
theorem adIn_at {K : PySem.W.Frag} : ∀ {dds : List Dd} {d : Dd}, (dds.map (·.g)).Nodup → d ∈ dds → adIn K dds d.g = d.ad K
  | [], d, _, h => by cases h
  | x :: r, d, nd, h => by
    rw [List.map_cons, List.nodup_cons] at nd
    unfold adIn
    rcases List.mem_cons.mp h with rfl | h
    · simp
    · have : (d.g == x.g) = false := by
        cases q : d.g == x.g with
        | false => rfl
        | true => exact absurd (by rw [← beq_iff_eq.mp q]; exact List.mem_map_of_mem h) nd.1
      rw [this]
      simpa using adIn_at nd.2 h
theorem adIn_of {K : PySem.W.Frag} {dds : List Dd} {g : Str} {p : Str × Option Str} (h : adOf dds g = (false, p)) (ha : (dds.any fun d => g == d.g) = true) : adIn K dds g = He.fAd K p := by
  unfold adOf at h
  induction dds with
  | nil => cases ha
  | cons d r ih =>
    unfold adIn
    cases q : g == d.g with
    | true =>
      rw [List.find?_cons, q] at h
      simp only [Prod.mk.injEq] at h
      rw [if_pos rfl]
      unfold Dd.ad
      rw [h.1, if_neg (by simp), h.2]
    | false =>
      rw [List.find?_cons, q] at h
      rw [List.any_cons, q, Bool.false_or] at ha
      rw [if_neg (by simp)]
      exact ih h ha
theorem dvs_rel {L : Lk} {K : PySem.W.Frag} {a0 : Addr} {oc : Value} {od : Option Addr} {fd : FuncData} {osl : Array (Option Value)} {T : Addr} {its : Array Value} {oc2 : Value} {od2 : Option Addr} {n2 : Nat} {osl2 : Array (Option Value)} (lk : K.lookup a0 = some ⟨oc, od, .func fd, osl⟩) (ed : fd.defaults = .ref T) (lT : K.lookup T = some ⟨oc2, od2, .seq its n2, osl2⟩) :
    ∀ (vs : List Val) (i : Nat) (us : List Value), its.toList.drop i = us → relVals K vs us = true → ∀ f H, RVs L K f H vs (dvsOf K a0 i vs)
  | [], i, us, _, _, f, H => by
    unfold RVs dvsOf
    rfl
  | v :: vs, i, us, eu, h, f, H => by
    cases us with
    | nil => simp [relVals] at h
    | cons u us =>
      have h0 : (relVal K v u && relVals K vs us) = true := by simpa only [relVals] using h
      obtain ⟨h1, h2⟩ := He.ba h0
      have eu2 : its.toList.drop (i + 1) = us := by
        rw [← List.tail_drop, eu]
        rfl
      have ei : its.toList[i]? = some u := by
        have : (its.toList.drop i)[0]? = some u := by rw [eu]; rfl
        simpa using this
      have ih := dvs_rel (L := L) lk ed lT vs (i + 1) us eu2 h2 f H
      obtain ⟨v', r1, q1⟩ := relVal_ok L v u h1
      have q1 := q1 f H
      have ev : dvOf K a0 i v = v' := by
        cases v with
        | non => unfold RV at q1; subst q1; rfl
        | bl b => unfold RV at q1; subst q1; rfl
        | int b => unfold RV at q1; subst q1; rfl
        | str b => unfold RV at q1; subst q1; rfl
        | ref n => cases u <;> simp [relVal] at h1
        | fn n => cases u <;> simp [relVal] at h1
        | tup xs =>
          unfold RV at q1
          obtain ⟨a, vs', rfl, _⟩ := q1
          obtain rfl : u = Value.ref a := r1
          show V.ref (dfAd K a0 i) = _
          unfold dfAd
          rw [lk]
          simp only [ed, lT, ei]
      unfold RVs
      refine ⟨_, _, rfl, ?_, ih⟩
      rw [ev]
      exact q1
/-- THE FACTS of a text -/
theorem pg_ok {T : Txt} (ok : TxtOk T) {K : PySem.W.Frag} {h : Heap} {mg : Str → Option Value} (X : K.In h) (G : h.Ns mainGlobals mg) (c : Says T K) : PgOk T.pg (T.lk K) K mg := by
  have fact : ∀ f ∈ T.fa, f.ok K = true := c.fa
  obtain ⟨_, more⟩ := He.ba (show ((K.all fun q => noLst q.2) && _) = true from c.ex)
  obtain ⟨hglob, more⟩ := He.ba more
  obtain ⟨hdfl, hprop⟩ := He.ba more
  have fTop : ∀ g ∈ T.tops, mg g = some (.ref (He.ga K g)) := fun g hg => He.glo_ok X G (fact _ (by unfold Txt.fa; simp [hg]))
  have fCls : ∀ c C, T.cls.lookup c = some C → (c, C) ∈ T.cls := fun c C h => by
    obtain ⟨l1, l2, e, _⟩ := List.lookup_eq_some_iff.mp h
    rw [e]
    simp
  have fFa : ∀ c C, T.cls.lookup c = some C → ∀ f ∈ clFa c C, f.ok K = true := fun c C h f hf => fact _ (by
    unfold Txt.fa
    rw [List.mem_append, List.mem_append]
    exact .inl (.inr (List.mem_flatMap.mpr ⟨(c, C), fCls c C h, hf⟩)))
  have fCl : ∀ c C, T.cls.lookup c = some C → (decide (adOf T.dds C.init = (false, c, some ("__init__" : Str))) && (T.dds.any fun d => C.init == d.g) && C.meths.all fun m => decide (adOf T.dds m.2 = (false, c, some m.1)) && (T.dds.any fun d => m.2 == d.g)) = true := fun c C h => List.all_eq_true.mp ok.cl (c, C) (fCls c C h)
  refine ⟨?_, ?_, ?_, ?_, ?_, ?_, ?_, ?_⟩
  · intro g D hg
    obtain ⟨d, hd, rfl, rfl⟩ := lookup_map_dd hg
    obtain ⟨fd, F⟩ := c.df d hd
    have eF : (T.lk K).F d.g = d.ad K := adIn_at ok.nd hd
    refine ⟨⟨d.name, d.qual, d.params, _, _, fd, by rw [eF]; exact F, ?_⟩, List.all_eq_true.mp ok.sc d hd⟩
    intro n ks sel hs hb
    obtain ⟨d', hd', e1, seli, b⟩ := ok.sh _ hs
    have ed : d' = d := by
      have := ok.nd
      have key : ∀ (l : List Dd), (l.map (·.g)).Nodup → d' ∈ l → d ∈ l → d'.g = d.g → d' = d := fun l => by
        induction l with
        | nil => intro _ h; cases h
        | cons x r ih =>
          intro nd h1 h2 e
          rw [List.map_cons, List.nodup_cons] at nd
          rcases List.mem_cons.mp h1 with rfl | h1
          · rcases List.mem_cons.mp h2 with rfl | h2
            · rfl
            · exact absurd (by rw [e]; exact List.mem_map_of_mem h2) nd.1
          · rcases List.mem_cons.mp h2 with rfl | h2
            · exact absurd (by rw [← e]; exact List.mem_map_of_mem ‹d' ∈ r›) nd.1
            · exact ih nd.2 h1 h2 e
      exact key _ this hd' hd e1
    subst ed
    refine shp_ok (d := d') F ?_ b hb
    intro f H
    have hB := List.all_eq_true.mp hdfl d' hd
    unfold dflsB at hB
    show RVs (T.lk K) K f H d'.dfl (dvsOf K (d'.ad K) 0 d'.dfl)
    cases q : K.lookup (d'.ad K) with
    | none => rw [q] at hB; cases hB
    | some o =>
      obtain ⟨oc, od, dt, osl⟩ := o
      rw [q] at hB
      cases dt with
      | func fd' =>
        cases ed : d'.dfl with
        | nil =>
          unfold RVs dvsOf
          rfl
        | cons v vs =>
          simp only [ed] at hB
          cases ez : fd'.defaults with
          | ref T' =>
            rw [ez] at hB
            simp only at hB
            cases q2 : K.lookup T' with
            | none => rw [q2] at hB; cases hB
            | some o2 =>
              obtain ⟨oc2, od2, dt2, osl2⟩ := o2
              rw [q2] at hB
              cases dt2 with
              | seq its n2 => exact dvs_rel q ez q2 (v :: vs) 0 its.toList rfl hB f H
              | _ => cases hB
          | _ => rw [ez] at hB; cases hB
      | _ => cases hB
  · intro g hg
    have hm : g ∈ T.tops := by simpa [Txt.pg] using hg
    have := List.all_eq_true.mp ok.tops g hm
    rw [Bool.and_eq_true] at this
    have e : (T.lk K).F g = He.ga K g := adIn_of (of_decide_eq_true this.1) this.2
    rw [e]
    exact fTop g hm
  · intro cN C hc
    have ff := fFa cN C hc
    have fc := fCl cN C hc
    simp only [Bool.and_eq_true, decide_eq_true_eq, List.all_eq_true] at fc
    obtain ⟨⟨c1, c2⟩, c3⟩ := fc
    have eI : (T.lk K).F C.init = He.ma K (He.ga K cN) "__init__" := adIn_of c1 c2
    refine ⟨He.cls_ok (ff _ (by unfold clFa; simp)), ?_, ?_, ?_, ?_⟩
    · rw [eI]
      exact He.mkr_ok (ff _ (by unfold clFa; simp))
    · intro x hx
      exact He.noat_ok (ff (.noat cN x) (by unfold clFa; simp [hx]))
    · intro p hp
      obtain ⟨m1, m2⟩ := c3 p hp
      have e : (T.lk K).F p.2 = He.ma K (He.ga K cN) p.1 := adIn_of m1 m2
      rw [e]
      exact He.meth_ok (ff (.meth cN p.1) (by unfold clFa; simp; exact ⟨_, hp⟩))
    · intro p hp
      have := List.all_eq_true.mp (List.all_eq_true.mp hprop (cN, C) (fCls cN C hc)) p hp
      unfold propB at this
      show ∃ q, PropOf K (He.ga K cN) p.1 q (adIn K T.dds p.2)
      cases q : PySem.W.findIn K (.ref (He.ga K cN)) p.1 with
      | none => rw [q] at this; cases this
      | some r =>
        rw [q] at this
        cases r with
        | none => cases this
        | some u =>
          cases u with
          | ref pa =>
            obtain ⟨z1, z2⟩ := He.ba this
            obtain ⟨z3, z4⟩ := He.ba z2
            cases qr : PySem.W.recIn K pa "property" with
            | none => rw [qr] at z4; cases z4
            | some l =>
              rw [qr] at z4
              cases l with
              | nil => cases z4
              | cons y rest =>
                cases y with
                | ref g' =>
                  have e : g' = adIn K T.dds p.2 := of_decide_eq_true z4
                  subst e
                  exact ⟨pa, q, He.eqO_ok z1, of_decide_eq_true z3, rest, qr⟩
                | _ => cases z4
          | _ => cases this
  · intro cN C hc
    exact He.glo_ok X G (fFa cN C hc (.glo cN) (by unfold clFa; simp))
  · intro x v hv
    have hm : (x, v) ∈ T.glob := by
      obtain ⟨l1, l2, e, _⟩ := List.lookup_eq_some_iff.mp hv
      have e : T.glob = l1 ++ (x, v) :: l2 := e
      rw [e]
      simp
    have := List.all_eq_true.mp hglob (x, v) hm
    unfold globB at this
    cases q : PySem.W.nsIn K mainGlobals x with
    | none => simp only [q] at this; cases this
    | some r =>
      simp only [q] at this
      cases r with
      | none => cases this
      | some u =>
        obtain ⟨v', r1, r2⟩ := relVal_ok (T.lk K) v u this
        exact ⟨v', u, PySem.W.mg_of X G q, r1, r2⟩
  · intro x hx _ _ _
    exact He.free_ok X G (fact _ (by unfold Txt.fa; simp [hx]))
  · intro x hx
    have := List.all_eq_true.mp ok.nob x hx
    simpa [Txt.pg, and_assoc] using this
  · intro cN C x g hc hp
    have hm : (x, g) ∈ C.props := by
      obtain ⟨l1, l2, e, _⟩ := List.lookup_eq_some_iff.mp hp
      rw [e]
      simp
    have := List.all_eq_true.mp (List.all_eq_true.mp ok.pr (cN, C) (fCls cN C hc)) (x, g) hm
    cases q : T.pg.fns.lookup g with
    | none => simp only [q] at this; cases this
    | some D =>
      simp only [q, Bool.and_eq_true, decide_eq_true_eq] at this
      obtain ⟨⟨p1, p2⟩, p3⟩ := this
      refine ⟨D, rfl, p1, ?_, ?_⟩
      · obtain ⟨s, hs, e⟩ := List.any_eq_true.mp p2
        have := of_decide_eq_true e
        subst this
        exact hs
      · exact Option.isSome_iff_exists.mp p3
/-- the script as the mini interpreter has it -/
def mem0 (ns : List Int) : Mem := [.rol (ns.map .int)]
theorem script_sim {L : Lk} {K : PySem.W.Frag} {H : Hp} {a : Addr} {ns : List Int} (hK : (K.all fun q => noLst q.2) = true) (hO : Only H) (hS : SqL K H a (ns.map V.int)) : Sim L K (fun n => if n = 0 then some a else none) (mem0 ns) H := by
  have hf : ∃ o, H a = some (.frz o (.lst (ns.map V.int))) := by
    rcases hS with (h | ⟨o, h⟩) | ⟨o, its, n, lk, ec, _⟩
    · rcases hO a with z | ⟨o, xs, z⟩
      · rw [h] at z; cases z
      · rw [h] at z; cases z
    · exact ⟨o, h⟩
    · exfalso
      have := List.all_eq_true.mp hK (a, o) (He.lookup_mem lk)
      unfold noLst at this
      rw [ec] at this
      simp at this
  obtain ⟨o, hf⟩ := hf
  refine ⟨?_, ?_, ?_⟩
  · intro n m b e1 e2
    by_cases h1 : n = 0
    · by_cases h2 : m = 0
      · rw [h1, h2]
      · rw [if_neg h2] at e2; cases e2
    · rw [if_neg h1] at e1; cases e1
  · intro n hn
    have : n = 0 := by
      have : n < 1 := hn
      omega
    exact ⟨a, if_pos this⟩
  · intro n b e
    by_cases h1 : n = 0
    · subst h1
      cases e
      refine ⟨_, rfl, o, _, hf, ?_⟩
      have : ∀ ns : List Int, RVs L K (fun n => if n = 0 then some a else none) H (ns.map .int) (ns.map V.int) := fun ns => by
        induction ns with
        | nil => simp only [List.map_nil]; unfold RVs; rfl
        | cons x r ih => simp only [List.map_cons]; unfold RVs; exact ⟨_, _, rfl, by unfold RV; rfl, ih⟩
      exact this ns
    · rw [if_neg h1] at e; cases e
/-- the law's promise off the mini interpreter -/
theorem law_walk {T : Txt} (ok : TxtOk T) {l : PySem.W.OpenLaw} {n dq : Nat} {q : Program} {loose : List Str} {XP : (Str → Option Value) → Heap → Prop} {dl : Dd} {d : DefRec} {x : Str}
    (hn : l.most = some n) (hn2 : n ≤ sizeLine) (hdf : d.params.defaults = []) (hr : Room (2 * (dq + 1)) callerA) (hd : d.name = ("law" : Str)) (hdl : dl ∈ T.dds) (hg : dl.g = ("law" : Str)) (hat : dl.at_ = (("law" : Str), none)) (htop : T.tops.contains "law" = true) (hps : dl.ps = [x]) (hdd : dl.dfl = []) (hkk : dl.kwd = [])
    (hbnd : BindOk dl 1 [] [.ps 0])
    (main : ∀ ns : List Int, ns.length ≤ n → ∃ h', callF T.pg (dq + 1) "law" [.ref 0] (mem0 ns) = .ok (.bl true) h') :
    PySem.W.WalkO q loose XP T.hook.says l.row.toRowW d [] (fun f vs => PySem.call f vs) := by
  refine L2.walk_ofE (l := l) (n := n) (k := 2 * (dq + 1)) (x := x) (CX := fun outer H s E u s' => ∃ w, L2.CX l.prog w outer H s E u s') hn hn2 hdf hr ?_ (fun H s e s' ⟨w, z⟩ => by
    obtain ⟨a, B, H', cls, d, _, _, _, _, _, _, _, z⟩ := z
    exact z)
  intro w mg fa h Y G hmg
  obtain ⟨K, KX, c⟩ := Y
  rw [hd] at hmg
  have pg := pg_ok ok KX G c
  have hl : T.pg.fns.lookup ("law" : Str) = some dl.fn := by
    have key : ∀ (l : List Dd), (l.map (·.g)).Nodup → dl ∈ l → (l.map fun d => (d.g, d.fn)).lookup ("law" : Str) = some dl.fn := fun l => by
      induction l with
      | nil => intro _ h; cases h
      | cons y r ih =>
        intro nd hm
        rw [List.map_cons, List.nodup_cons] at nd
        simp only [List.map_cons, List.lookup_cons]
        rcases List.mem_cons.mp hm with e | hm
        · subst e
          rw [hg]
          simp
        · have : (("law" : Str) == y.g) = false := by
            cases q : (("law" : Str) == y.g) with
            | false => rfl
            | true => exact absurd (by rw [← beq_iff_eq.mp q, ← hg]; exact List.mem_map_of_mem hm) nd.1
          rw [this]
          exact ih nd.2 hm
    exact key T.dds ok.nd hdl
  have eF : (T.lk K).F "law" = fa := by
    have := (pg.top "law" htop).symm.trans hmg
    cases this
    rfl
  obtain ⟨fd, FD⟩ := c.df dl hdl
  have eA : dl.ad K = fa := by
    rw [← eF, ← hg]
    exact (adIn_at ok.nd hdl).symm
  have hK : (K.all fun q => noLst q.2) = true := (He.ba (show ((K.all fun q => noLst q.2) && _) = true from c.ex)).1
  refine ⟨K, fd, spF (T.lk K) K 1 (callF T.pg (dq + 1) "law"), KX, ?_, ?_, ?_⟩
  · intro s u
    have FD' : FunD K dl.name dl.qual dl.params dl.body dl.sc [] [] (dl.ad K) fd := by
      have := FD
      rw [hdd, hkk] at this
      exact this
    have := FunD.bindsA (ps := dl.ps) FD' (fun kV doc pm an cdv ct us hl => by
      rw [hps] at hl
      have := ((hbnd.no hdd hkk kV doc pm an cdv ct).at_ us hl).at_ [] rfl
      match us, hl with
      | [u], _ => exact this) s [u] (by rw [hps]; rfl)
    rw [hps] at this
    exact this
  · intro H a ns hl hO hS
    obtain ⟨h', e⟩ := main ns hl
    refine ⟨rfl, _, _, [.ref 0], script_sim hK hO hS, ?_, ?_⟩
    · unfold RVs
      refine ⟨_, _, rfl, ?_, ?_⟩
      · unfold RV
        exact ⟨a, rfl, rfl⟩
      · unfold RVs
        rfl
    · rw [e]
      intro f' H' v' _ _ rv
      unfold RV at rv
      exact rv
  · intro base hb hN
    have e1 : dl.ps = dl.fn.ps := rfl
    have F1 : FunD K dl.name dl.qual dl.params dl.fn.body dl.fn.sc (dvsOf K (dl.ad K) 0 dl.dfl) (kwsOf dl.kwd) ((T.lk K).F "law") fd := by
      rw [eF, ← eA]
      exact FD
    have Fo := fnStep (P := l.prog) (w := w) (base := base) (d := dq) pg (fun g' D' h' => fnF pg dq g' D' h') hl F1
    rw [← e1, hps, eF] at Fo
    refine ⟨Fo.len, fun A outer s H args us vs Q E r1 r2 r3 r4 r5 => codeAny_mono (Fo.run A outer s H args us vs Q E r1 r2 r3 r4 r5) fun r s' hc => ?_⟩
    cases r with
    | error e => exact ⟨w, hc⟩
    | ok fl =>
      cases fl with
      | ret u => exact hc
      | next => exact hc
      | brk => exact hc
      | cont => exact hc
end Mp
set_option Elab.async false
set_option linter.all false
set_option maxRecDepth 100000
set_option maxHeartbeats 1000000
namespace Mp
open PySem
/-! ### what a run promises -/
abbrev XQ := Str → List (Str × Val) → Mem → Prop
def nX : XQ := fun _ _ _ => False
/-- an option's content -/
def optP {α : Type} (o : Option α) (P : α → Prop) : Prop := match o with
  | some a => P a
  | none => False
@[simp] theorem optP_some {α : Type} (a : α) (P : α → Prop) : optP (some a) P ↔ P a := Iff.rfl
@[simp] theorem optP_none {α : Type} (P : α → Prop) : optP (none : Option α) P ↔ False := Iff.rfl
@[simp] theorem optP_map {α β : Type} (f : α → β) (o : Option α) (P : β → Prop) : optP (o.map f) P ↔ optP o fun a => P (f a) := by cases o <;> rfl
theorem optP_of {α : Type} {o : Option α} {P : α → Prop} {a : α} (e : o = some a) (p : P a) : optP o P := by rw [e]; exact p
def Res.W {α : Type} (r : Res α) (Q : α → Mem → Prop) (X : XQ) : Prop := match r with
  | .ok a h => Q a h
  | .exc c fs h => X c fs h
  | .bad => False
section
variable {α β : Type} {Q Q' : α → Mem → Prop} {X : XQ}
@[simp] theorem W_ok (a : α) (h : Mem) : (Res.ok a h).W Q X ↔ Q a h := Iff.rfl
@[simp] theorem W_exc (c : Str) (fs : List (Str × Val)) (h : Mem) : (Res.exc c fs h : Res α).W Q X ↔ X c fs h := Iff.rfl
@[simp] theorem W_bad : (Res.bad : Res α).W Q X ↔ False := Iff.rfl
@[simp] theorem W_bind {Q : β → Mem → Prop} (r : Res α) (k : α → Mem → Res β) : (r.bind k).W Q X ↔ r.W (fun a h => (k a h).W Q X) X := by
  cases r <;> rfl
@[simp] theorem W_opt (o : Option α) (h : Mem) : (Res.opt o h).W Q X ↔ optP o fun a => Q a h := by
  cases o <;> simp [Res.opt]
@[simp] theorem W_shut (r : Res α) : r.shut.W Q X ↔ r.W Q nX := by
  cases r <;> simp [Res.shut, nX]
theorem W_ite {c : Prop} [Decidable c] (a b : Res α) : (if c then a else b).W Q X ↔ (c → a.W Q X) ∧ (¬ c → b.W Q X) := by
  by_cases h : c <;> simp [h]
theorem Res.W.imp {r : Res α} {X' : XQ} (w : r.W Q X) (i : ∀ a h, Q a h → Q' a h) (j : ∀ c fs h, X c fs h → X' c fs h) : r.W Q' X' := by
  cases r with
  | ok a h => exact i _ _ w
  | exc c fs h => exact j _ _ _ w
  | bad => exact w
theorem Res.W.mono {r : Res α} (w : r.W Q nX) (i : ∀ a h, Q a h → Q' a h) : r.W Q' X := w.imp i fun _ _ _ z => z.elim
end
theorem W_eq {α : Type} {r : Res α} {v : α} {h : Mem} (w : r.W (fun a h' => a = v ∧ h' = h) nX) : r = .ok v h := by
  cases r with
  | ok a h' => obtain ⟨rfl, rfl⟩ := w; rfl
  | exc c fs h' => exact w.elim
  | bad => exact w.elim
/-- how a suite may end -/
structure Po where
  nx : Env → Mem → Prop
  rt : Val → Mem → Prop
  bk : Env → Mem → Prop := fun _ _ => False
  ct : Env → Mem → Prop := fun _ _ => False
  xc : Env → XQ := fun _ => nX
def Fw (r : Res Fl) (P : Po) : Prop := match r with
  | .ok (.nx ρ) h => P.nx ρ h
  | .ok (.rt v) h => P.rt v h
  | .ok (.bk ρ) h => P.bk ρ h
  | .ok (.ct ρ) h => P.ct ρ h
  | .ok (.xc ρ c fs) h => P.xc ρ c fs h
  | .exc _ _ _ => False
  | .bad => False
section
variable {P : Po} {ρ : Env} {h : Mem}
@[simp] theorem Fw_nx : Fw (.ok (.nx ρ) h) P ↔ P.nx ρ h := Iff.rfl
@[simp] theorem Fw_rt (v : Val) : Fw (.ok (.rt v) h) P ↔ P.rt v h := Iff.rfl
@[simp] theorem Fw_bk : Fw (.ok (.bk ρ) h) P ↔ P.bk ρ h := Iff.rfl
@[simp] theorem Fw_ct : Fw (.ok (.ct ρ) h) P ↔ P.ct ρ h := Iff.rfl
@[simp] theorem Fw_xc (c : Str) (fs : List (Str × Val)) : Fw (.ok (.xc ρ c fs) h) P ↔ P.xc ρ c fs h := Iff.rfl
@[simp] theorem Fw_bad : Fw .bad P ↔ False := Iff.rfl
@[simp] theorem Fw_onE {α : Type} (r : Res α) (k : α → Mem → Res Fl) : Fw (onE r ρ k) P ↔ r.W (fun v h => Fw (k v h) P) (P.xc ρ) := by
  cases r <;> rfl
@[simp] theorem Fw_then (r : Res Fl) (k : Env → Mem → Res Fl) : Fw (thenF r k) P ↔ Fw r { P with nx := fun ρ h => Fw (k ρ h) P } := by
  cases r with
  | ok f h => cases f <;> rfl
  | _ => rfl
theorem Fw_ite {c : Prop} [Decidable c] (a b : Res Fl) : Fw (if c then a else b) P ↔ (c → Fw a P) ∧ (¬ c → Fw b P) := by
  by_cases h : c <;> simp [h]
theorem Fw.imp {r : Res Fl} {P' : Po} (w : Fw r P) (i1 : ∀ ρ h, P.nx ρ h → P'.nx ρ h) (i2 : ∀ v h, P.rt v h → P'.rt v h) (i3 : ∀ ρ h, P.bk ρ h → P'.bk ρ h) (i4 : ∀ ρ h, P.ct ρ h → P'.ct ρ h) (i5 : ∀ ρ c fs h, P.xc ρ c fs h → P'.xc ρ c fs h) : Fw r P' := by
  cases r with
  | ok f h =>
    cases f with
    | nx ρ => exact i1 _ _ w
    | rt v => exact i2 _ _ w
    | bk ρ => exact i3 _ _ w
    | ct ρ => exact i4 _ _ w
    | xc ρ c fs => exact i5 _ _ _ _ w
  | _ => exact w
theorem W_fin {Q : Val → Mem → Prop} {X : XQ} (r : Res Fl) : (fin r).W Q X ↔ Fw r ⟨fun _ h => Q .non h, Q, fun _ _ => False, fun _ _ => False, fun _ => X⟩ := by
  cases r with
  | ok f h => cases f <;> rfl
  | _ => rfl
end
/-! ### turns -/
section
variable {w : Wk} {t : Tg} {body els : MS} {P : Po}
/-- a for: I holds ahead of turn i -/
theorem for_wk (n : Nat) (I : Nat → Env → Mem → Prop)
    (turn : ∀ i ρ h, i < n → I i ρ h → ∃ v ρ1, w.at_ i h = some (some v) ∧ put1 t v ρ = some ρ1 ∧ Fw (body ρ1 h) ⟨I (i + 1), P.rt, P.nx, I (i + 1), P.xc⟩)
    (stop : ∀ ρ h, I n ρ h → w.at_ n h = some none ∧ Fw (els ρ h) P) : ∀ (k i fuel : Nat) (ρ : Env) (h : Mem), n - i = k → i ≤ n → n - i ≤ fuel → I i ρ h → Fw (forF w t body els fuel i ρ h) P := by
  intro k
  induction k with
  | zero =>
    intro i fuel ρ h hk hi hf hI
    have e : i = n := by omega
    subst e
    obtain ⟨e1, e2⟩ := stop ρ h hI
    unfold forF
    rw [e1]
    exact e2
  | succ k ih =>
    intro i fuel ρ h hk hi hf hI
    obtain ⟨v, ρ1, e1, e2, e3⟩ := turn i ρ h (by omega) hI
    unfold forF
    rw [e1]
    cases fuel with
    | zero => omega
    | succ fuel =>
      simp only [e2]
      cases e : body ρ1 h with
      | ok f h2 =>
        rw [e] at e3
        cases f with
        | nx ρ2 => exact ih (i + 1) fuel ρ2 h2 (by omega) (by omega) (by omega) e3
        | ct ρ2 => exact ih (i + 1) fuel ρ2 h2 (by omega) (by omega) (by omega) e3
        | bk ρ2 => exact e3
        | rt v => exact e3
        | xc ρ c fs => exact e3
      | exc c fs h2 => rw [e] at e3; exact e3
      | bad => rw [e] at e3; exact e3
/-- for k in range(n) -/
theorem for_rng {j : Nat} {lo : Int} {n : Nat} {ρ : Env} {h : Mem} (I : Nat → Env → Mem → Prop) (h0 : I 0 ρ h)
    (turn : ∀ i ρ h, i < n → I i ρ h → Fw (body (ρ.set j (some (.int (lo + i)))) h) ⟨I (i + 1), P.rt, P.nx, I (i + 1), P.xc⟩)
    (stop : ∀ ρ h, I n ρ h → Fw (els ρ h) P) : Fw (forF (wkR lo n) (.nm j) body els (wkR lo n).fuel 0 ρ h) P := by
  refine for_wk n I (fun i ρ h hi hI => ⟨_, _, by simp [wkR, hi], rfl, turn i ρ h hi hI⟩) (fun ρ h hI => ⟨by simp [wkR], stop ρ h hI⟩) n 0 _ ρ h rfl (Nat.zero_le _) (Nat.le_refl _) h0
/-- for x in a list that keeps its items -/
theorem for_lst {j a : Nat} {xs : List Val} {ρ : Env} {h : Mem} (I : Nat → Env → Mem → Prop) (h0 : I 0 ρ h) (keep : ∀ i ρ h, i ≤ xs.length → I i ρ h → h[a]? = some (.lst xs))
    (turn : ∀ i x ρ h, xs[i]? = some x → I i ρ h → Fw (body (ρ.set j (some x)) h) ⟨I (i + 1), P.rt, P.nx, I (i + 1), P.xc⟩)
    (stop : ∀ ρ h, I xs.length ρ h → Fw (els ρ h) P) : Fw (forF (wkL a xs.length) (.nm j) body els (wkL a xs.length).fuel 0 ρ h) P := by
  refine for_wk xs.length I (fun i ρ h hi hI => ⟨xs[i], _, by simp [wkL, keep i ρ h (by omega) hI, hi], rfl, turn i _ ρ h (by simp [hi]) hI⟩) (fun ρ h hI => ⟨by simp [wkL, keep _ ρ h (Nat.le_refl _) hI], stop ρ h hI⟩) xs.length 0 _ ρ h rfl (Nat.zero_le _) (Nat.le_refl _) h0
theorem for_rol {j a : Nat} {xs : List Val} {ρ : Env} {h : Mem} (I : Nat → Env → Mem → Prop) (h0 : I 0 ρ h) (keep : ∀ i ρ h, i ≤ xs.length → I i ρ h → h[a]? = some (.rol xs))
    (turn : ∀ i x ρ h, xs[i]? = some x → I i ρ h → Fw (body (ρ.set j (some x)) h) ⟨I (i + 1), P.rt, P.nx, I (i + 1), P.xc⟩)
    (stop : ∀ ρ h, I xs.length ρ h → Fw (els ρ h) P) : Fw (forF (wkL a xs.length) (.nm j) body els (wkL a xs.length).fuel 0 ρ h) P := by
  refine for_wk xs.length I (fun i ρ h hi hI => ⟨xs[i], _, by simp [wkL, keep i ρ h (by omega) hI, hi], rfl, turn i _ ρ h (by simp [hi]) hI⟩) (fun ρ h hI => ⟨by simp [wkL, keep _ ρ h (Nat.le_refl _) hI], stop ρ h hI⟩) xs.length 0 _ ρ h rfl (Nat.zero_le _) (Nat.le_refl _) h0
/-- for i, x in enumerate(a list that keeps its items) -/
theorem for_enum {j k a : Nat} {xs : List Val} {ρ : Env} {h : Mem} (I : Nat → Env → Mem → Prop) (h0 : I 0 ρ h) (keep : ∀ i ρ h, i ≤ xs.length → I i ρ h → h[a]? = some (.lst xs))
    (turn : ∀ i x ρ h, xs[i]? = some x → I i ρ h → Fw (body ((ρ.set j (some (.int i))).set k (some x)) h) ⟨I (i + 1), P.rt, P.nx, I (i + 1), P.xc⟩)
    (stop : ∀ ρ h, I xs.length ρ h → Fw (els ρ h) P) : Fw (forF (wkE (wkL a xs.length)) (.tp [.nm j, .nm k]) body els (wkE (wkL a xs.length)).fuel 0 ρ h) P := by
  refine for_wk xs.length I (fun i ρ h hi hI => ⟨.tup [.int i, xs[i]], _, by simp [wkE, wkL, keep i ρ h (by omega) hI, hi], rfl, turn i _ ρ h (by simp [hi]) hI⟩) (fun ρ h hI => ⟨by simp [wkE, wkL, keep _ ρ h (Nat.le_refl _) hI], stop ρ h hI⟩) xs.length 0 _ ρ h rfl (Nat.zero_le _) (Nat.le_refl _) h0
/-- for x in a tuple -/
theorem for_tup {j : Nat} {xs : List Val} {ρ : Env} {h : Mem} (I : Nat → Env → Mem → Prop) (h0 : I 0 ρ h)
    (turn : ∀ i x ρ h, xs[i]? = some x → I i ρ h → Fw (body (ρ.set j (some x)) h) ⟨I (i + 1), P.rt, P.nx, I (i + 1), P.xc⟩)
    (stop : ∀ ρ h, I xs.length ρ h → Fw (els ρ h) P) : Fw (forF (wkT xs) (.nm j) body els (wkT xs).fuel 0 ρ h) P := by
  refine for_wk xs.length I (fun i ρ h hi hI => ⟨xs[i], _, by simp [wkT, hi], rfl, turn i _ ρ h (by simp [hi]) hI⟩) (fun ρ h hI => ⟨by simp [wkT], stop ρ h hI⟩) xs.length 0 _ ρ h rfl (Nat.zero_le _) (Nat.le_refl _) h0
/-- a comprehension -/
theorem lc_wk {c : MT} {elt : ME} {ρ : Env} {Q : List Val → Mem → Prop} (n : Nat) (I : Nat → List Val → Mem → Prop)
    (turn : ∀ i acc h, i < n → I i acc h → ∃ v ρ1, w.at_ i h = some (some v) ∧ put1 t v ρ = some ρ1 ∧ (c ρ1 h).W (fun k h2 => if k = true then (elt ρ1 h2).W (fun y h3 => acc.length < sizeLine ∧ I (i + 1) (acc ++ [y]) h3) nX else I (i + 1) acc h2) nX)
    (stop : ∀ acc h, I n acc h → w.at_ n h = some none ∧ Q acc h) {X : XQ} : ∀ (k i fuel : Nat) (acc : List Val) (h : Mem), n - i = k → i ≤ n → n - i ≤ fuel → I i acc h → (lcF w t c elt ρ fuel i acc h).W Q X := by
  intro k
  induction k with
  | zero =>
    intro i fuel acc h hk hi hf hI
    have e : i = n := by omega
    subst e
    obtain ⟨e1, e2⟩ := stop acc h hI
    unfold lcF
    rw [e1]
    exact e2
  | succ k ih =>
    intro i fuel acc h hk hi hf hI
    obtain ⟨v, ρ1, e1, e2, e3⟩ := turn i acc h (by omega) hI
    unfold lcF
    rw [e1]
    cases fuel with
    | zero => omega
    | succ fuel =>
      simp only [e2]
      cases e : c ρ1 h with
      | ok b h2 =>
        rw [e] at e3
        cases b with
        | false => exact ih (i + 1) fuel acc h2 (by omega) (by omega) (by omega) (by simpa using e3)
        | true =>
          have e3 : (elt ρ1 h2).W (fun y h3 => acc.length < sizeLine ∧ I (i + 1) (acc ++ [y]) h3) nX := by simpa using e3
          cases e4 : elt ρ1 h2 with
          | ok y h3 =>
            rw [e4] at e3
            simp only [e4]
            rw [if_pos e3.1]
            exact ih (i + 1) fuel _ h3 (by omega) (by omega) (by omega) e3.2
          | exc c fs h3 => rw [e4] at e3; exact (show False from e3).elim
          | bad => rw [e4] at e3; exact (show False from e3).elim
      | exc c fs h2 => rw [e] at e3; exact e3.elim
      | bad => rw [e] at e3; exact e3.elim
theorem lc_rng {j : Nat} {lo : Int} {n : Nat} {c : MT} {elt : ME} {ρ : Env} {h : Mem} {Q : List Val → Mem → Prop} {X : XQ} (I : Nat → List Val → Mem → Prop) (h0 : I 0 [] h)
    (turn : ∀ i acc h, i < n → I i acc h → (c (ρ.set j (some (.int (lo + i)))) h).W (fun k h2 => if k = true then (elt (ρ.set j (some (.int (lo + i)))) h2).W (fun y h3 => acc.length < sizeLine ∧ I (i + 1) (acc ++ [y]) h3) nX else I (i + 1) acc h2) nX)
    (stop : ∀ acc h, I n acc h → Q acc h) : (lcF (wkR lo n) (.nm j) c elt ρ (wkR lo n).fuel 0 [] h).W Q X :=
  lc_wk n I (fun i acc h hi hI => ⟨_, _, by simp [wkR, hi], rfl, turn i acc h hi hI⟩) (fun acc h hI => ⟨by simp [wkR], stop acc h hI⟩) n 0 _ [] h rfl (Nat.zero_le _) (Nat.le_refl _) h0
theorem lc_lst {j a : Nat} {xs : List Val} {c : MT} {elt : ME} {ρ : Env} {h : Mem} {Q : List Val → Mem → Prop} {X : XQ} (I : Nat → List Val → Mem → Prop) (h0 : I 0 [] h) (keep : ∀ i acc h, i ≤ xs.length → I i acc h → h[a]? = some (.lst xs))
    (turn : ∀ i x acc h, xs[i]? = some x → I i acc h → (c (ρ.set j (some x)) h).W (fun k h2 => if k = true then (elt (ρ.set j (some x)) h2).W (fun y h3 => acc.length < sizeLine ∧ I (i + 1) (acc ++ [y]) h3) nX else I (i + 1) acc h2) nX)
    (stop : ∀ acc h, I xs.length acc h → Q acc h) : (lcF (wkL a xs.length) (.nm j) c elt ρ (wkL a xs.length).fuel 0 [] h).W Q X :=
  lc_wk xs.length I (fun i acc h hi hI => ⟨xs[i], _, by simp [wkL, keep i acc h (by omega) hI, hi], rfl, turn i _ acc h (by simp [hi]) hI⟩) (fun acc h hI => ⟨by simp [wkL, keep _ acc h (Nat.le_refl _) hI], stop acc h hI⟩) xs.length 0 _ [] h rfl (Nat.zero_le _) (Nat.le_refl _) h0
theorem lc_enum {j k a : Nat} {xs : List Val} {c : MT} {elt : ME} {ρ : Env} {h : Mem} {Q : List Val → Mem → Prop} {X : XQ} (I : Nat → List Val → Mem → Prop) (h0 : I 0 [] h) (keep : ∀ i acc h, i ≤ xs.length → I i acc h → h[a]? = some (.lst xs))
    (turn : ∀ i x acc h, xs[i]? = some x → I i acc h → (c ((ρ.set j (some (.int i))).set k (some x)) h).W (fun b h2 => if b = true then (elt ((ρ.set j (some (.int i))).set k (some x)) h2).W (fun y h3 => acc.length < sizeLine ∧ I (i + 1) (acc ++ [y]) h3) nX else I (i + 1) acc h2) nX)
    (stop : ∀ acc h, I xs.length acc h → Q acc h) : (lcF (wkE (wkL a xs.length)) (.tp [.nm j, .nm k]) c elt ρ (wkE (wkL a xs.length)).fuel 0 [] h).W Q X :=
  lc_wk xs.length I (fun i acc h hi hI => ⟨.tup [.int i, xs[i]], _, by simp [wkE, wkL, keep i acc h (by omega) hI, hi], rfl, turn i _ acc h (by simp [hi]) hI⟩) (fun acc h hI => ⟨by simp [wkE, wkL, keep _ acc h (Nat.le_refl _) hI], stop acc h hI⟩) xs.length 0 _ [] h rfl (Nat.zero_le _) (Nat.le_refl _) h0
theorem lc_tup {j : Nat} {xs : List Val} {c : MT} {elt : ME} {ρ : Env} {h : Mem} {Q : List Val → Mem → Prop} {X : XQ} (I : Nat → List Val → Mem → Prop) (h0 : I 0 [] h)
    (turn : ∀ i x acc h, xs[i]? = some x → I i acc h → (c (ρ.set j (some x)) h).W (fun k h2 => if k = true then (elt (ρ.set j (some x)) h2).W (fun y h3 => acc.length < sizeLine ∧ I (i + 1) (acc ++ [y]) h3) nX else I (i + 1) acc h2) nX)
    (stop : ∀ acc h, I xs.length acc h → Q acc h) : (lcF (wkT xs) (.nm j) c elt ρ (wkT xs).fuel 0 [] h).W Q X :=
  lc_wk xs.length I (fun i acc h hi hI => ⟨xs[i], _, by simp [wkT, hi], rfl, turn i _ acc h (by simp [hi]) hI⟩) (fun acc h hI => ⟨by simp [wkT], stop acc h hI⟩) xs.length 0 _ [] h rfl (Nat.zero_le _) (Nat.le_refl _) h0
end
/-! ### memories -/
/-- h' is a later memory: the objects out of S are as they were -/
structure Fr (S : List Nat) (h h' : Mem) : Prop where
  len : h.length ≤ h'.length
  keep : ∀ n, n < h.length → n ∉ S → h'[n]? = h[n]?
theorem lt_of_get {h : Mem} {n : Nat} {o : Ob} (e : h[n]? = some o) : n < h.length := (List.getElem?_eq_some_iff.mp e).1
theorem Fr.refl (S : List Nat) (h : Mem) : Fr S h h := ⟨Nat.le_refl _, fun _ _ _ => rfl⟩
theorem Fr.get {S : List Nat} {h h' : Mem} (f : Fr S h h') {n : Nat} {o : Ob} (e : h[n]? = some o) (hn : n ∉ S) : h'[n]? = some o := by
  rw [f.keep n (lt_of_get e) hn, e]
theorem Fr.mono {S S' : List Nat} {h h' : Mem} (f : Fr S h h') (i : ∀ n, n < h.length → n ∈ S → n ∈ S') : Fr S' h h' := ⟨f.len, fun n hn hS => f.keep n hn fun z => hS (i n hn z)⟩
theorem Fr.trans {S : List Nat} {h h' h'' : Mem} (f : Fr S h h') (g : Fr S h' h'') : Fr S h h'' := ⟨Nat.le_trans f.len g.len, fun n hn hS => (g.keep n (Nat.lt_of_lt_of_le hn f.len) hS).trans (f.keep n hn hS)⟩
/-- objects made since h may change too -/
theorem Fr.trans' {S S2 : List Nat} {h h' h'' : Mem} (f : Fr S h h') (g : Fr S2 h' h'') (i : ∀ n, n ∈ S2 → n < h.length → n ∈ S) : Fr S h h'' := ⟨Nat.le_trans f.len g.len, fun n hn hS => (g.keep n (Nat.lt_of_lt_of_le hn f.len) fun z => hS (i n z hn)).trans (f.keep n hn hS)⟩
theorem Fr.app (S : List Nat) (h l : Mem) : Fr S h (h ++ l) := ⟨by simp, fun n hn _ => List.getElem?_append_left hn⟩
theorem Fr.set (h : Mem) (a : Nat) (o : Ob) : Fr [a] h (h.set a o) := ⟨by simp, fun n hn hS => List.getElem?_set_ne fun e => hS (by simp [e])⟩
theorem get_app {h : Mem} {n : Nat} {o : Ob} (l : Mem) (e : h[n]? = some o) : (h ++ l)[n]? = some o := by
  rw [List.getElem?_append_left (lt_of_get e), e]
theorem get_new (h : Mem) (o : Ob) : (h ++ [o])[h.length]? = some o := by simp
theorem get_set {h : Mem} {a : Nat} {o o' : Ob} (e : h[a]? = some o') : (h.set a o)[a]? = some o := by
  simp [List.getElem?_set, lt_of_get e]
theorem get_set_ne {h : Mem} {a b : Nat} {o o' : Ob} (e : h[b]? = some o') (ne : a ≠ b) : (h.set a o)[b]? = some o' := by
  rw [List.getElem?_set_ne ne, e]
end Mp
set_option Elab.async false
set_option linter.all false
set_option maxRecDepth 100000
set_option maxHeartbeats 1000000
namespace Mp
open PySem L2 PySem.W
/-! ### the combinators, read as promises -/
section
variable {α : Type} {Q : Val → Mem → Prop} {B : Bool → Mem → Prop} {R : List Val → Mem → Prop} {X : XQ} {P : Po} {ρ : Env} {h : Mem}
@[simp] theorem W_ite_bad {Q : α → Mem → Prop} {c : Prop} [Decidable c] (r : Res α) : (if c then r else .bad).W Q X ↔ c ∧ r.W Q X := by
  by_cases h : c <;> simp [h]
@[simp] theorem Fw_ite_bad {c : Prop} [Decidable c] (r : Res Fl) : Fw (if c then r else .bad) P ↔ c ∧ Fw r P := by
  by_cases h : c <;> simp [h]
@[simp] theorem w_eC (v : Val) : (eC v ρ h).W Q X ↔ Q v h := Iff.rfl
@[simp] theorem w_eVar (i : Nat) : (eVar i ρ h).W Q X ↔ optP ρ[i]? fun o => optP o fun v => Q v h := by
  unfold eVar
  rcases e : ρ[i]? with _ | _ | v <;> simp
@[simp] theorem w_e1 (f : Val → Mem → Res Val) (a : ME) : (e1 f a ρ h).W Q X ↔ (a ρ h).W (fun x h => (f x h).W Q X) X := by simp [e1]
@[simp] theorem w_e2 (f : Val → Val → Mem → Res Val) (a b : ME) : (e2 f a b ρ h).W Q X ↔ (a ρ h).W (fun x h => (b ρ h).W (fun y h => (f x y h).W Q X) X) X := by simp [e2]
@[simp] theorem w_eBin (op : Operator) (a b : ME) : (eBin op a b ρ h).W Q X ↔ (a ρ h).W (fun x h => (b ρ h).W (fun y h => (binop op x y h).W Q X) X) X := by simp [eBin]
@[simp] theorem w_eCmp (op : CmpOp) (a b : ME) : (eCmp op a b ρ h).W Q X ↔ (a ρ h).W (fun x h => (b ρ h).W (fun y h => optP (cmpop op h x y) fun k => Q (.bl k) h) X) X := by simp [eCmp, cmpR]
@[simp] theorem w_eNeg (a : ME) : (eNeg a ρ h).W Q X ↔ (a ρ h).W (fun x h => ∃ i, x = .int i ∧ Q (.int (-i)) h) X := by
  simp only [eNeg, w_e1]
  refine iff_of_eq (congrArg (fun z => (a ρ h).W z X) (funext fun x => funext fun h => propext ?_))
  cases x <;> simp [negV]
@[simp] theorem w_eNot (a : ME) : (eNot a ρ h).W Q X ↔ (a ρ h).W (fun x h => optP (truthy h x) fun k => Q (.bl (!k)) h) X := by simp [eNot]
@[simp] theorem w_eAnd (a b : ME) : (eAnd a b ρ h).W Q X ↔ (a ρ h).W (fun x h => optP (truthy h x) fun k => (k = true → (b ρ h).W Q X) ∧ (k = false → Q x h)) X := by
  simp [eAnd, W_ite]
@[simp] theorem w_eOr (a b : ME) : (eOr a b ρ h).W Q X ↔ (a ρ h).W (fun x h => optP (truthy h x) fun k => (k = true → Q x h) ∧ (k = false → (b ρ h).W Q X)) X := by
  simp [eOr, W_ite]
@[simp] theorem w_eIf (c : MT) (a b : ME) : (eIf c a b ρ h).W Q X ↔ (c ρ h).W (fun k h => (k = true → (a ρ h).W Q X) ∧ (k = false → (b ρ h).W Q X)) X := by
  simp [eIf, W_ite]
@[simp] theorem w_aNil : (aNil ρ h).W R X ↔ R [] h := Iff.rfl
@[simp] theorem w_aCons (a : ME) (r : MA) : (aCons a r ρ h).W R X ↔ (a ρ h).W (fun x h => (r ρ h).W (fun xs h => R (x :: xs) h) X) X := by simp [aCons]
@[simp] theorem w_eTup (as : MA) : (eTup as ρ h).W Q X ↔ (as ρ h).W (fun xs h => xs.length ≤ sizeLine ∧ Q (.tup xs) h) X := by simp [eTup]
@[simp] theorem w_newL (xs : List Val) : (newL xs h).W Q X ↔ xs.length ≤ sizeLine ∧ Q (.ref h.length) (h ++ [.lst xs]) := by simp [newL]
@[simp] theorem w_eLst (as : MA) : (eLst as ρ h).W Q X ↔ (as ρ h).W (fun xs h => xs.length ≤ sizeLine ∧ Q (.ref h.length) (h ++ [.lst xs])) X := by simp [eLst]
@[simp] theorem w_eIdx (a b : ME) : (eIdx a b ρ h).W Q X ↔ (a ρ h).W (fun x h => (b ρ h).W (fun y h => optP (idx h x y) fun v => Q v h) X) X := by simp [eIdx]
@[simp] theorem w_tE (a : ME) : (tE a ρ h).W B X ↔ (a ρ h).W (fun x h => optP (truthy h x) fun k => B k h) X := by simp [tE]
@[simp] theorem w_tNot (a : MT) : (tNot a ρ h).W B X ↔ (a ρ h).W (fun k h => B (!k) h) X := by simp [tNot]
@[simp] theorem w_tAnd (a b : MT) : (tAnd a b ρ h).W B X ↔ (a ρ h).W (fun k h => (k = true → (b ρ h).W B X) ∧ (k = false → B false h)) X := by simp [tAnd, W_ite]
@[simp] theorem w_tOr (a b : MT) : (tOr a b ρ h).W B X ↔ (a ρ h).W (fun k h => (k = true → B true h) ∧ (k = false → (b ρ h).W B X)) X := by simp [tOr, W_ite]
@[simp] theorem w_tYes : (tYesM ρ h).W B X ↔ B true h := Iff.rfl
@[simp] theorem w_eCall (m : List Val → Mem → Res Val) (as : MA) : (eCall m as ρ h).W Q X ↔ (as ρ h).W (fun vs h => (m vs h).W Q X) X := by simp [eCall]
@[simp] theorem w_eCallS (m : List Val → Mem → Res Val) (sel : List Src) (as ks : MA) : (eCallS m sel as ks ρ h).W Q X ↔ (as ρ h).W (fun us h => (ks ρ h).W (fun ws h => optP (selV us ws sel) fun vs => (m vs h).W Q X) X) X := by simp [eCallS]
theorem w_dropNon (r : Res Val) (v : Val) : (dropNon r v).W Q X ↔ r.W (fun u h => u = .non ∧ Q v h) X := by
  cases r with
  | ok a h => cases a <;> simp [dropNon]
  | _ => simp [dropNon]
@[simp] theorem w_eMake (m : List Val → Mem → Res Val) (c : Str) (sel : List Src) (as ks : MA) : (eMake m c sel as ks ρ h).W Q X ↔ (as ρ h).W (fun us h => (ks ρ h).W (fun ws h => optP (selV (.ref h.length :: us) ws sel) fun vs => (m vs (h ++ [.ins c []])).W (fun u h2 => u = .non ∧ Q (.ref h.length) h2) X) X) X := by
  simp only [eMake, W_bind]
  refine iff_of_eq (congrArg (fun z => (as ρ h).W z X) (funext fun us => funext fun h1 => congrArg (fun z => (ks ρ h1).W z X) (funext fun ws => funext fun h2 => propext ?_)))
  unfold mkI
  cases e : selV (.ref h2.length :: us) ws sel with
  | none => simp
  | some vs => simp [w_dropNon]
@[simp] theorem w_eBi (b : Bi) (as : MA) : (eBi b as ρ h).W Q X ↔ (as ρ h).W (fun vs h => (biRun b vs h).W Q X) X := by simp [eBi]
@[simp] theorem w_eIsi (Ts : List String) (a : ME) : (eIsi Ts a ρ h).W Q X ↔ (a ρ h).W (fun v h => optP (tyOf h v) fun t => Q (.bl (Ts.any (subTy t))) h) X := by
  simp only [eIsi, w_e1]
  refine iff_of_eq (congrArg (fun z => (a ρ h).W z X) (funext fun x => funext fun h => propext ?_))
  unfold isiV
  cases tyOf h x <;> simp
@[simp] theorem w_eSlice (a : ME) (lo hi : MO) : (eSlice a lo hi ρ h).W Q X ↔ (a ρ h).W (fun v h => (lo ρ h).W (fun l h => (hi ρ h).W (fun u h => (sliceV v l u h).W Q X) X) X) X := by simp [eSlice]
@[simp] theorem w_oNone {O : Option Int → Mem → Prop} : (oNone ρ h).W O X ↔ O none h := Iff.rfl
@[simp] theorem w_oSome {O : Option Int → Mem → Prop} (e : ME) : (oSome e ρ h).W O X ↔ (e ρ h).W (fun v h => ∃ i, v = .int i ∧ O (some i) h) X := by
  simp only [oSome, W_bind]
  refine iff_of_eq (congrArg (fun z => (e ρ h).W z X) (funext fun x => funext fun h => propext ?_))
  cases x <;> simp
@[simp] theorem w_eLc (vs : List Nat) (t : Tg) (it : MI) (c : MT) (elt : ME) : (eLc vs t it c elt ρ h).W Q X ↔ (it ρ h).W (fun w h => (lcF w t c elt (wipeE ρ vs) w.fuel 0 [] h).W (fun xs h => xs.length ≤ sizeLine ∧ Q (.ref h.length) (h ++ [.lst xs])) X) X := by simp [eLc]
@[simp] theorem w_iVal {O : Wk → Mem → Prop} (e : ME) : (iVal e ρ h).W O X ↔ (e ρ h).W (fun v h => optP (wkV h v) fun w => O w h) X := by simp [iVal]
@[simp] theorem w_iRng1 {O : Wk → Mem → Prop} (e : ME) : (iRng1 e ρ h).W O X ↔ (e ρ h).W (fun v h => ∃ j, v = .int j ∧ small62 j = true ∧ O (wkR 0 j.toNat) h) X := by
  simp only [iRng1, W_bind]
  refine iff_of_eq (congrArg (fun z => (e ρ h).W z X) (funext fun x => funext fun h => propext ?_))
  cases x <;> simp
@[simp] theorem w_iEnum {O : Wk → Mem → Prop} (e : ME) : (iEnum e ρ h).W O X ↔ (e ρ h).W (fun v h => optP (lstB h v) fun w => O (wkE w) h) X := by simp [iEnum]
@[simp] theorem lstB_ref' (n : Nat) : lstB h (.ref n) = match h[n]? with
  | some (.lst xs) => some (wkL n xs.length)
  | some (.rol xs) => some (wkL n xs.length)
  | _ => none := rfl
@[simp] theorem w_eAttr (Γ : Pg) (call : CallT) (x : Str) (a : ME) : (eAttr Γ call x a ρ h).W Q X ↔ (a ρ h).W (fun v h => (attrOf Γ call x v h).W Q X) X := by simp [eAttr]
@[simp] theorem w_eMeth (Γ : Pg) (call : CallT) (m : Str) (n : Nat) (ks : List Str) (o : ME) (as kas : MA) : (eMeth Γ call m n ks o as kas ρ h).W Q X ↔ (o ρ h).W (fun v h => (methBy Γ call m n ks as kas ρ v h).W Q X) X := by simp [eMeth]
@[simp] theorem w_eChain (op op' : CmpOp) (a b c : ME) : (eChain op op' a b c ρ h).W Q X ↔ (a ρ h).W (fun x h => (b ρ h).W (fun y h => optP (cmpop op h x y) fun k => (k = true → (c ρ h).W (fun w h => optP (cmpop op' h y w) fun k' => Q (.bl k') h) X) ∧ (k = false → Q (.bl false) h)) X) X := by
  simp only [eChain, W_bind, cmpR, W_opt]
  refine iff_of_eq (congrArg (fun z => (a ρ h).W z X) (funext fun x => funext fun h1 => congrArg (fun z => (b ρ h1).W z X) (funext fun y => funext fun h2 => propext ?_)))
  cases cmpop op h2 x y with
  | none => simp
  | some k => cases k <;> simp
/-! statements -/
@[simp] theorem w_sSeq (a b : MS) : Fw (sSeq a b ρ h) P ↔ Fw (a ρ h) ⟨fun ρ h => Fw (b ρ h) P, P.rt, P.bk, P.ct, P.xc⟩ := by simp [sSeq]
@[simp] theorem w_sSkip : Fw (sSkip ρ h) P ↔ P.nx ρ h := Iff.rfl
@[simp] theorem w_sBad : Fw (sBad ρ h) P ↔ False := Iff.rfl
@[simp] theorem w_sExpr (e : ME) : Fw (sExpr e ρ h) P ↔ (e ρ h).W (fun _ h => P.nx ρ h) (P.xc ρ) := by simp [sExpr]
@[simp] theorem w_sRet (e : ME) : Fw (sRet e ρ h) P ↔ (e ρ h).W P.rt (P.xc ρ) := by simp [sRet]
@[simp] theorem w_sRetN : Fw (sRetN ρ h) P ↔ P.rt .non h := Iff.rfl
@[simp] theorem w_sBrk : Fw (sBrk ρ h) P ↔ P.bk ρ h := Iff.rfl
@[simp] theorem w_sCnt : Fw (sCnt ρ h) P ↔ P.ct ρ h := Iff.rfl
@[simp] theorem w_sIf (t : MT) (a b : MS) : Fw (sIf t a b ρ h) P ↔ (t ρ h).W (fun k h => (k = true → Fw (a ρ h) P) ∧ (k = false → Fw (b ρ h) P)) (P.xc ρ) := by simp [sIf, Fw_ite]
@[simp] theorem w_sSet (i : Nat) (e : ME) : Fw (sSet i e ρ h) P ↔ (e ρ h).W (fun v h => P.nx (ρ.set i (some v)) h) (P.xc ρ) := by simp [sSet]
@[simp] theorem w_sAsg (t : Tg) (e : ME) : Fw (sAsg t e ρ h) P ↔ (e ρ h).W (fun v h => optP (put1 t v ρ) fun ρ1 => P.nx ρ1 h) (P.xc ρ) := by
  simp only [sAsg, Fw_onE]
  refine iff_of_eq (congrArg (fun z => (e ρ h).W z (P.xc ρ)) (funext fun x => funext fun h => propext ?_))
  cases put1 t x ρ <;> simp
@[simp] theorem w_sPar (i j : Nat) (as : MA) : Fw (sPar i j as ρ h) P ↔ (as ρ h).W (fun vs h => ∃ v w, vs = [v, w] ∧ P.nx ((ρ.set i (some v)).set j (some w)) h) (P.xc ρ) := by
  simp only [sPar, Fw_onE]
  refine iff_of_eq (congrArg (fun z => (as ρ h).W z (P.xc ρ)) (funext fun x => funext fun h => propext ?_))
  rcases x with _ | ⟨a, _ | ⟨b, _ | ⟨c, r⟩⟩⟩
  · simp
  · simp
  · constructor
    · exact fun q => ⟨a, b, rfl, q⟩
    · rintro ⟨v, w, e, q⟩
      cases e
      exact q
  · simp
@[simp] theorem w_sSetIdx (o i e : ME) : Fw (sSetIdx o i e ρ h) P ↔ (e ρ h).W (fun v h => (o ρ h).W (fun ov h => (i ρ h).W (fun iv h => (setIdx ov iv v h).W (fun _ h => P.nx ρ h) (P.xc ρ)) (P.xc ρ)) (P.xc ρ)) (P.xc ρ) := by simp [sSetIdx]
@[simp] theorem w_sAug (i : Nat) (op : Operator) (e : ME) : Fw (sAug i op e ρ h) P ↔ optP ρ[i]? fun o => optP o fun x => (e ρ h).W (fun y h => (augop op x y h).W (fun z h => P.nx (ρ.set i (some z)) h) (P.xc ρ)) (P.xc ρ) := by
  unfold sAug
  rcases q : ρ[i]? with _ | _ | v <;> simp
@[simp] theorem w_sAugIdx (o i : ME) (op : Operator) (e : ME) : Fw (sAugIdx o i op e ρ h) P ↔ (o ρ h).W (fun ov h => (i ρ h).W (fun iv h => optP (idxL h ov iv) fun x => (e ρ h).W (fun y h => (augop op x y h).W (fun z h => (setIdx ov iv z h).W (fun _ h => P.nx ρ h) (P.xc ρ)) (P.xc ρ)) (P.xc ρ)) (P.xc ρ)) (P.xc ρ) := by simp [sAugIdx]
@[simp] theorem w_sFor (t : Tg) (it : MI) (body els : MS) : Fw (sFor t it body els ρ h) P ↔ (it ρ h).W (fun w h => Fw (forF w t body els w.fuel 0 ρ h) P) (P.xc ρ) := by simp [sFor]
@[simp] theorem w_sSetAttr (Γ : Pg) (x : Str) (o e : ME) : Fw (sSetAttr Γ x o e ρ h) P ↔ (e ρ h).W (fun v h => (o ρ h).W (fun ov h => (setAttrM Γ x ov v h).W (fun _ h => P.nx ρ h) (P.xc ρ)) (P.xc ρ)) (P.xc ρ) := by simp [sSetAttr]
end
/-! ### values -/
section
variable {h : Mem} {i j : Int}
@[simp] theorem bin_add : binop .Add (.int i) (.int j) h = .ok (.int (i + j)) h := rfl
@[simp] theorem bin_sub : binop .Sub (.int i) (.int j) h = .ok (.int (i - j)) h := rfl
@[simp] theorem bin_mul : binop .Mult (.int i) (.int j) h = if mulOk i j then .ok (.int (i * j)) h else .bad := rfl
@[simp] theorem bin_mod : binop .Mod (.int i) (.int j) h = if 0 < j then .ok (.int (i % j)) h else .bad := rfl
@[simp] theorem bin_div : binop .FloorDiv (.int i) (.int j) h = if 0 < j ∧ j < 2 ^ 64 then .ok (.int (i / j)) h else .bad := rfl
@[simp] theorem bin_pow : binop .Pow (.int i) (.int j) h = if 0 ≤ j ∧ j ≤ 1000000 ∧ i.natAbs < 2 ^ 64 then .ok (.int (i ^ j.toNat)) h else .bad := rfl
@[simp] theorem bin_addT (xs ys : List Val) : binop .Add (.tup xs) (.tup ys) h = if xs.length + ys.length ≤ sizeLine then .ok (.tup (xs ++ ys)) h else .bad := rfl
@[simp] theorem bin_mulL (n : Nat) : binop .Mult (.ref n) (.int j) h = match h[n]? with
  | some (.lst xs) => if -(2 ^ 63) ≤ j ∧ j < 2 ^ 63 ∧ xs.length * j.toNat ≤ sizeLine then newL (List.replicate j.toNat xs).flatten h else .bad
  | _ => .bad := rfl
@[simp] theorem bin_addL (n m : Nat) : binop .Add (.ref n) (.ref m) h = match h[n]?, h[m]? with
  | some (.lst xs), some (.lst ys) => newL (xs ++ ys) h
  | _, _ => .bad := rfl
@[simp] theorem aug_addL (n m : Nat) : augop .Add (.ref n) (.ref m) h = match h[n]?, h[m]? with
  | some (.lst xs), some (.lst ys) => if xs.length + ys.length ≤ sizeLine then .ok (.ref n) (h.set n (.lst (xs ++ ys))) else .bad
  | _, _ => .bad := rfl
@[simp] theorem bi_divmod : biRun .divmod [.int i, .int j] h = if 0 < j ∧ j < 1073741824 then .ok (.tup [.int (i / j), .int (i % j)]) h else .bad := rfl
@[simp] theorem aug_add : augop .Add (.int i) (.int j) h = .ok (.int (i + j)) h := rfl
@[simp] theorem aug_sub : augop .Sub (.int i) (.int j) h = .ok (.int (i - j)) h := rfl
@[simp] theorem tru_bl (b : Bool) : truthy h (.bl b) = some b := rfl
@[simp] theorem tru_int : truthy h (.int i) = some (i != 0) := rfl
@[simp] theorem tru_non : truthy h .non = some false := rfl
@[simp] theorem tru_tup (ts : List Val) : truthy h (.tup ts) = some (!ts.isEmpty) := rfl
@[simp] theorem cmp_lt : cmpop .Lt h (.int i) (.int j) = some (decide (i < j)) := rfl
@[simp] theorem cmp_le : cmpop .LtE h (.int i) (.int j) = some (decide (i ≤ j)) := rfl
@[simp] theorem cmp_gt : cmpop .Gt h (.int i) (.int j) = some (decide (j < i)) := rfl
@[simp] theorem cmp_ge : cmpop .GtE h (.int i) (.int j) = some (decide (j ≤ i)) := rfl
@[simp] theorem rdS_int : rdS h (.int i) = some (.int i) := rfl
@[simp] theorem rdS_bl (b : Bool) : rdS h (.bl b) = some (.bool b) := rfl
@[simp] theorem rdS_non : rdS h .non = some .none := rfl
theorem rdS_str {x : Str} (hx : SeqAt.shaped (.str x) = true) : rdS h (.str x) = some (.str x) := by
  show (if SeqAt.shaped (.str x) then some (PyData.str x) else none) = _
  rw [if_pos hx]
@[simp] theorem cmp_eq_int : cmpop .Eq h (.int i) (.int j) = some (decide (i = j)) := by
  rfl
@[simp] theorem cmp_ne_int : cmpop .NotEq h (.int i) (.int j) = some (!decide (i = j)) := by
  rfl
theorem cmp_eq_str {x y : Str} (hx : SeqAt.shaped (.str x) = true) (hy : SeqAt.shaped (.str y) = true) : cmpop .Eq h (.str x) (.str y) = some (x == y) := by
  simp only [cmpop, rdS_str hx, rdS_str hy]
  rfl
theorem cmp_ne_str {x y : Str} (hx : SeqAt.shaped (.str x) = true) (hy : SeqAt.shaped (.str y) = true) : cmpop .NotEq h (.str x) (.str y) = some (!(x == y)) := by
  simp only [cmpop, rdS_str hx, rdS_str hy]
  rfl
@[simp] theorem cmp_eq_bl (x y : Bool) : cmpop .Eq h (.bl x) (.bl y) = some (x == y) := rfl
@[simp] theorem cmp_ne_bl (x y : Bool) : cmpop .NotEq h (.bl x) (.bl y) = some (!(x == y)) := rfl
@[simp] theorem cmp_is (x : Val) : cmpop .Is h x .non = some (isNon x) := by cases x <;> rfl
@[simp] theorem cmp_isNot (x : Val) : cmpop .IsNot h x .non = some (!isNon x) := by cases x <;> rfl
@[simp] theorem isNon_non : isNon .non = true := rfl
@[simp] theorem isNon_int : isNon (.int i) = false := rfl
@[simp] theorem isNon_bl (b : Bool) : isNon (.bl b) = false := rfl
@[simp] theorem isNon_str (x : Str) : isNon (.str x) = false := rfl
@[simp] theorem isNon_tup (x : List Val) : isNon (.tup x) = false := rfl
@[simp] theorem isNon_ref (n : Nat) : isNon (.ref n) = false := rfl
@[simp] theorem ty_non : tyOf h .non = some "NoneType" := rfl
@[simp] theorem ty_int : tyOf h (.int i) = some "int" := rfl
@[simp] theorem ty_bl (b : Bool) : tyOf h (.bl b) = some "bool" := rfl
@[simp] theorem ty_str (x : Str) : tyOf h (.str x) = some "str" := rfl
@[simp] theorem ty_tup (x : List Val) : tyOf h (.tup x) = some "tuple" := rfl
@[simp] theorem ty_ref (n : Nat) : tyOf h (.ref n) = match h[n]? with
  | some (.lst _) => some "list"
  | some (.rol _) => some "list"
  | _ => none := rfl
@[simp] theorem tru_ref (n : Nat) : truthy h (.ref n) = match h[n]? with
  | some (.lst xs) => some (!xs.isEmpty)
  | some (.rol xs) => some (!xs.isEmpty)
  | _ => none := rfl
@[simp] theorem bi_int : biRun .int [.int i] h = .ok (.int i) h := rfl
@[simp] theorem bi_intB (b : Bool) : biRun .int [.bl b] h = .ok (.int (if b then 1 else 0)) h := rfl
@[simp] theorem bi_abs : biRun .abs [.int i] h = .ok (.int (if i < 0 then -i else i)) h := rfl
@[simp] theorem bi_max : biRun .max [.int i, .int j] h = .ok (.int (if j > i then j else i)) h := rfl
@[simp] theorem bi_min : biRun .min [.int i, .int j] h = .ok (.int (if j < i then j else i)) h := rfl
@[simp] theorem bi_lenT (xs : List Val) : biRun .len [.tup xs] h = .ok (.int xs.length) h := rfl
@[simp] theorem seq_ref (n : Nat) : seqOf h (.ref n) = match h[n]? with
  | some (.lst xs) => some xs
  | some (.rol xs) => some xs
  | _ => none := rfl
@[simp] theorem lst_ref (n : Nat) : lstOf h (.ref n) = match h[n]? with
  | some (.lst xs) => some xs
  | some (.rol xs) => some xs
  | _ => none := rfl
@[simp] theorem bi_lenL (n : Nat) : biRun .len [.ref n] h = (Res.opt (seqOf h (.ref n)) h).bind fun xs h => .ok (.int xs.length) h := rfl
@[simp] theorem bi_listL (n : Nat) : biRun .list [.ref n] h = (Res.opt (seqOf h (.ref n)) h).bind newL := rfl
@[simp] theorem bi_tupL (n : Nat) : biRun .tuple [.ref n] h = (Res.opt (seqOf h (.ref n)) h).bind fun xs h => .ok (.tup xs) h := rfl
@[simp] theorem bi_listT (xs : List Val) : biRun .list [.tup xs] h = newL xs h := by simp [biRun, seqOf]
@[simp] theorem idx_tup (xs : List Val) : idx h (.tup xs) (.int i) = atI xs i := rfl
@[simp] theorem idx_ref (n : Nat) : idx h (.ref n) (.int i) = match h[n]? with
  | some (.lst xs) => atI xs i
  | some (.rol xs) => atI xs i
  | _ => none := rfl
@[simp] theorem idxL_ref (n : Nat) : idxL h (.ref n) (.int i) = match h[n]? with
  | some (.lst xs) => atI xs i
  | _ => none := rfl
theorem atI_nat {α : Type} (xs : List α) (k : Nat) : atI xs (k : Int) = xs[k]? := by
  unfold atI ixN
  rw [if_pos (by omega)]
  by_cases hk : k < xs.length
  · rw [if_pos (by omega)]
    simp
  · rw [if_neg (by omega)]
    simp at hk
    simp [hk]
theorem atI_pos {α : Type} (xs : List α) (hi : 0 ≤ i) : atI xs i = xs[i.toNat]? := by
  have := atI_nat xs i.toNat
  rwa [Int.toNat_of_nonneg hi] at this
@[simp] theorem atI_0 {α : Type} (xs : List α) : atI xs 0 = xs[0]? := atI_nat xs 0
@[simp] theorem atI_2 {α : Type} (xs : List α) : atI xs 2 = xs[2]? := atI_nat xs 2
@[simp] theorem atI_3 {α : Type} (xs : List α) : atI xs 3 = xs[3]? := atI_nat xs 3
@[simp] theorem atI_4 {α : Type} (xs : List α) : atI xs 4 = xs[4]? := atI_nat xs 4
@[simp] theorem atI_5 {α : Type} (xs : List α) : atI xs 5 = xs[5]? := atI_nat xs 5
@[simp] theorem atI_6 {α : Type} (xs : List α) : atI xs 6 = xs[6]? := atI_nat xs 6
@[simp] theorem atI_7 {α : Type} (xs : List α) : atI xs 7 = xs[7]? := atI_nat xs 7
@[simp] theorem atI_1 {α : Type} (xs : List α) : atI xs 1 = xs[1]? := atI_nat xs 1
theorem ixN_pos {n : Nat} (h0 : 0 ≤ i) (h1 : i < n) : ixN n i = some i.toNat := by
  unfold ixN
  rw [if_pos h0, if_pos h1]
@[simp] theorem setIdx_ref (n : Nat) (v : Val) : setIdx (.ref n) (.int i) v h = match h[n]? with
  | some (.lst xs) => (match ixN xs.length i with
    | some k => .ok .non (h.set n (.lst (xs.set k v)))
    | none => .bad)
  | _ => .bad := rfl
@[simp] theorem wkV_ref (n : Nat) : wkV h (.ref n) = match h[n]? with
  | some (.lst xs) => some (wkL n xs.length)
  | some (.rol xs) => some (wkL n xs.length)
  | _ => none := rfl
theorem ixN_lit (n k : Nat) : ixN n (k : Int) = if k < n then some k else none := by
  unfold ixN
  rw [if_pos (by omega)]
  by_cases hk : k < n
  · rw [if_pos (by omega), if_pos hk]
    simp
  · rw [if_neg (by omega), if_neg hk]
@[simp] theorem ixN_0 (n : Nat) : ixN n 0 = if 0 < n then some 0 else none := ixN_lit n 0
@[simp] theorem ixN_1 (n : Nat) : ixN n 1 = if 1 < n then some 1 else none := ixN_lit n 1
@[simp] theorem ixN_2 (n : Nat) : ixN n 2 = if 2 < n then some 2 else none := ixN_lit n 2
@[simp] theorem ixN_3 (n : Nat) : ixN n 3 = if 3 < n then some 3 else none := ixN_lit n 3
@[simp] theorem ixN_4 (n : Nat) : ixN n 4 = if 4 < n then some 4 else none := ixN_lit n 4
@[simp] theorem wkV_tup (xs : List Val) : wkV h (.tup xs) = some (wkT xs) := rfl
@[simp] theorem selV_nil (us ws : List Val) : selV us ws [] = some [] := rfl
@[simp] theorem selV_ps (us ws : List Val) (i : Nat) (r : List Src) : selV us ws (.ps i :: r) = us[i]?.bind fun v => (selV us ws r).map (v :: ·) := by
  simp only [selV, pick1]
  cases us[i]? <;> cases selV us ws r <;> rfl
@[simp] theorem selV_kw (us ws : List Val) (i : Nat) (r : List Src) : selV us ws (.kw i :: r) = ws[i]?.bind fun v => (selV us ws r).map (v :: ·) := by
  simp only [selV, pick1]
  cases ws[i]? <;> cases selV us ws r <;> rfl
@[simp] theorem selV_df (us ws : List Val) (v : Val) (r : List Src) : selV us ws (.df v :: r) = (selV us ws r).map (v :: ·) := by
  simp only [selV, pick1]
  cases selV us ws r <;> rfl
@[simp] theorem put_nm (i : Nat) (v : Val) (ρ : Env) : put1 (.nm i) v ρ = some (ρ.set i (some v)) := rfl
@[simp] theorem put_2 (i j : Nat) (v w : Val) (ρ : Env) : put1 (.tp [.nm i, .nm j]) (.tup [v, w]) ρ = some ((ρ.set i (some v)).set j (some w)) := rfl
@[simp] theorem put_3 (i j k : Nat) (u v w : Val) (ρ : Env) : put1 (.tp [.nm i, .nm j, .nm k]) (.tup [u, v, w]) ρ = some (((ρ.set i (some u)).set j (some v)).set k (some w)) := rfl
/-- a field -/
def fget (fs : List (Str × Val)) (x : Str) : Option Val := fs.lookup x
/-- an object's attribute, its class known -/
def attrIn (Γ : Pg) (call : CallT) (x c : Str) (fs : List (Str × Val)) (v : Val) (h : Mem) : Res Val := match Γ.cls.lookup c with
  | some C => match C.props.lookup x with
    | some g => (call g [v] h).shut
    | none => if C.flds.contains x then Res.opt (fs.lookup x) h else .bad
  | none => .bad
@[simp] theorem attr_ref (Γ : Pg) (call : CallT) (x : Str) (n : Nat) : attrOf Γ call x (.ref n) h = match h[n]? with
  | some (.ins c fs) => attrIn Γ call x c fs (.ref n) h
  | _ => .bad := by
  simp only [attrOf]
  rcases h[n]? with _ | o
  · rfl
  · cases o <;> rfl
def setIn (Γ : Pg) (x c : Str) (fs : List (Str × Val)) (n : Nat) (v : Val) (h : Mem) : Res Val := match Γ.cls.lookup c with
  | some C => if C.flds.contains x && decide (fs.length < 1000) then .ok .non (h.set n (.ins c (putFd x v fs))) else .bad
  | none => .bad
@[simp] theorem setA_ref (Γ : Pg) (x : Str) (n : Nat) (v : Val) : setAttrM Γ x (.ref n) v h = match h[n]? with
  | some (.ins c fs) => setIn Γ x c fs n v h
  | _ => .bad := by
  simp only [setAttrM]
  rcases h[n]? with _ | o
  · rfl
  · cases o <;> rfl
def methIn (Γ : Pg) (call : CallT) (m : Str) (n : Nat) (ks : List Str) (c : Str) (fs : List (Str × Val)) (as kas : MA) (ρ : Env) (v : Val) (h : Mem) : Res Val := match Γ.cls.lookup c with
  | some C => match C.meths.lookup m with
    | some g => if (fs.lookup m).isNone then (as ρ h).bind fun us h => (kas ρ h).bind fun ws h => callBy Γ call g (n + 1) ks (v :: us) ws h else .bad
    | none => .bad
  | none => .bad
@[simp] theorem meth_ref (Γ : Pg) (call : CallT) (m : Str) (n : Nat) (ks : List Str) (as kas : MA) (ρ : Env) (a : Nat) : methBy Γ call m n ks as kas ρ (.ref a) h = match h[a]? with
  | some (.ins c fs) => methIn Γ call m n ks c fs as kas ρ (.ref a) h
  | some (.lst _) => (match lmOf m, ks with
    | some k, [] => (as ρ h).bind fun us h => lmRun k a us h
    | _, _ => .bad)
  | _ => .bad := by
  simp only [methBy]
  rcases h[a]? with _ | o
  · rfl
  · cases o <;> rfl
@[simp] theorem lm_append : lmOf "append" = some .append := by kernel_rfl
@[simp] theorem lm_extend : lmOf "extend" = some .extend := by kernel_rfl
@[simp] theorem lm_pop : lmOf "pop" = some .pop := by kernel_rfl
@[simp] theorem lm_clear : lmOf "clear" = some .clear := by kernel_rfl
@[simp] theorem lm_reverse : lmOf "reverse" = some .reverse := by kernel_rfl
@[simp] theorem lmr_append (n : Nat) (y : Val) : lmRun .append n [y] h = match h[n]? with
  | some (.lst xs) => if xs.length < sizeLine then .ok .non (h.set n (.lst (xs ++ [y]))) else .bad
  | _ => .bad := by
  simp only [lmRun]
  all_goals (rcases h[n]? with _ | o <;> first | rfl | (cases o <;> rfl))
end
end Mp
set_option Elab.async false
set_option linter.all false
set_option maxRecDepth 100000
set_option maxHeartbeats 1000000
namespace Mp
open PySem L2
/-! ### the draws of every law -/
def L_mixed (c : CallT) : MS := (sSeq (sSet 3 (eBin .Mod (eBi .int (aCons (eBin .Add (eBin .Add (eBin .Mult (eBi .int (aCons (eVar 0) aNil)) (eC (.int (48271)))) (eBin .Mult (eBi .int (aCons (eVar 1) aNil)) (eC (.int (1583458089))))) (eC (.int (1013)))) aNil)) (eC (.int (2147483647))))) (sSeq (sSet 4 (eBin .Mod (eBi .int (aCons (eBin .Add (eBin .Add (eBin .Mult (eVar 3) (eVar 3)) (eBin .Mult (eBi .int (aCons (eVar 1) aNil)) (eC (.int (40692))))) (eC (.int (7)))) aNil)) (eC (.int (2147483399))))) (sSeq (sSet 5 (eBin .Mod (eBi .int (aCons (eBin .Add (eBin .Mult (eVar 4) (eVar 4)) (eVar 3)) aNil)) (eC (.int (2147483563))))) (sSeq (sIf (tE (eCmp .Gt (eVar 2) (eC (.int (1000000000))))) (sRet (eBin .Mod (eBi .int (aCons (eBin .Add (eBin .Mult (eVar 4) (eC (.int (2147483563)))) (eVar 5)) aNil)) (eVar 2))) sSkip) (sRet (eBin .Mod (eVar 5) (eVar 2)))))))
def L_store (c : CallT) : MS := (sSeq (sSet 2 (eBin .Add (eBin .Mult (eVar 1) (eC (.int (7919)))) (eBi .len (aCons (eVar 0) aNil)))) (sSeq (sFor (.nm 3) (iVal (eVar 0)) (sSet 2 (eBin .Mod (eBi .int (aCons (eBin .Add (eBin .Add (eBin .Mult (eVar 2) (eC (.int (1000003)))) (eBin .Mod (eBi .int (aCons (eVar 3) aNil)) (eC (.int (2147483629))))) (eC (.int (1)))) aNil)) (eC (.int (2147483647))))) sSkip) (sRet (eLst (aCons (eBi .list (aCons (eVar 0) aNil)) (aCons (eC (.int (0))) (aCons (eC (.int (0))) (aCons (eC (.int (0))) (aCons (eVar 2) aNil)))))))))
def L_take (c : CallT) : MS := (sSeq (sAugIdx (eVar 0) (eC (.int (3))) .Add (eC (.int (1)))) (sSeq (sIf (tE (eCmp .Lt (eVar 1) (eC (.int (2))))) (sRet (eC (.int (0)))) sSkip) (sSeq (sIf (tAnd (tE (eCmp .Eq (eIdx (eVar 0) (eC (.int (2)))) (eC (.int (0))))) (tE (eCmp .Lt (eIdx (eVar 0) (eC (.int (1)))) (eBi .len (aCons (eIdx (eVar 0) (eC (.int (0)))) aNil))))) (sSeq (sSet 2 (eBi .int (aCons (eIdx (eIdx (eVar 0) (eC (.int (0)))) (eIdx (eVar 0) (eC (.int (1))))) aNil))) (sSeq (sAugIdx (eVar 0) (eC (.int (1))) .Add (eC (.int (1)))) (sSeq (sIf (tE (eCmp .Lt (eBi .abs (aCons (eVar 2) aNil)) (eBin .Pow (eC (.int (10))) (eC (.int (18)))))) (sRet (eCall (c "_law_mixed") (aCons (eVar 2) (aCons (eIdx (eVar 0) (eC (.int (3)))) (aCons (eVar 1) aNil))))) sSkip) (sSetIdx (eVar 0) (eC (.int (2))) (eBi .abs (aCons (eVar 2) aNil)))))) sSkip) (sSeq (sIf (tE (eCmp .Eq (eIdx (eVar 0) (eC (.int (2)))) (eC (.int (0))))) (sRet (eCall (c "_law_mixed") (aCons (eIdx (eVar 0) (eC (.int (4)))) (aCons (eIdx (eVar 0) (eC (.int (3)))) (aCons (eVar 1) aNil))))) sSkip) (sSeq (sSet 3 (eBin .Mod (eBi .int (aCons (eIdx (eVar 0) (eC (.int (2)))) aNil)) (eVar 1))) (sSeq (sSetIdx (eVar 0) (eC (.int (2))) (eBin .FloorDiv (eBi .int (aCons (eIdx (eVar 0) (eC (.int (2)))) aNil)) (eVar 1))) (sRet (eVar 3))))))))
def L_pick (c : CallT) : MS := (sRet (eIdx (eVar 1) (eCall (c "_law_take") (aCons (eVar 0) (aCons (eBi .len (aCons (eVar 1) aNil)) aNil)))))
def L_between (c : CallT) : MS := (sSeq (sSet 3 (eBin .Add (eBin .Sub (eVar 2) (eVar 1)) (eC (.int (1))))) (sSeq (sSet 4 (eCall (c "_law_take") (aCons (eVar 0) (aCons (eC (.int (6))) aNil)))) (sSeq (sIf (tE (eCmp .Eq (eVar 4) (eC (.int (0))))) (sRet (eBin .Add (eVar 1) (eCall (c "_law_take") (aCons (eVar 0) (aCons (eBi .min (aCons (eVar 3) (aCons (eC (.int (2))) aNil))) aNil))))) sSkip) (sSeq (sIf (tE (eCmp .Eq (eVar 4) (eC (.int (1))))) (sRet (eBin .Sub (eVar 2) (eCall (c "_law_take") (aCons (eVar 0) (aCons (eBi .min (aCons (eVar 3) (aCons (eC (.int (2))) aNil))) aNil))))) sSkip) (sRet (eBin .Add (eVar 1) (eCall (c "_law_take") (aCons (eVar 0) (aCons (eVar 3) aNil)))))))))
def L_size (c : CallT) : MS := (sSeq (sSet 2 (eCall (c "_law_take") (aCons (eVar 0) (aCons (eC (.int (12))) aNil)))) (sSeq (sIf (tE (eCmp .Eq (eVar 2) (eC (.int (0))))) (sRet (eC (.int (0)))) sSkip) (sSeq (sIf (tE (eCmp .Eq (eVar 2) (eC (.int (1))))) (sRet (eVar 1)) sSkip) (sSeq (sIf (tE (eCmp .Eq (eVar 2) (eC (.int (2))))) (sRet (eBi .max (aCons (eC (.int (0))) (aCons (eBin .Sub (eVar 1) (eC (.int (1)))) aNil)))) sSkip) (sSeq (sIf (tE (eCmp .Eq (eVar 2) (eC (.int (3))))) (sRet (eCall (c "_law_take") (aCons (eVar 0) (aCons (eBin .Add (eVar 1) (eC (.int (1)))) aNil)))) sSkip) (sRet (eCall (c "_law_take") (aCons (eVar 0) (aCons (eBin .Add (eBi .min (aCons (eVar 1) (aCons (eC (.int (5))) aNil))) (eC (.int (1)))) aNil)))))))))
/-- the store: the list at 2, the script's copy at 1 -/
structure St (h : Mem) : Prop where
  ex : ∃ (ns : List Int) (p c t s : Int), h[2]? = some (.lst [.ref 1, .int p, .int c, .int t, .int s]) ∧ h[1]? = some (.lst (ns.map .int)) ∧ 0 ≤ p ∧ 0 ≤ c
/-- a draw: only the store has changed -/
structure Dr (h h' : Mem) : Prop where
  st : St h'
  fr : Fr [2] h h'
  len : h'.length = h.length
theorem Dr.get {h h' : Mem} (d : Dr h h') {n : Nat} {o : Ob} (e : h[n]? = some o) (hn : n ≠ 2) : h'[n]? = some o := d.fr.get e (by simp [hn])
theorem Dr.trans {h h' h'' : Mem} (a : Dr h h') (b : Dr h' h'') : Dr h h'' := ⟨b.st, a.fr.trans b.fr, b.len.trans a.len⟩
def SpMixed (m : List Val → Mem → Res Val) : Prop := ∀ (i t k : Int) (h : Mem), 0 < k → (m [.int i, .int t, .int k] h).W (fun v h' => h' = h ∧ ∃ r, v = .int r ∧ 0 ≤ r ∧ r < k) nX
def SpTake (m : List Val → Mem → Res Val) : Prop := ∀ (k : Int) (h : Mem), St h → k < 2 ^ 63 → (m [.ref 2, .int k] h).W (fun v h' => Dr h h' ∧ ∃ r, v = .int r ∧ 0 ≤ r ∧ (r < k ∨ r = 0)) nX
theorem mul_ok {i j : Int} (h : (-(2 ^ 64) < i ∧ i < 2 ^ 64) ∨ (-(2 ^ 64) < j ∧ j < 2 ^ 64)) : mulOk i j = true := by
  unfold mulOk
  simp only [Bool.or_eq_true, decide_eq_true_eq]
  exact h
theorem mod_lt (a : Int) {b : Int} (h : 0 < b) : 0 ≤ a % b ∧ a % b < b := ⟨Int.emod_nonneg _ (by omega), Int.emod_lt_of_pos _ h⟩
theorem sp_mixed (c : CallT) : SpMixed fun args h => fin (L_mixed c (args.map some ++ [none, none, none]) h) := by
  intro i t k h hk
  simp only [W_fin, L_mixed]
  have m1 := mod_lt (i * 48271 + t * 1583458089 + 1013) (b := 2147483647) (by decide)
  have m2 := mod_lt ((i * 48271 + t * 1583458089 + 1013) % 2147483647 * ((i * 48271 + t * 1583458089 + 1013) % 2147483647) + t * 40692 + 7) (b := 2147483399) (by decide)
  simp
  refine ⟨mul_ok (by omega), mul_ok (by omega), mul_ok (by omega), mul_ok (by omega), mul_ok (by omega), fun h1 => ⟨mul_ok (by omega), hk, mod_lt _ hk⟩, fun h1 => ⟨hk, mod_lt _ hk⟩⟩
theorem sp_take {c : CallT} (hm : SpMixed (c "_law_mixed")) : SpTake fun args h => fin (L_take c (args.map some ++ [none, none]) h) := by
  intro k h ⟨ns, p, q, t, s, e2, e1, hp, hq⟩ hk
  have g2 : ∀ o, (h.set 2 o)[2]? = some o := fun o => get_set e2
  have g1 : ∀ o, (h.set 2 o)[1]? = some (.lst (ns.map .int)) := fun o => get_set_ne e1 (by decide)
  simp only [W_fin, L_take]
  simp [e2, e1, g2, g1]
  have dr : ∀ (p' q' t' s' : Int), 0 ≤ p' → 0 ≤ q' → Dr h (h.set 2 (.lst [.ref 1, .int p', .int q', .int t', .int s'])) := fun p' q' t' s' a b =>
    ⟨⟨ns, p', q', t', s', g2 _, g1 _, a, b⟩, Fr.set _ _ _, by simp⟩
  -- the digits of a large cell
  have digits : ∀ (p' q' t' s' : Int), 0 ≤ p' → 0 ≤ q' → 2 ≤ k → 0 < k ∧ (0 < k ∧ k < 2 ^ 64) ∧ Dr h (h.set 2 (.lst [.ref 1, .int p', .int (q' / k), .int t', .int s'])) ∧ 0 ≤ q' % k ∧ (q' % k < k ∨ q' % k = 0) := fun p' q' t' s' a b hk2 =>
    ⟨by omega, ⟨by omega, by omega⟩, dr _ _ _ _ a (Int.ediv_nonneg b (by omega)), (mod_lt q' (by omega)).1, .inl (mod_lt q' (by omega)).2⟩
  have mixd : ∀ (i t' : Int) (h1 : Mem), 2 ≤ k → Dr h h1 → (c "_law_mixed" [.int i, .int t', .int k] h1).W (fun v h' => Dr h h' ∧ ∃ r, v = Val.int r ∧ 0 ≤ r ∧ (r < k ∨ r = 0)) nX := fun i t' h1 hk2 d =>
    (hm i t' k h1 (by omega)).imp (fun v h' ⟨e, r, ev, r1, r2⟩ => ⟨by rw [e]; exact d, r, ev, r1, .inl r2⟩) fun _ _ _ z => z
  refine ⟨fun hk2 => dr _ _ _ _ hp hq, fun hk2 => ⟨fun q0 => ⟨fun hlt => ?_, fun hge => ?_⟩, fun q0 => ?_⟩⟩
  · rw [atI_pos _ hp]
    have hlt' : p.toNat < ns.length := by omega
    simp [hlt', e2, e1, g2, g1]
    have ha : 0 ≤ if ns[p.toNat] < 0 then -ns[p.toNat] else ns[p.toNat] := by split <;> omega
    exact ⟨fun _ => mixd _ _ _ hk2 (dr _ _ _ _ (by omega) hq), fun _ => ⟨fun _ => mixd _ _ _ hk2 (dr _ _ _ _ (by omega) ha), fun _ => digits _ _ _ _ (by omega) ha hk2⟩⟩
  · exact ⟨fun _ => mixd _ _ _ hk2 (dr _ _ _ _ hp hq), fun _ => digits _ _ _ _ hp hq hk2⟩
  · exact ⟨fun _ => mixd _ _ _ hk2 (dr _ _ _ _ hp hq), fun _ => digits _ _ _ _ hp hq hk2⟩
/-- drawing, then going on -/
theorem take_then {m : List Val → Mem → Res Val} (hm : SpTake m) {k : Int} {h : Mem} {Q : Val → Mem → Prop} {X : XQ} (st : St h) (hk : k < 2 ^ 63) (q : ∀ r h', 0 ≤ r → (r < k ∨ r = 0) → Dr h h' → Q (.int r) h') : (m [.ref 2, .int k] h).W Q X :=
  (hm k h st hk).mono fun v h' ⟨d, r, e, r1, r2⟩ => by rw [e]; exact q r h' r1 r2 d
def SpBetween (m : List Val → Mem → Res Val) : Prop := ∀ (a b : Int) (h : Mem), St h → a ≤ b → b - a < 2 ^ 62 → (m [.ref 2, .int a, .int b] h).W (fun v h' => Dr h h' ∧ ∃ r, v = .int r ∧ a ≤ r ∧ r ≤ b) nX
theorem sp_between {c : CallT} (ht : SpTake (c "_law_take")) : SpBetween fun args h => fin (L_between c (args.map some ++ [none, none]) h) := by
  intro a b h st hab hb
  simp only [W_fin, L_between]
  simp
  refine take_then ht st (by decide) fun r h1 r1 r2 d1 => ?_
  simp
  refine ⟨fun _ => take_then ht d1.st ?_ fun q h2 q1 q2 d2 => ?_, fun _ => ⟨fun _ => take_then ht d1.st ?_ fun q h2 q1 q2 d2 => ?_, fun _ => take_then ht d1.st ?_ fun q h2 q1 q2 d2 => ?_⟩⟩
  · split <;> omega
  · simp
    refine ⟨d1.trans d2, ?_⟩
    split at q2 <;> omega
  · split <;> omega
  · simp
    refine ⟨d1.trans d2, ?_⟩
    split at q2 <;> omega
  · omega
  · simp
    exact ⟨d1.trans d2, by omega⟩
theorem between_then {m : List Val → Mem → Res Val} (hm : SpBetween m) {a b : Int} {h : Mem} {Q : Val → Mem → Prop} {X : XQ} (st : St h) (hab : a ≤ b) (hb : b - a < 2 ^ 62) (q : ∀ r h', a ≤ r → r ≤ b → Dr h h' → Q (.int r) h') : (m [.ref 2, .int a, .int b] h).W Q X :=
  (hm a b h st hab hb).mono fun v h' ⟨d, r, e, r1, r2⟩ => by rw [e]; exact q r h' r1 r2 d
def SpSize (m : List Val → Mem → Res Val) : Prop := ∀ (k : Int) (h : Mem), St h → 0 ≤ k → k < 2 ^ 62 → (m [.ref 2, .int k] h).W (fun v h' => Dr h h' ∧ ∃ r, v = .int r ∧ 0 ≤ r ∧ r ≤ k) nX
theorem sp_size {c : CallT} (ht : SpTake (c "_law_take")) : SpSize fun args h => fin (L_size c (args.map some ++ [none]) h) := by
  intro k h st hk hb
  simp only [W_fin, L_size]
  simp
  refine take_then ht st (by decide) fun r h1 r1 r2 d1 => ?_
  simp
  refine ⟨fun _ => ⟨d1, hk⟩, fun _ => ⟨fun _ => ⟨d1, hk⟩, fun _ => ⟨fun _ => ⟨d1, ?_⟩, fun _ => ⟨fun _ => take_then ht d1.st (by omega) fun q h2 q1 q2 d2 => ?_, fun _ => take_then ht d1.st ?_ fun q h2 q1 q2 d2 => ?_⟩⟩⟩⟩
  · split <;> omega
  · simp
    exact ⟨d1.trans d2, by omega⟩
  · split <;> omega
  · simp
    refine ⟨d1.trans d2, ?_⟩
    split at q2 <;> omega
theorem size_then {m : List Val → Mem → Res Val} (hm : SpSize m) {k : Int} {h : Mem} {Q : Val → Mem → Prop} {X : XQ} (st : St h) (h0 : 0 ≤ k) (hk : k < 2 ^ 62) (q : ∀ r h', 0 ≤ r → r ≤ k → Dr h h' → Q (.int r) h') : (m [.ref 2, .int k] h).W Q X :=
  (hm k h st h0 hk).mono fun v h' ⟨d, r, e, r1, r2⟩ => by rw [e]; exact q r h' r1 r2 d
/-- one of a row -/
def SpPick (m : List Val → Mem → Res Val) : Prop := ∀ (n : Nat) (xs : List Val) (h : Mem), St h → h[n]? = some (.lst xs) → n ≠ 2 → 0 < xs.length → xs.length < 2 ^ 62 → (m [.ref 2, .ref n] h).W (fun v h' => Dr h h' ∧ ∃ i, i < xs.length ∧ xs[i]? = some v) nX
theorem sp_pick {c : CallT} (ht : SpTake (c "_law_take")) : SpPick fun args h => fin (L_pick c (args.map some) h) := by
  intro n xs h st e hn h0 hl
  simp only [W_fin, L_pick]
  simp [e]
  refine take_then ht st (by omega) fun r h1 r1 r2 d1 => ?_
  have hr : r.toNat < xs.length := by omega
  simp [d1.get e hn, atI_pos _ r1, hr]
  exact ⟨d1, r.toNat, hr, by simp [hr]⟩
/-- the store is made -/
theorem sp_store (c : CallT) (ns : List Int) (salt : Int) (hl : ns.length ≤ 63) {Q : Val → Mem → Prop} {X : XQ} (q : ∀ h', h'.length = 3 → St h' → h'[0]? = some (.rol (ns.map .int)) → Q (.ref 2) h') :
    (fin (L_store c ([.ref 0, .int salt].map some ++ [none, none]) [.rol (ns.map .int)])).W Q X := by
  simp only [W_fin, L_store]
  simp
  refine ⟨mul_ok (.inr (by decide)), ?_⟩
  have e : ns.length = (ns.map Val.int).length := by simp
  conv => rw [e]
  refine for_rol (P := _) (xs := ns.map Val.int) (fun i ρ h => h = [Ob.rol (ns.map Val.int)] ∧ ∃ (s : Int) (x : Option Val), ρ = [some (.ref 0), some (.int salt), some (.int s), x]) ⟨rfl, _, _, rfl⟩ (fun i ρ h _ hI => by rw [hI.1]; rfl) ?_ ?_
  · rintro i x ρ h hx ⟨rfl, s, y, rfl⟩
    obtain ⟨j, rfl⟩ : ∃ j, x = .int j := by
      rw [List.getElem?_map] at hx
      cases q : ns[i]? with
      | none => rw [q] at hx; cases hx
      | some j => rw [q] at hx; exact ⟨j, (Option.some.inj hx).symm⟩
    simp
    exact mul_ok (.inr (by decide))
  · rintro ρ h ⟨rfl, s, y, rfl⟩
    simp
    refine ⟨Nat.le_trans hl (by decide), by decide, q _ rfl ⟨ns, 0, 0, 0, s, rfl, rfl, by decide, by decide⟩ rfl⟩
end Mp
set_option Elab.async false
set_option linter.all false
set_option maxRecDepth 100000
set_option maxHeartbeats 1000000
namespace Mp
open PySem L2
/-! ### _law_alike of like data -/
def L_alike (c : CallT) : MS := (sSeq (sIf (tOr (tE (eCmp .Is (eVar 0) (eC (.non)))) (tE (eCmp .Is (eVar 1) (eC (.non))))) (sRet (eAnd (eCmp .Is (eVar 0) (eC (.non))) (eCmp .Is (eVar 1) (eC (.non))))) sSkip) (sSeq (sIf (tOr (tE (eIsi ["bool"] (eVar 0))) (tE (eIsi ["bool"] (eVar 1)))) (sRet (eAnd (eIsi ["bool"] (eVar 0)) (eAnd (eIsi ["bool"] (eVar 1)) (eCmp .Eq (eVar 0) (eVar 1))))) sSkip) (sSeq (sIf (tE (eIsi ["int"] (eVar 0))) (sRet (eAnd (eIsi ["int"] (eVar 1)) (eCmp .Eq (eVar 0) (eVar 1)))) sSkip) (sSeq (sIf (tE (eIsi ["str"] (eVar 0))) (sRet (eAnd (eIsi ["str"] (eVar 1)) (eCmp .Eq (eVar 0) (eVar 1)))) sSkip) (sSeq (sIf (tE (eIsi ["list"] (eVar 0))) (sIf (tNot (tE (eIsi ["list"] (eVar 1)))) (sRet (eC (.bl false))) sSkip) (sIf (tOr (tNot (tE (eIsi ["tuple"] (eVar 0)))) (tNot (tE (eIsi ["tuple"] (eVar 1))))) (sRet (eC (.bl false))) sSkip)) (sSeq (sIf (tE (eCmp .NotEq (eBi .len (aCons (eVar 0) aNil)) (eBi .len (aCons (eVar 1) aNil)))) (sRet (eC (.bl false))) sSkip) (sSeq (sFor (.nm 2) (iRng1 (eBi .len (aCons (eVar 0) aNil))) (sIf (tNot (tE (eCall (c "_law_alike") (aCons (eIdx (eVar 0) (eVar 2)) (aCons (eIdx (eVar 1) (eVar 2)) aNil))))) (sRet (eC (.bl false))) sSkip) sSkip) (sRet (eC (.bl true))))))))))
/-- the same data, to the depth n -/
inductive Alk (h : Mem) : Nat → Val → Val → Prop
  | non {n : Nat} : Alk h n .non .non
  | bl {n : Nat} (b : Bool) : Alk h n (.bl b) (.bl b)
  | int {n : Nat} (i : Int) : Alk h n (.int i) (.int i)
  | str {n : Nat} (x : Str) (hx : SeqAt.shaped (.str x) = true) : Alk h n (.str x) (.str x)
  | tup {n : Nat} (xs ys : List Val) (hl : xs.length = ys.length) (hs : xs.length < 2 ^ 62) (ha : ∀ (i : Nat) (x y : Val), xs[i]? = some x → ys[i]? = some y → Alk h n x y) : Alk h (n + 1) (.tup xs) (.tup ys)
  | lst {n : Nat} (a b : Nat) (xs ys : List Val) (e1 : h[a]? = some (.lst xs)) (e2 : h[b]? = some (.lst ys)) (hl : xs.length = ys.length) (hs : xs.length < 2 ^ 62) (ha : ∀ (i : Nat) (x y : Val), xs[i]? = some x → ys[i]? = some y → Alk h n x y) : Alk h (n + 1) (.ref a) (.ref b)
def SpAlk (n : Nat) (m : List Val → Mem → Res Val) : Prop := ∀ (v w : Val) (h : Mem), Alk h n v w → m [v, w] h = .ok (.bl true) h
theorem sp_alike {c : CallT} {n : Nat} (ih : ∀ k, k < n → SpAlk k (c "_law_alike")) : SpAlk n fun args h => fin (L_alike c (args.map some ++ [none]) h) := by
  intro v w h A
  refine W_eq ?_
  simp only [W_fin, L_alike]
  cases A with
  | non => simp
  | bl b => simp [subTy]
  | int i => simp [subTy]
  | str x hx => simp [subTy, cmp_eq_str hx hx]
  | @tup k xs ys hl hs ha =>
    simp [subTy, hl]
    refine ⟨by unfold small62; simp; omega, ?_⟩
    refine for_rng (fun i ρ h' => h' = h ∧ ∃ z, ρ = [some (.tup xs), some (.tup ys), z]) ⟨rfl, _, rfl⟩ ?_ ?_
    · rintro i ρ h' hi ⟨rfl, z, rfl⟩
      have hi' : i < xs.length := by omega
      have hi2 : i < ys.length := by omega
      have := ih k (by omega) xs[i] ys[i] h' (ha i _ _ (by simp [hi']) (by simp [hi2]))
      simp [Mp.atI_nat, hi', hi2, this]
    · rintro ρ h' ⟨rfl, z, rfl⟩
      simp
  | @lst k a b xs ys e1 e2 hl hs ha =>
    simp [subTy, hl, e1, e2]
    refine ⟨by unfold small62; simp; omega, ?_⟩
    refine for_rng (fun i ρ h' => h' = h ∧ ∃ z, ρ = [some (.ref a), some (.ref b), z]) ⟨rfl, _, rfl⟩ ?_ ?_
    · rintro i ρ h' hi ⟨rfl, z, rfl⟩
      have hi' : i < xs.length := by omega
      have hi2 : i < ys.length := by omega
      have := ih k (by omega) xs[i] ys[i] h' (ha i _ _ (by simp [hi']) (by simp [hi2]))
      simp [Mp.atI_nat, hi', hi2, this, e1, e2]
    · rintro ρ h' ⟨rfl, z, rfl⟩
      simp
end Mp
set_option Elab.async false
set_option linter.all false
set_option maxRecDepth 100000
set_option maxHeartbeats 2000000
namespace K04
open PySem PySem.Spec PyProof.Rows L2 Mp
def top (i : Nat) : Stmt := PySem.Challenge.pw_wardwork_k04_spaces_as_if_alone.main.body.getD i (.Pass ⟨0, 0, 0, 0⟩)
def d_law : Dd := { g := "law", at_ := ("law", none), name := "law", qual := "law", params := defArgs (top 34), ps := ["_law_script"], dfl := [], N := ["_law_script", "_law_store_here", "_law_sizes", "_law_top", "_law_frames", "_law_other", "_law_spaces", "_law_call", "_law_who", "_law_row", "_law_free"], sc := defScope (top 34), body := defBody (top 34) }
def d__law_many_forks : Dd := { g := "_law_many_forks", at_ := ("_law_many_forks", none), name := "_law_many_forks", qual := "_law_many_forks", params := defArgs (top 33), ps := ["_law_store_here", "_law_pages"], dfl := [], N := ["_law_store_here", "_law_pages", "_law_frames", "_law_spaces", "_law_k", "_law_last", "_law_rest", "_law_row"], sc := defScope (top 33), body := defBody (top 33) }
def d__law_take : Dd := { g := "_law_take", at_ := ("_law_take", none), name := "_law_take", qual := "_law_take", params := defArgs (top 23), ps := ["_law_store_here", "_law_many"], dfl := [], N := ["_law_store_here", "_law_many", "_law_cell", "_law_digit"], sc := defScope (top 23), body := defBody (top 23) }
def d__law_alike : Dd := { g := "_law_alike", at_ := ("_law_alike", none), name := "_law_alike", qual := "_law_alike", params := defArgs (top 28), ps := ["_law_one", "_law_two"], dfl := [], N := ["_law_one", "_law_two", "_law_k"], sc := defScope (top 28), body := defBody (top 28) }
def d_Frames_free : Dd := { g := "Frames.free", at_ := ("Frames", some "free"), name := "free", qual := "Frames.free", params := defArgs (inClass (top 16) 2), ps := ["self"], dfl := [], N := ["self", "frame", "count"], sc := defScope (inClass (top 16) 2), body := defBody (inClass (top 16) 2), prop := true }
def d__law_alone : Dd := { g := "_law_alone", at_ := ("_law_alone", none), name := "_law_alone", qual := "_law_alone", params := defArgs (top 31), ps := ["_law_spaces"], dfl := [], N := ["_law_spaces", "_law_row", "_law_told"], sc := defScope (top 31), body := defBody (top 31) }
def d__law_step : Dd := { g := "_law_step", at_ := ("_law_step", none), name := "_law_step", qual := "_law_step", params := defArgs (top 32), ps := ["_law_row", "_law_call"], dfl := [], N := ["_law_row", "_law_call", "_law_place", "_law_told", "_law_words"], sc := defScope (top 32), body := defBody (top 32) }
def d__law_new : Dd := { g := "_law_new", at_ := ("_law_new", none), name := "_law_new", qual := "_law_new", params := defArgs (top 30), ps := ["_law_store_here", "_law_frames", "_law_many"], dfl := [], N := ["_law_store_here", "_law_frames", "_law_many"], sc := defScope (top 30), body := defBody (top 30) }
def d_Space_close : Dd := { g := "Space.close", at_ := ("Space", some "close"), name := "close", qual := "Space.close", params := defArgs (inClass (top 19) 7), ps := ["self"], dfl := [], N := ["self", "frame"], sc := defScope (inClass (top 19) 7), body := defBody (inClass (top 19) 7) }
def d_Space_fork : Dd := { g := "Space.fork", at_ := ("Space", some "fork"), name := "fork", qual := "Space.fork", params := defArgs (inClass (top 19) 6), ps := ["self"], dfl := [], N := ["self", "twin", "page", "frame"], sc := defScope (inClass (top 19) 6), body := defBody (inClass (top 19) 6) }
def d__law_space_calls : Dd := { g := "_law_space_calls", at_ := ("_law_space_calls", none), name := "_law_space_calls", qual := "_law_space_calls", params := defArgs (top 29), ps := ["_law_store_here", "_law_pages", "_law_count"], dfl := [], N := ["_law_store_here", "_law_pages", "_law_count", "_law_rows", "_law_k", "_law_way", "_law_who", "_law_address"], sc := defScope (top 29), body := defBody (top 29) }
def d_Frames___init__ : Dd := { g := "Frames.__init__", at_ := ("Frames", some "__init__"), name := "__init__", qual := "Frames.__init__", params := defArgs (inClass (top 16) 0), ps := ["self", "many"], dfl := [], N := ["self", "many", "spare"], sc := defScope (inClass (top 16) 0), body := defBody (inClass (top 16) 0) }
def d__law_size : Dd := { g := "_law_size", at_ := ("_law_size", none), name := "_law_size", qual := "_law_size", params := defArgs (top 25), ps := ["_law_store_here", "_law_most"], dfl := [], N := ["_law_store_here", "_law_most", "_law_way"], sc := defScope (top 25), body := defBody (top 25) }
def d__law_store : Dd := { g := "_law_store", at_ := ("_law_store", none), name := "_law_store", qual := "_law_store", params := defArgs (top 22), ps := ["_law_script", "_law_salt"], dfl := [], N := ["_law_script", "_law_salt", "_law_seed", "_law_cell"], sc := defScope (top 22), body := defBody (top 22) }
def d__law_word : Dd := { g := "_law_word", at_ := ("_law_word", none), name := "_law_word", qual := "_law_word", params := defArgs (top 26), ps := ["_law_store_here"], dfl := [], N := ["_law_store_here", "_law_way"], sc := defScope (top 26), body := defBody (top 26) }
def d__law_mixed : Dd := { g := "_law_mixed", at_ := ("_law_mixed", none), name := "_law_mixed", qual := "_law_mixed", params := defArgs (top 21), ps := ["_law_number", "_law_turn", "_law_many"], dfl := [], N := ["_law_number", "_law_turn", "_law_many", "_law_first", "_law_second", "_law_third"], sc := defScope (top 21), body := defBody (top 21) }
def d_Space_pages : Dd := { g := "Space.pages", at_ := ("Space", some "pages"), name := "pages", qual := "Space.pages", params := defArgs (inClass (top 19) 1), ps := ["self"], dfl := [], N := ["self"], sc := defScope (inClass (top 19) 1), body := defBody (inClass (top 19) 1), prop := true }
def d_Space_contents : Dd := { g := "Space.contents", at_ := ("Space", some "contents"), name := "contents", qual := "Space.contents", params := defArgs (inClass (top 19) 4), ps := ["self"], dfl := [], N := ["self", "words", "frame"], sc := defScope (inClass (top 19) 4), body := defBody (inClass (top 19) 4) }
def d_Space_write : Dd := { g := "Space.write", at_ := ("Space", some "write"), name := "write", qual := "Space.write", params := defArgs (inClass (top 19) 3), ps := ["self", "address", "word"], dfl := [], N := ["self", "address", "word", "page", "offset", "frame"], sc := defScope (inClass (top 19) 3), body := defBody (inClass (top 19) 3) }
def d_Space_read : Dd := { g := "Space.read", at_ := ("Space", some "read"), name := "read", qual := "Space.read", params := defArgs (inClass (top 19) 2), ps := ["self", "address"], dfl := [], N := ["self", "address"], sc := defScope (inClass (top 19) 2), body := defBody (inClass (top 19) 2) }
def d_Space___init__ : Dd := { g := "Space.__init__", at_ := ("Space", some "__init__"), name := "__init__", qual := "Space.__init__", params := defArgs (inClass (top 19) 0), ps := ["self", "frames", "pages"], dfl := [], N := ["self", "frames", "pages"], sc := defScope (inClass (top 19) 0), body := defBody (inClass (top 19) 0), kwd := [("pages", .int (4))] }
def d_Frames_drop : Dd := { g := "Frames.drop", at_ := ("Frames", some "drop"), name := "drop", qual := "Frames.drop", params := defArgs (inClass (top 16) 5), ps := ["self", "frame"], dfl := [], N := ["self", "frame"], sc := defScope (inClass (top 16) 5), body := defBody (inClass (top 16) 5) }
def d_Space_own_check_open : Dd := { g := "Space.own_check_open", at_ := ("Space", some "own_check_open"), name := "own_check_open", qual := "Space.own_check_open", params := defArgs (inClass (top 19) 15), ps := ["self"], dfl := [], N := ["self"], sc := defScope (inClass (top 19) 15), body := defBody (inClass (top 19) 15) }
def d_Frames_share : Dd := { g := "Frames.share", at_ := ("Frames", some "share"), name := "share", qual := "Frames.share", params := defArgs (inClass (top 16) 4), ps := ["self", "frame"], dfl := [], N := ["self", "frame"], sc := defScope (inClass (top 16) 4), body := defBody (inClass (top 16) 4) }
def d__law_between : Dd := { g := "_law_between", at_ := ("_law_between", none), name := "_law_between", qual := "_law_between", params := defArgs (top 24), ps := ["_law_store_here", "_law_low", "_law_high"], dfl := [], N := ["_law_store_here", "_law_low", "_law_high", "_law_many", "_law_way"], sc := defScope (top 24), body := defBody (top 24) }
def d_check_whole : Dd := { g := "check_whole", at_ := ("check_whole", none), name := "check_whole", qual := "check_whole", params := defArgs (top 11), ps := ["name", "value", "low", "high"], dfl := [], N := ["name", "value", "low", "high"], sc := defScope (top 11), body := defBody (top 11) }
def d__law_pick : Dd := { g := "_law_pick", at_ := ("_law_pick", none), name := "_law_pick", qual := "_law_pick", params := defArgs (top 27), ps := ["_law_store_here", "_law_row"], dfl := [], N := ["_law_store_here", "_law_row"], sc := defScope (top 27), body := defBody (top 27) }
def d_Frames_page : Dd := { g := "Frames.page", at_ := ("Frames", some "page"), name := "page", qual := "Frames.page", params := defArgs (inClass (top 16) 8), ps := ["self", "frame"], dfl := [], N := ["self", "frame"], sc := defScope (inClass (top 16) 8), body := defBody (inClass (top 16) 8) }
def d_Frames_poke : Dd := { g := "Frames.poke", at_ := ("Frames", some "poke"), name := "poke", qual := "Frames.poke", params := defArgs (inClass (top 16) 7), ps := ["self", "frame", "offset", "word"], dfl := [], N := ["self", "frame", "offset", "word"], sc := defScope (inClass (top 16) 7), body := defBody (inClass (top 16) 7) }
def d_Frames_take : Dd := { g := "Frames.take", at_ := ("Frames", some "take"), name := "take", qual := "Frames.take", params := defArgs (inClass (top 16) 3), ps := ["self", "words"], dfl := [.non], N := ["self", "words", "frame", "count"], sc := defScope (inClass (top 16) 3), body := defBody (inClass (top 16) 3) }
def d_Frames_holds : Dd := { g := "Frames.holds", at_ := ("Frames", some "holds"), name := "holds", qual := "Frames.holds", params := defArgs (inClass (top 16) 9), ps := ["self", "frame"], dfl := [], N := ["self", "frame"], sc := defScope (inClass (top 16) 9), body := defBody (inClass (top 16) 9) }
def d_Space_own_check_address : Dd := { g := "Space.own_check_address", at_ := ("Space", some "own_check_address"), name := "own_check_address", qual := "Space.own_check_address", params := defArgs (inClass (top 19) 14), ps := ["self", "address"], dfl := [], N := ["self", "address"], sc := defScope (inClass (top 19) 14), body := defBody (inClass (top 19) 14) }
def d_Space_own_word_at : Dd := { g := "Space.own_word_at", at_ := ("Space", some "own_word_at"), name := "own_word_at", qual := "Space.own_word_at", params := defArgs (inClass (top 19) 12), ps := ["self", "address"], dfl := [], N := ["self", "address", "page", "offset", "frame"], sc := defScope (inClass (top 19) 12), body := defBody (inClass (top 19) 12) }
def d_Frames_own_check_used : Dd := { g := "Frames.own_check_used", at_ := ("Frames", some "own_check_used"), name := "own_check_used", qual := "Frames.own_check_used", params := defArgs (inClass (top 16) 11), ps := ["self", "frame"], dfl := [], N := ["self", "frame"], sc := defScope (inClass (top 16) 11), body := defBody (inClass (top 16) 11) }
def d_Frames_own_check_frame : Dd := { g := "Frames.own_check_frame", at_ := ("Frames", some "own_check_frame"), name := "own_check_frame", qual := "Frames.own_check_frame", params := defArgs (inClass (top 16) 10), ps := ["self", "frame"], dfl := [], N := ["self", "frame"], sc := defScope (inClass (top 16) 10), body := defBody (inClass (top 16) 10) }
def d_whole : Dd := { g := "whole", at_ := ("whole", none), name := "whole", qual := "whole", params := defArgs (top 9), ps := ["value", "low", "high"], dfl := [], N := ["value", "low", "high"], sc := defScope (top 9), body := defBody (top 9) }
def d_check_words : Dd := { g := "check_words", at_ := ("check_words", none), name := "check_words", qual := "check_words", params := defArgs (top 12), ps := ["name", "value", "least", "most"], dfl := [], N := ["name", "value", "least", "most"], sc := defScope (top 12), body := defBody (top 12) }
def d_Space_own_has_address : Dd := { g := "Space.own_has_address", at_ := ("Space", some "own_has_address"), name := "own_has_address", qual := "Space.own_has_address", params := defArgs (inClass (top 19) 13), ps := ["self", "value"], dfl := [], N := ["self", "value"], sc := defScope (inClass (top 19) 13), body := defBody (inClass (top 19) 13) }
def d_Frames_peek : Dd := { g := "Frames.peek", at_ := ("Frames", some "peek"), name := "peek", qual := "Frames.peek", params := defArgs (inClass (top 16) 6), ps := ["self", "frame", "offset"], dfl := [], N := ["self", "frame", "offset"], sc := defScope (inClass (top 16) 6), body := defBody (inClass (top 16) 6) }
def d_all_words : Dd := { g := "all_words", at_ := ("all_words", none), name := "all_words", qual := "all_words", params := defArgs (top 10), ps := ["values"], dfl := [], N := ["values", "part"], sc := defScope (top 10), body := defBody (top 10) }
def c_Frames : ClD := { init := "Frames.__init__", meths := [("take", "Frames.take"), ("share", "Frames.share"), ("drop", "Frames.drop"), ("peek", "Frames.peek"), ("poke", "Frames.poke"), ("page", "Frames.page"), ("holds", "Frames.holds"), ("own_check_frame", "Frames.own_check_frame"), ("own_check_used", "Frames.own_check_used")], props := [("free", "Frames.free")], flds := ["own_counts", "own_stored"] }
def c_Space : ClD := { init := "Space.__init__", meths := [("read", "Space.read"), ("write", "Space.write"), ("contents", "Space.contents"), ("fork", "Space.fork"), ("close", "Space.close"), ("own_word_at", "Space.own_word_at"), ("own_has_address", "Space.own_has_address"), ("own_check_address", "Space.own_check_address"), ("own_check_open", "Space.own_check_open")], props := [("pages", "Space.pages")], flds := ["own_frames", "own_places", "own_closed"] }
def glob_ : List (Str × Val) := [("PAGE_WORDS", .int (8)), ("MOST_FRAMES", .int (96)), ("WORD_MOST", .int (65535)), ("MOST_PAGES", .int (16))]
def tops0 : List Str := ["law", "_law_many_forks", "_law_take", "_law_alike", "_law_alone", "_law_step", "_law_new", "_law_space_calls", "_law_size", "_law_store", "_law_word", "_law_mixed", "_law_between", "check_whole", "_law_pick", "whole", "check_words", "all_words"]
def tops_ : List Str := tops0
def shapes0 : List (Str × Nat × List Str) := [("law", 1, []), ("_law_many_forks", 2, []), ("_law_take", 2, []), ("_law_alike", 2, []), ("Frames.free", 1, []), ("_law_alone", 1, []), ("_law_step", 2, []), ("_law_new", 3, []), ("Space.close", 1, []), ("Space.fork", 1, []), ("_law_space_calls", 3, []), ("Frames.__init__", 2, []), ("_law_size", 2, []), ("_law_store", 2, []), ("_law_word", 1, []), ("_law_mixed", 3, []), ("Space.pages", 1, []), ("Space.contents", 1, []), ("Space.write", 3, []), ("Space.read", 2, []), ("Space.__init__", 2, ["pages"]), ("Space.__init__", 2, []), ("Space.__init__", 1, ["pages", "frames"]), ("Frames.drop", 2, []), ("Space.own_check_open", 1, [])]
def shapes1 : List (Str × Nat × List Str) := [("Frames.share", 2, []), ("_law_between", 3, []), ("check_whole", 4, []), ("_law_pick", 2, []), ("Frames.page", 2, []), ("Frames.poke", 4, []), ("Frames.take", 2, []), ("Frames.holds", 2, []), ("Frames.take", 1, []), ("Space.own_check_address", 2, []), ("Space.own_word_at", 2, []), ("Frames.own_check_used", 2, []), ("Frames.own_check_frame", 2, []), ("whole", 3, []), ("check_words", 4, []), ("Space.own_has_address", 2, []), ("Frames.peek", 3, []), ("all_words", 1, [])]
def shapes_ : List (Str × Nat × List Str) := shapes0 ++ shapes1
def T : Txt := { dds := [d_law, d__law_many_forks, d__law_take, d__law_alike, d_Frames_free, d__law_alone, d__law_step, d__law_new, d_Space_close, d_Space_fork, d__law_space_calls, d_Frames___init__, d__law_size, d__law_store, d__law_word, d__law_mixed, d_Space_pages, d_Space_contents, d_Space_write, d_Space_read, d_Space___init__, d_Frames_drop, d_Space_own_check_open, d_Frames_share, d__law_between, d_check_whole, d__law_pick, d_Frames_page, d_Frames_poke, d_Frames_take, d_Frames_holds, d_Space_own_check_address, d_Space_own_word_at, d_Frames_own_check_used, d_Frames_own_check_frame, d_whole, d_check_words, d_Space_own_has_address, d_Frames_peek, d_all_words], tops := tops_, cls := [("Frames", c_Frames), ("Space", c_Space)], glob := glob_, shapes := shapes_ }
theorem b0 : BindOk d_law 1 [] [.ps 0] := ⟨by kernel_rfl, by decide +kernel, by decide +kernel, by decide +kernel, fun _ _ _ _ _ _ _ _ _ => by show bindArgs _ _ = pure _; kernel_rfl, fun h => absurd rfl h, fun _ h => absurd rfl h, fun h => absurd rfl h⟩
theorem b1 : BindOk d__law_many_forks 2 [] [.ps 0, .ps 1] := ⟨by kernel_rfl, by decide +kernel, by decide +kernel, by decide +kernel, fun _ _ _ _ _ _ _ _ _ _ => by show bindArgs _ _ = pure _; kernel_rfl, fun h => absurd rfl h, fun _ h => absurd rfl h, fun h => absurd rfl h⟩
theorem b2 : BindOk d__law_take 2 [] [.ps 0, .ps 1] := ⟨by kernel_rfl, by decide +kernel, by decide +kernel, by decide +kernel, fun _ _ _ _ _ _ _ _ _ _ => by show bindArgs _ _ = pure _; kernel_rfl, fun h => absurd rfl h, fun _ h => absurd rfl h, fun h => absurd rfl h⟩
theorem b3 : BindOk d__law_alike 2 [] [.ps 0, .ps 1] := ⟨by kernel_rfl, by decide +kernel, by decide +kernel, by decide +kernel, fun _ _ _ _ _ _ _ _ _ _ => by show bindArgs _ _ = pure _; kernel_rfl, fun h => absurd rfl h, fun _ h => absurd rfl h, fun h => absurd rfl h⟩
theorem b4 : BindOk d_Frames_free 1 [] [.ps 0] := ⟨by kernel_rfl, by decide +kernel, by decide +kernel, by decide +kernel, fun _ _ _ _ _ _ _ _ _ => by show bindArgs _ _ = pure _; kernel_rfl, fun h => absurd rfl h, fun _ h => absurd rfl h, fun h => absurd rfl h⟩
theorem b5 : BindOk d__law_alone 1 [] [.ps 0] := ⟨by kernel_rfl, by decide +kernel, by decide +kernel, by decide +kernel, fun _ _ _ _ _ _ _ _ _ => by show bindArgs _ _ = pure _; kernel_rfl, fun h => absurd rfl h, fun _ h => absurd rfl h, fun h => absurd rfl h⟩
theorem b6 : BindOk d__law_step 2 [] [.ps 0, .ps 1] := ⟨by kernel_rfl, by decide +kernel, by decide +kernel, by decide +kernel, fun _ _ _ _ _ _ _ _ _ _ => by show bindArgs _ _ = pure _; kernel_rfl, fun h => absurd rfl h, fun _ h => absurd rfl h, fun h => absurd rfl h⟩
theorem b7 : BindOk d__law_new 3 [] [.ps 0, .ps 1, .ps 2] := ⟨by kernel_rfl, by decide +kernel, by decide +kernel, by decide +kernel, fun _ _ _ _ _ _ _ _ _ _ _ => by show bindArgs _ _ = pure _; kernel_rfl, fun h => absurd rfl h, fun _ h => absurd rfl h, fun h => absurd rfl h⟩
theorem b8 : BindOk d_Space_close 1 [] [.ps 0] := ⟨by kernel_rfl, by decide +kernel, by decide +kernel, by decide +kernel, fun _ _ _ _ _ _ _ _ _ => by show bindArgs _ _ = pure _; kernel_rfl, fun h => absurd rfl h, fun _ h => absurd rfl h, fun h => absurd rfl h⟩
theorem b9 : BindOk d_Space_fork 1 [] [.ps 0] := ⟨by kernel_rfl, by decide +kernel, by decide +kernel, by decide +kernel, fun _ _ _ _ _ _ _ _ _ => by show bindArgs _ _ = pure _; kernel_rfl, fun h => absurd rfl h, fun _ h => absurd rfl h, fun h => absurd rfl h⟩
theorem b10 : BindOk d__law_space_calls 3 [] [.ps 0, .ps 1, .ps 2] := ⟨by kernel_rfl, by decide +kernel, by decide +kernel, by decide +kernel, fun _ _ _ _ _ _ _ _ _ _ _ => by show bindArgs _ _ = pure _; kernel_rfl, fun h => absurd rfl h, fun _ h => absurd rfl h, fun h => absurd rfl h⟩
theorem b11 : BindOk d_Frames___init__ 2 [] [.ps 0, .ps 1] := ⟨by kernel_rfl, by decide +kernel, by decide +kernel, by decide +kernel, fun _ _ _ _ _ _ _ _ _ _ => by show bindArgs _ _ = pure _; kernel_rfl, fun h => absurd rfl h, fun _ h => absurd rfl h, fun h => absurd rfl h⟩
theorem b12 : BindOk d__law_size 2 [] [.ps 0, .ps 1] := ⟨by kernel_rfl, by decide +kernel, by decide +kernel, by decide +kernel, fun _ _ _ _ _ _ _ _ _ _ => by show bindArgs _ _ = pure _; kernel_rfl, fun h => absurd rfl h, fun _ h => absurd rfl h, fun h => absurd rfl h⟩
theorem b13 : BindOk d__law_store 2 [] [.ps 0, .ps 1] := ⟨by kernel_rfl, by decide +kernel, by decide +kernel, by decide +kernel, fun _ _ _ _ _ _ _ _ _ _ => by show bindArgs _ _ = pure _; kernel_rfl, fun h => absurd rfl h, fun _ h => absurd rfl h, fun h => absurd rfl h⟩
theorem b14 : BindOk d__law_word 1 [] [.ps 0] := ⟨by kernel_rfl, by decide +kernel, by decide +kernel, by decide +kernel, fun _ _ _ _ _ _ _ _ _ => by show bindArgs _ _ = pure _; kernel_rfl, fun h => absurd rfl h, fun _ h => absurd rfl h, fun h => absurd rfl h⟩
theorem b15 : BindOk d__law_mixed 3 [] [.ps 0, .ps 1, .ps 2] := ⟨by kernel_rfl, by decide +kernel, by decide +kernel, by decide +kernel, fun _ _ _ _ _ _ _ _ _ _ _ => by show bindArgs _ _ = pure _; kernel_rfl, fun h => absurd rfl h, fun _ h => absurd rfl h, fun h => absurd rfl h⟩
theorem b16 : BindOk d_Space_pages 1 [] [.ps 0] := ⟨by kernel_rfl, by decide +kernel, by decide +kernel, by decide +kernel, fun _ _ _ _ _ _ _ _ _ => by show bindArgs _ _ = pure _; kernel_rfl, fun h => absurd rfl h, fun _ h => absurd rfl h, fun h => absurd rfl h⟩
theorem b17 : BindOk d_Space_contents 1 [] [.ps 0] := ⟨by kernel_rfl, by decide +kernel, by decide +kernel, by decide +kernel, fun _ _ _ _ _ _ _ _ _ => by show bindArgs _ _ = pure _; kernel_rfl, fun h => absurd rfl h, fun _ h => absurd rfl h, fun h => absurd rfl h⟩
theorem b18 : BindOk d_Space_write 3 [] [.ps 0, .ps 1, .ps 2] := ⟨by kernel_rfl, by decide +kernel, by decide +kernel, by decide +kernel, fun _ _ _ _ _ _ _ _ _ _ _ => by show bindArgs _ _ = pure _; kernel_rfl, fun h => absurd rfl h, fun _ h => absurd rfl h, fun h => absurd rfl h⟩
theorem b19 : BindOk d_Space_read 2 [] [.ps 0, .ps 1] := ⟨by kernel_rfl, by decide +kernel, by decide +kernel, by decide +kernel, fun _ _ _ _ _ _ _ _ _ _ => by show bindArgs _ _ = pure _; kernel_rfl, fun h => absurd rfl h, fun _ h => absurd rfl h, fun h => absurd rfl h⟩
theorem b20 : BindOk d_Space___init__ 2 ["pages"] [.ps 0, .ps 1, .kw 0] := ⟨by kernel_rfl, by decide +kernel, by decide +kernel, by decide +kernel, fun _ h => absurd h (by simp [d_Space___init__]), fun h => absurd rfl h, fun _ _ _ _ _ _ _ _ _ _ _ _ => rfl, fun h => absurd rfl h⟩
theorem b21 : BindOk d_Space___init__ 2 [] [.ps 0, .ps 1, .kd 0] := ⟨by kernel_rfl, by decide +kernel, by decide +kernel, by decide +kernel, fun _ h => absurd h (by simp [d_Space___init__]), fun h => absurd rfl h, fun _ _ _ _ _ _ _ _ _ _ _ => ⟨_, _, _, _, _, _, rfl, rfl, rfl⟩, fun h => absurd rfl h⟩
theorem b22 : BindOk d_Space___init__ 1 ["pages", "frames"] [.ps 0, .kw 1, .kw 0] := ⟨by kernel_rfl, by decide +kernel, by decide +kernel, by decide +kernel, fun _ h => absurd h (by simp [d_Space___init__]), fun h => absurd rfl h, fun _ _ _ _ _ _ _ _ _ _ _ _ => rfl, fun h => absurd rfl h⟩
theorem b23 : BindOk d_Frames_drop 2 [] [.ps 0, .ps 1] := ⟨by kernel_rfl, by decide +kernel, by decide +kernel, by decide +kernel, fun _ _ _ _ _ _ _ _ _ _ => by show bindArgs _ _ = pure _; kernel_rfl, fun h => absurd rfl h, fun _ h => absurd rfl h, fun h => absurd rfl h⟩
theorem b24 : BindOk d_Space_own_check_open 1 [] [.ps 0] := ⟨by kernel_rfl, by decide +kernel, by decide +kernel, by decide +kernel, fun _ _ _ _ _ _ _ _ _ => by show bindArgs _ _ = pure _; kernel_rfl, fun h => absurd rfl h, fun _ h => absurd rfl h, fun h => absurd rfl h⟩
theorem b25 : BindOk d_Frames_share 2 [] [.ps 0, .ps 1] := ⟨by kernel_rfl, by decide +kernel, by decide +kernel, by decide +kernel, fun _ _ _ _ _ _ _ _ _ _ => by show bindArgs _ _ = pure _; kernel_rfl, fun h => absurd rfl h, fun _ h => absurd rfl h, fun h => absurd rfl h⟩
theorem b26 : BindOk d__law_between 3 [] [.ps 0, .ps 1, .ps 2] := ⟨by kernel_rfl, by decide +kernel, by decide +kernel, by decide +kernel, fun _ _ _ _ _ _ _ _ _ _ _ => by show bindArgs _ _ = pure _; kernel_rfl, fun h => absurd rfl h, fun _ h => absurd rfl h, fun h => absurd rfl h⟩
theorem b27 : BindOk d_check_whole 4 [] [.ps 0, .ps 1, .ps 2, .ps 3] := ⟨by kernel_rfl, by decide +kernel, by decide +kernel, by decide +kernel, fun _ _ _ _ _ _ _ _ _ _ _ _ => by show bindArgs _ _ = pure _; kernel_rfl, fun h => absurd rfl h, fun _ h => absurd rfl h, fun h => absurd rfl h⟩
theorem b28 : BindOk d__law_pick 2 [] [.ps 0, .ps 1] := ⟨by kernel_rfl, by decide +kernel, by decide +kernel, by decide +kernel, fun _ _ _ _ _ _ _ _ _ _ => by show bindArgs _ _ = pure _; kernel_rfl, fun h => absurd rfl h, fun _ h => absurd rfl h, fun h => absurd rfl h⟩
theorem b29 : BindOk d_Frames_page 2 [] [.ps 0, .ps 1] := ⟨by kernel_rfl, by decide +kernel, by decide +kernel, by decide +kernel, fun _ _ _ _ _ _ _ _ _ _ => by show bindArgs _ _ = pure _; kernel_rfl, fun h => absurd rfl h, fun _ h => absurd rfl h, fun h => absurd rfl h⟩
theorem b30 : BindOk d_Frames_poke 4 [] [.ps 0, .ps 1, .ps 2, .ps 3] := ⟨by kernel_rfl, by decide +kernel, by decide +kernel, by decide +kernel, fun _ _ _ _ _ _ _ _ _ _ _ _ => by show bindArgs _ _ = pure _; kernel_rfl, fun h => absurd rfl h, fun _ h => absurd rfl h, fun h => absurd rfl h⟩
theorem b31 : BindOk d_Frames_take 2 [] [.ps 0, .ps 1] := ⟨by kernel_rfl, by decide +kernel, by decide +kernel, by decide +kernel, fun h => absurd h (by simp [d_Frames_take]), fun _ _ _ _ _ _ _ _ _ _ _ _ => ⟨_, rfl, rfl⟩, fun h => absurd h (by simp [d_Frames_take]), fun _ h => absurd rfl h⟩
theorem b32 : BindOk d_Frames_holds 2 [] [.ps 0, .ps 1] := ⟨by kernel_rfl, by decide +kernel, by decide +kernel, by decide +kernel, fun _ _ _ _ _ _ _ _ _ _ => by show bindArgs _ _ = pure _; kernel_rfl, fun h => absurd rfl h, fun _ h => absurd rfl h, fun h => absurd rfl h⟩
theorem b33 : BindOk d_Frames_take 1 [] [.ps 0, .df 0] := ⟨by kernel_rfl, by decide +kernel, by decide +kernel, by decide +kernel, fun h => absurd h (by simp [d_Frames_take]), fun _ _ _ _ _ _ _ _ _ _ _ => ⟨_, rfl, rfl⟩, fun h => absurd h (by simp [d_Frames_take]), fun _ h => absurd rfl h⟩
theorem b34 : BindOk d_Space_own_check_address 2 [] [.ps 0, .ps 1] := ⟨by kernel_rfl, by decide +kernel, by decide +kernel, by decide +kernel, fun _ _ _ _ _ _ _ _ _ _ => by show bindArgs _ _ = pure _; kernel_rfl, fun h => absurd rfl h, fun _ h => absurd rfl h, fun h => absurd rfl h⟩
theorem b35 : BindOk d_Space_own_word_at 2 [] [.ps 0, .ps 1] := ⟨by kernel_rfl, by decide +kernel, by decide +kernel, by decide +kernel, fun _ _ _ _ _ _ _ _ _ _ => by show bindArgs _ _ = pure _; kernel_rfl, fun h => absurd rfl h, fun _ h => absurd rfl h, fun h => absurd rfl h⟩
theorem b36 : BindOk d_Frames_own_check_used 2 [] [.ps 0, .ps 1] := ⟨by kernel_rfl, by decide +kernel, by decide +kernel, by decide +kernel, fun _ _ _ _ _ _ _ _ _ _ => by show bindArgs _ _ = pure _; kernel_rfl, fun h => absurd rfl h, fun _ h => absurd rfl h, fun h => absurd rfl h⟩
theorem b37 : BindOk d_Frames_own_check_frame 2 [] [.ps 0, .ps 1] := ⟨by kernel_rfl, by decide +kernel, by decide +kernel, by decide +kernel, fun _ _ _ _ _ _ _ _ _ _ => by show bindArgs _ _ = pure _; kernel_rfl, fun h => absurd rfl h, fun _ h => absurd rfl h, fun h => absurd rfl h⟩
theorem b38 : BindOk d_whole 3 [] [.ps 0, .ps 1, .ps 2] := ⟨by kernel_rfl, by decide +kernel, by decide +kernel, by decide +kernel, fun _ _ _ _ _ _ _ _ _ _ _ => by show bindArgs _ _ = pure _; kernel_rfl, fun h => absurd rfl h, fun _ h => absurd rfl h, fun h => absurd rfl h⟩
theorem b39 : BindOk d_check_words 4 [] [.ps 0, .ps 1, .ps 2, .ps 3] := ⟨by kernel_rfl, by decide +kernel, by decide +kernel, by decide +kernel, fun _ _ _ _ _ _ _ _ _ _ _ _ => by show bindArgs _ _ = pure _; kernel_rfl, fun h => absurd rfl h, fun _ h => absurd rfl h, fun h => absurd rfl h⟩
theorem b40 : BindOk d_Space_own_has_address 2 [] [.ps 0, .ps 1] := ⟨by kernel_rfl, by decide +kernel, by decide +kernel, by decide +kernel, fun _ _ _ _ _ _ _ _ _ _ => by show bindArgs _ _ = pure _; kernel_rfl, fun h => absurd rfl h, fun _ h => absurd rfl h, fun h => absurd rfl h⟩
theorem b41 : BindOk d_Frames_peek 3 [] [.ps 0, .ps 1, .ps 2] := ⟨by kernel_rfl, by decide +kernel, by decide +kernel, by decide +kernel, fun _ _ _ _ _ _ _ _ _ _ _ => by show bindArgs _ _ = pure _; kernel_rfl, fun h => absurd rfl h, fun _ h => absurd rfl h, fun h => absurd rfl h⟩
theorem b42 : BindOk d_all_words 1 [] [.ps 0] := ⟨by kernel_rfl, by decide +kernel, by decide +kernel, by decide +kernel, fun _ _ _ _ _ _ _ _ _ => by show bindArgs _ _ = pure _; kernel_rfl, fun h => absurd rfl h, fun _ h => absurd rfl h, fun h => absurd rfl h⟩
theorem txtOk : TxtOk T where
  nd := by decide +kernel
  sc := by decide +kernel
  sh := by
    intro s hs
    simp only [T, shapes_, shapes0, shapes1, List.mem_append, List.mem_cons, List.not_mem_nil, or_false] at hs
    rcases hs with (rfl | rfl | rfl | rfl | rfl | rfl | rfl | rfl | rfl | rfl | rfl | rfl | rfl | rfl | rfl | rfl | rfl | rfl | rfl | rfl | rfl | rfl | rfl | rfl | rfl) | (rfl | rfl | rfl | rfl | rfl | rfl | rfl | rfl | rfl | rfl | rfl | rfl | rfl | rfl | rfl | rfl | rfl | rfl)
    · exact ⟨d_law, by simp [T], rfl, _, b0⟩
    · exact ⟨d__law_many_forks, by simp [T], rfl, _, b1⟩
    · exact ⟨d__law_take, by simp [T], rfl, _, b2⟩
    · exact ⟨d__law_alike, by simp [T], rfl, _, b3⟩
    · exact ⟨d_Frames_free, by simp [T], rfl, _, b4⟩
    · exact ⟨d__law_alone, by simp [T], rfl, _, b5⟩
    · exact ⟨d__law_step, by simp [T], rfl, _, b6⟩
    · exact ⟨d__law_new, by simp [T], rfl, _, b7⟩
    · exact ⟨d_Space_close, by simp [T], rfl, _, b8⟩
    · exact ⟨d_Space_fork, by simp [T], rfl, _, b9⟩
    · exact ⟨d__law_space_calls, by simp [T], rfl, _, b10⟩
    · exact ⟨d_Frames___init__, by simp [T], rfl, _, b11⟩
    · exact ⟨d__law_size, by simp [T], rfl, _, b12⟩
    · exact ⟨d__law_store, by simp [T], rfl, _, b13⟩
    · exact ⟨d__law_word, by simp [T], rfl, _, b14⟩
    · exact ⟨d__law_mixed, by simp [T], rfl, _, b15⟩
    · exact ⟨d_Space_pages, by simp [T], rfl, _, b16⟩
    · exact ⟨d_Space_contents, by simp [T], rfl, _, b17⟩
    · exact ⟨d_Space_write, by simp [T], rfl, _, b18⟩
    · exact ⟨d_Space_read, by simp [T], rfl, _, b19⟩
    · exact ⟨d_Space___init__, by simp [T], rfl, _, b20⟩
    · exact ⟨d_Space___init__, by simp [T], rfl, _, b21⟩
    · exact ⟨d_Space___init__, by simp [T], rfl, _, b22⟩
    · exact ⟨d_Frames_drop, by simp [T], rfl, _, b23⟩
    · exact ⟨d_Space_own_check_open, by simp [T], rfl, _, b24⟩
    · exact ⟨d_Frames_share, by simp [T], rfl, _, b25⟩
    · exact ⟨d__law_between, by simp [T], rfl, _, b26⟩
    · exact ⟨d_check_whole, by simp [T], rfl, _, b27⟩
    · exact ⟨d__law_pick, by simp [T], rfl, _, b28⟩
    · exact ⟨d_Frames_page, by simp [T], rfl, _, b29⟩
    · exact ⟨d_Frames_poke, by simp [T], rfl, _, b30⟩
    · exact ⟨d_Frames_take, by simp [T], rfl, _, b31⟩
    · exact ⟨d_Frames_holds, by simp [T], rfl, _, b32⟩
    · exact ⟨d_Frames_take, by simp [T], rfl, _, b33⟩
    · exact ⟨d_Space_own_check_address, by simp [T], rfl, _, b34⟩
    · exact ⟨d_Space_own_word_at, by simp [T], rfl, _, b35⟩
    · exact ⟨d_Frames_own_check_used, by simp [T], rfl, _, b36⟩
    · exact ⟨d_Frames_own_check_frame, by simp [T], rfl, _, b37⟩
    · exact ⟨d_whole, by simp [T], rfl, _, b38⟩
    · exact ⟨d_check_words, by simp [T], rfl, _, b39⟩
    · exact ⟨d_Space_own_has_address, by simp [T], rfl, _, b40⟩
    · exact ⟨d_Frames_peek, by simp [T], rfl, _, b41⟩
    · exact ⟨d_all_words, by simp [T], rfl, _, b42⟩
  tops := by decide +kernel
  cl := by decide +kernel
  pr := by decide +kernel
  nob := by decide +kernel
end K04
set_option Elab.async false
set_option linter.all false
set_option maxRecDepth 100000
set_option maxHeartbeats 2000000
namespace K04
open Mp PySem
abbrev Γ : Pg := T.pg
def s_law (c : CallT) : MS := (sSeq (sSet 1 (eCall (c "_law_store") (aCons (eVar 0) (aCons (eC (.int (104))) aNil)))) (sSeq (sSet 2 (eLst (aCons (eBin .Add (eC (.int (1))) (eCall (c "_law_size") (aCons (eVar 1) (aCons (eC (.int (15))) aNil)))) (aCons (eBin .Add (eC (.int (1))) (eCall (c "_law_size") (aCons (eVar 1) (aCons (eC (.int (15))) aNil)))) aNil)))) (sSeq (sSet 3 (eIdx (eVar 2) (eC (.int (0))))) (sSeq (sIf (tE (eCmp .Gt (eIdx (eVar 2) (eC (.int (1)))) (eVar 3))) (sSet 3 (eIdx (eVar 2) (eC (.int (1))))) sSkip) (sSeq (sSet 4 (eMake (c "Frames.__init__") "Frames" [.ps 0, .ps 1] (aCons (eBin .Add (eBin .Mult (eC (.int (4))) (eVar 3)) (eCall (c "_law_take") (aCons (eVar 1) (aCons (eBin .Sub (eC (.int (97))) (eBin .Mult (eC (.int (4))) (eVar 3))) aNil)))) aNil) aNil)) (sSeq (sSet 5 (eMake (c "Frames.__init__") "Frames" [.ps 0, .ps 1] (aCons (eBin .Mult (eC (.int (4))) (eVar 3)) aNil) aNil)) (sSeq (sSet 6 (eLst (aCons (eCall (c "_law_new") (aCons (eVar 1) (aCons (eVar 4) (aCons (eIdx (eVar 2) (eC (.int (0)))) aNil)))) (aCons (eCall (c "_law_new") (aCons (eVar 1) (aCons (eVar 4) (aCons (eIdx (eVar 2) (eC (.int (1)))) aNil)))) (aCons (eCall (c "_law_new") (aCons (eVar 1) (aCons (eVar 5) (aCons (eIdx (eVar 2) (eC (.int (0)))) aNil)))) aNil))))) (sSeq (sFor (.nm 7) (iVal (eCall (c "_law_space_calls") (aCons (eVar 1) (aCons (eVar 3) (aCons (eC (.int (28))) aNil))))) (sSeq (sSet 8 (eBin .Mod (eBi .int (aCons (eIdx (eVar 7) (eC (.int (1)))) aNil)) (eBi .len (aCons (eVar 6) aNil)))) (sSeq (sSet 9 (eIdx (eVar 6) (eVar 8))) (sSeq (sSet 10 (eLst (aCons (eAttr Γ c "free" (eVar 4)) (aCons (eAttr Γ c "free" (eVar 5)) aNil)))) (sSeq (sIf (tE (eCmp .Eq (eIdx (eVar 7) (eC (.int (0)))) (eC (.str "fork")))) (sIf (tE (eCmp .Lt (eBi .len (aCons (eVar 6) aNil)) (eC (.int (4))))) (sExpr (eMeth Γ c "append" 1 [] (eVar 6) (aCons (eLst (aCons (eMeth Γ c "fork" 0 [] (eIdx (eVar 9) (eC (.int (0)))) aNil aNil) (aCons (eBi .list (aCons (eIdx (eVar 9) (eC (.int (1)))) aNil)) aNil))) aNil) aNil)) sSkip) (sIf (tE (eCmp .Eq (eIdx (eVar 7) (eC (.int (0)))) (eC (.str "close")))) (sSeq (sIf (tE (eCmp .IsNot (eMeth Γ c "close" 0 [] (eIdx (eVar 9) (eC (.int (0)))) aNil aNil) (eC (.non)))) (sRet (eC (.bl false))) sSkip) (sSeq (sExpr (eMeth Γ c "pop" 1 [] (eVar 6) (aCons (eVar 8) aNil) aNil)) (sIf (tE (eCmp .Eq (eBi .len (aCons (eVar 6) aNil)) (eC (.int (0))))) (sExpr (eMeth Γ c "append" 1 [] (eVar 6) (aCons (eCall (c "_law_new") (aCons (eVar 1) (aCons (eVar 4) (aCons (eIdx (eVar 2) (eC (.int (1)))) aNil)))) aNil) aNil)) sSkip))) (sIf (tNot (tE (eCall (c "_law_step") (aCons (eVar 9) (aCons (eVar 7) aNil))))) (sRet (eC (.bl false))) sSkip))) (sSeq (sIf (tAnd (tE (eCmp .In (eIdx (eVar 7) (eC (.int (0)))) (eTup (aCons (eC (.str "read")) (aCons (eC (.str "fork")) aNil))))) (tNot (tE (eCall (c "_law_alike") (aCons (eVar 10) (aCons (eLst (aCons (eAttr Γ c "free" (eVar 4)) (aCons (eAttr Γ c "free" (eVar 5)) aNil))) aNil)))))) (sRet (eC (.bl false))) sSkip) (sIf (tNot (tE (eCall (c "_law_alone") (aCons (eVar 6) aNil)))) (sRet (eC (.bl false))) sSkip)))))) sSkip) (sSeq (sSet 10 (eLst (aCons (eAttr Γ c "free" (eVar 4)) (aCons (eAttr Γ c "free" (eVar 5)) aNil)))) (sSeq (sIf (tOr (tNot (tE (eCall (c "_law_alone") (aCons (eVar 6) aNil)))) (tNot (tE (eCall (c "_law_alike") (aCons (eVar 10) (aCons (eLst (aCons (eAttr Γ c "free" (eVar 4)) (aCons (eAttr Γ c "free" (eVar 5)) aNil))) aNil)))))) (sRet (eC (.bl false))) sSkip) (sRet (eOr (eCmp .Gt (eCall (c "_law_take") (aCons (eVar 1) (aCons (eC (.int (8))) aNil))) (eC (.int (0)))) (eCall (c "_law_many_forks") (aCons (eVar 1) (aCons (eIdx (eVar 2) (eC (.int (0)))) aNil)))))))))))))))
theorem c_law (d : Nat) (a0 : Val) (h : Mem) : callF Γ (d + 1) "law" [a0] h = fin (s_law (callF Γ d) [some a0, none, none, none, none, none, none, none, none, none, none] h) := by kernel_rfl
def s__law_many_forks (c : CallT) : MS := (sSeq (sSet 2 (eMake (c "Frames.__init__") "Frames" [.ps 0, .ps 1] (aCons (eBin .Mult (eC (.int (2))) (eVar 1)) aNil) aNil)) (sSeq (sSet 3 (eLst (aCons (eCall (c "_law_new") (aCons (eVar 0) (aCons (eVar 2) (aCons (eVar 1) aNil)))) aNil))) (sSeq (sFor (.nm 4) (iRng1 (eBin .Add (eC (.int (1))) (eCall (c "_law_take") (aCons (eVar 0) (aCons (eC (.int (4))) aNil))))) (sIf (tNot (tE (eCall (c "_law_step") (aCons (eIdx (eVar 3) (eC (.int (0)))) (aCons (eTup (aCons (eC (.str "write")) (aCons (eC (.int (0))) (aCons (eCall (c "_law_take") (aCons (eVar 0) (aCons (eBin .Mult (eC (.int (8))) (eVar 1)) aNil))) (aCons (eCall (c "_law_word") (aCons (eVar 0) aNil)) aNil))))) aNil))))) (sRet (eC (.bl false))) sSkip) sSkip) (sSeq (sFor (.nm 4) (iRng1 (eCall (c "_law_take") (aCons (eVar 0) (aCons (eC (.int (101))) aNil)))) (sExpr (eMeth Γ c "append" 1 [] (eVar 3) (aCons (eLst (aCons (eMeth Γ c "fork" 0 [] (eIdx (eIdx (eVar 3) (eC (.int (0)))) (eC (.int (0)))) aNil aNil) (aCons (eBi .list (aCons (eIdx (eIdx (eVar 3) (eC (.int (0)))) (eC (.int (1)))) aNil)) aNil))) aNil) aNil)) sSkip) (sSeq (sSet 5 (eIdx (eVar 3) (eCall (c "_law_take") (aCons (eVar 0) (aCons (eBi .len (aCons (eVar 3) aNil)) aNil))))) (sSeq (sIf (tNot (tE (eCall (c "_law_step") (aCons (eVar 5) (aCons (eTup (aCons (eC (.str "write")) (aCons (eC (.int (0))) (aCons (eCall (c "_law_take") (aCons (eVar 0) (aCons (eBin .Mult (eC (.int (8))) (eVar 1)) aNil))) (aCons (eCall (c "_law_word") (aCons (eVar 0) aNil)) aNil))))) aNil))))) (sRet (eC (.bl false))) sSkip) (sSeq (sIf (tNot (tE (eCall (c "_law_alone") (aCons (eBin .Add (eLc [4] (.nm 4) (iRng1 (eC (.int (4)))) tYesM (eIdx (eVar 3) (eCall (c "_law_take") (aCons (eVar 0) (aCons (eBi .len (aCons (eVar 3) aNil)) aNil))))) (eLst (aCons (eVar 5) aNil))) aNil)))) (sRet (eC (.bl false))) sSkip) (sSeq (sSet 6 (eMeth Γ c "pop" 1 [] (eVar 3) (aCons (eCall (c "_law_take") (aCons (eVar 0) (aCons (eBi .len (aCons (eVar 3) aNil)) aNil))) aNil) aNil)) (sSeq (sFor (.nm 7) (iVal (eVar 3)) (sIf (tE (eCmp .IsNot (eMeth Γ c "close" 0 [] (eIdx (eVar 7) (eC (.int (0)))) aNil aNil) (eC (.non)))) (sRet (eC (.bl false))) sSkip) sSkip) (sRet (eAnd (eCall (c "_law_alone") (aCons (eLst (aCons (eVar 6) aNil)) aNil)) (eAnd (eCmp .Is (eMeth Γ c "close" 0 [] (eIdx (eVar 6) (eC (.int (0)))) aNil aNil) (eC (.non))) (eCall (c "_law_alike") (aCons (eListR1 (eBin .Mult (eC (.int (2))) (eVar 1))) (aCons (eAttr Γ c "free" (eVar 2)) aNil)))))))))))))))
theorem c__law_many_forks (d : Nat) (a0 a1 : Val) (h : Mem) : callF Γ (d + 1) "_law_many_forks" [a0, a1] h = fin (s__law_many_forks (callF Γ d) [some a0, some a1, none, none, none, none, none, none] h) := by kernel_rfl
abbrev s__law_take : CallT → MS := L_take
theorem c__law_take (d : Nat) (a0 a1 : Val) (h : Mem) : callF Γ (d + 1) "_law_take" [a0, a1] h = fin (s__law_take (callF Γ d) [some a0, some a1, none, none] h) := by kernel_rfl
abbrev s__law_alike : CallT → MS := L_alike
theorem c__law_alike (d : Nat) (a0 a1 : Val) (h : Mem) : callF Γ (d + 1) "_law_alike" [a0, a1] h = fin (s__law_alike (callF Γ d) [some a0, some a1, none] h) := by kernel_rfl
def s_Frames_free (c : CallT) : MS := (sRet (eLc [1, 2] (.tp [(.nm 1), (.nm 2)]) (iEnum (eAttr Γ c "own_counts" (eVar 0))) (tE (eCmp .Eq (eVar 2) (eC (.int (0))))) (eVar 1)))
theorem c_Frames_free (d : Nat) (a0 : Val) (h : Mem) : callF Γ (d + 1) "Frames.free" [a0] h = fin (s_Frames_free (callF Γ d) [some a0, none, none] h) := by kernel_rfl
def s__law_alone (c : CallT) : MS := (sSeq (sFor (.nm 1) (iVal (eVar 0)) (sSeq (sSet 2 (eMeth Γ c "contents" 0 [] (eIdx (eVar 1) (eC (.int (0)))) aNil aNil)) (sSeq (sIf (tOr (tNot (tE (eCall (c "_law_alike") (aCons (eIdx (eVar 1) (eC (.int (1)))) (aCons (eVar 2) aNil))))) (tNot (tE (eCall (c "_law_alike") (aCons (eBin .FloorDiv (eBi .len (aCons (eIdx (eVar 1) (eC (.int (1)))) aNil)) (eC (.int (8)))) (aCons (eAttr Γ c "pages" (eIdx (eVar 1) (eC (.int (0))))) aNil)))))) (sRet (eC (.bl false))) sSkip) (sSeq (sSetIdx (eVar 2) (eC (.int (0))) (eBin .Sub (eC (.int (65535))) (eIdx (eVar 2) (eC (.int (0)))))) (sExpr (eMeth Γ c "append" 1 [] (eVar 2) (aCons (eC (.int (0))) aNil) aNil))))) sSkip) (sRet (eC (.bl true))))
theorem c__law_alone (d : Nat) (a0 : Val) (h : Mem) : callF Γ (d + 1) "_law_alone" [a0] h = fin (s__law_alone (callF Γ d) [some a0, none, none] h) := by kernel_rfl
def s__law_step (c : CallT) : MS := (sSeq (sSet 2 (eBin .Mod (eBi .int (aCons (eIdx (eVar 1) (eC (.int (2)))) aNil)) (eBi .len (aCons (eIdx (eVar 0) (eC (.int (1)))) aNil)))) (sSeq (sIf (tE (eCmp .Eq (eIdx (eVar 1) (eC (.int (0)))) (eC (.str "read")))) (sRet (eCall (c "_law_alike") (aCons (eIdx (eIdx (eVar 0) (eC (.int (1)))) (eVar 2)) (aCons (eMeth Γ c "read" 1 [] (eIdx (eVar 0) (eC (.int (0)))) (aCons (eVar 2) aNil) aNil) aNil)))) sSkip) (sSeq (sSet 3 (eMeth Γ c "write" 2 [] (eIdx (eVar 0) (eC (.int (0)))) (aCons (eVar 2) (aCons (eIdx (eVar 1) (eC (.int (3)))) aNil)) aNil)) (sSeq (sSet 4 (eIdx (eVar 0) (eC (.int (1))))) (sSeq (sSetIdx (eVar 4) (eVar 2) (eIdx (eVar 1) (eC (.int (3))))) (sRet (eCmp .Is (eVar 3) (eC (.non)))))))))
theorem c__law_step (d : Nat) (a0 a1 : Val) (h : Mem) : callF Γ (d + 1) "_law_step" [a0, a1] h = fin (s__law_step (callF Γ d) [some a0, some a1, none, none, none] h) := by kernel_rfl
def s__law_new (c : CallT) : MS := (sSeq (sIf (tE (eCmp .Eq (eCall (c "_law_take") (aCons (eVar 0) (aCons (eC (.int (3))) aNil))) (eC (.int (0))))) (sRet (eLst (aCons (eMake (c "Space.__init__") "Space" [.ps 0, .kw 1, .kw 0] aNil (aCons (eVar 2) (aCons (eVar 1) aNil))) (aCons (eBin .Mult (eLst (aCons (eC (.int (0))) aNil)) (eBin .Mult (eC (.int (8))) (eVar 2))) aNil)))) sSkip) (sSeq (sIf (tE (eCmp .Eq (eVar 2) (eC (.int (4))))) (sRet (eLst (aCons (eMake (c "Space.__init__") "Space" [.ps 0, .ps 1, .df (.int (4))] (aCons (eVar 1) aNil) aNil) (aCons (eBin .Mult (eLst (aCons (eC (.int (0))) aNil)) (eC (.int (32)))) aNil)))) sSkip) (sRet (eLst (aCons (eMake (c "Space.__init__") "Space" [.ps 0, .ps 1, .kw 0] (aCons (eVar 1) aNil) (aCons (eVar 2) aNil)) (aCons (eBin .Mult (eLst (aCons (eC (.int (0))) aNil)) (eBin .Mult (eC (.int (8))) (eVar 2))) aNil))))))
theorem c__law_new (d : Nat) (a0 a1 a2 : Val) (h : Mem) : callF Γ (d + 1) "_law_new" [a0, a1, a2] h = fin (s__law_new (callF Γ d) [some a0, some a1, some a2] h) := by kernel_rfl
def s_Space_close (c : CallT) : MS := (sSeq (sExpr (eMeth Γ c "own_check_open" 0 [] (eVar 0) aNil aNil)) (sSeq (sFor (.nm 1) (iVal (eAttr Γ c "own_places" (eVar 0))) (sIf (tE (eCmp .IsNot (eVar 1) (eC (.non)))) (sExpr (eMeth Γ c "drop" 1 [] (eAttr Γ c "own_frames" (eVar 0)) (aCons (eVar 1) aNil) aNil)) sSkip) sSkip) (sSeq (sSetAttr Γ "own_places" (eVar 0) (eBin .Mult (eLst (aCons (eC (.non)) aNil)) (eBi .len (aCons (eAttr Γ c "own_places" (eVar 0)) aNil)))) (sSetAttr Γ "own_closed" (eVar 0) (eC (.bl true))))))
theorem c_Space_close (d : Nat) (a0 : Val) (h : Mem) : callF Γ (d + 1) "Space.close" [a0] h = fin (s_Space_close (callF Γ d) [some a0, none] h) := by kernel_rfl
def s_Space_fork (c : CallT) : MS := (sSeq (sExpr (eMeth Γ c "own_check_open" 0 [] (eVar 0) aNil aNil)) (sSeq (sSet 1 (eMake (c "Space.__init__") "Space" [.ps 0, .ps 1, .kw 0] (aCons (eAttr Γ c "own_frames" (eVar 0)) aNil) (aCons (eBi .len (aCons (eAttr Γ c "own_places" (eVar 0)) aNil)) aNil))) (sSeq (sFor (.tp [(.nm 2), (.nm 3)]) (iEnum (eAttr Γ c "own_places" (eVar 0))) (sIf (tE (eCmp .IsNot (eVar 3) (eC (.non)))) (sSeq (sExpr (eMeth Γ c "share" 1 [] (eAttr Γ c "own_frames" (eVar 0)) (aCons (eVar 3) aNil) aNil)) (sSetIdx (eAttr Γ c "own_places" (eVar 1)) (eVar 2) (eVar 3))) sSkip) sSkip) (sRet (eVar 1)))))
theorem c_Space_fork (d : Nat) (a0 : Val) (h : Mem) : callF Γ (d + 1) "Space.fork" [a0] h = fin (s_Space_fork (callF Γ d) [some a0, none, none, none] h) := by kernel_rfl
def s__law_space_calls (c : CallT) : MS := (sSeq (sSet 3 (eLst aNil)) (sSeq (sFor (.nm 4) (iRng1 (eVar 2)) (sSeq (sSet 5 (eCall (c "_law_take") (aCons (eVar 0) (aCons (eC (.int (12))) aNil)))) (sSeq (sSet 6 (eCall (c "_law_take") (aCons (eVar 0) (aCons (eC (.int (4))) aNil)))) (sSeq (sIf (tE (eCmp .Eq (eCall (c "_law_take") (aCons (eVar 0) (aCons (eC (.int (2))) aNil))) (eC (.int (0))))) (sSet 7 (eCall (c "_law_between") (aCons (eVar 0) (aCons (eC (.int (0))) (aCons (eBin .Sub (eBin .Mult (eC (.int (8))) (eVar 1)) (eC (.int (1)))) aNil))))) (sSet 7 (eCall (c "_law_take") (aCons (eVar 0) (aCons (eBi .min (aCons (eBin .Mult (eC (.int (8))) (eVar 1)) (aCons (eC (.int (16))) aNil))) aNil))))) (sIf (tE (eCmp .Lt (eVar 5) (eC (.int (6))))) (sExpr (eMeth Γ c "append" 1 [] (eVar 3) (aCons (eTup (aCons (eC (.str "write")) (aCons (eVar 6) (aCons (eVar 7) (aCons (eCall (c "_law_word") (aCons (eVar 0) aNil)) aNil))))) aNil) aNil)) (sIf (tE (eCmp .Lt (eVar 5) (eC (.int (8))))) (sExpr (eMeth Γ c "append" 1 [] (eVar 3) (aCons (eTup (aCons (eC (.str "read")) (aCons (eVar 6) (aCons (eVar 7) aNil)))) aNil) aNil)) (sIf (tE (eCmp .Lt (eVar 5) (eC (.int (11))))) (sExpr (eMeth Γ c "append" 1 [] (eVar 3) (aCons (eTup (aCons (eC (.str "fork")) (aCons (eVar 6) aNil))) aNil) aNil)) (sExpr (eMeth Γ c "append" 1 [] (eVar 3) (aCons (eTup (aCons (eC (.str "close")) (aCons (eVar 6) aNil))) aNil) aNil)))))))) sSkip) (sRet (eVar 3))))
theorem c__law_space_calls (d : Nat) (a0 a1 a2 : Val) (h : Mem) : callF Γ (d + 1) "_law_space_calls" [a0, a1, a2] h = fin (s__law_space_calls (callF Γ d) [some a0, some a1, some a2, none, none, none, none, none] h) := by kernel_rfl
def s_Frames___init__ (c : CallT) : MS := (sSeq (sExpr (eCall (c "check_whole") (aCons (eC (.str "many")) (aCons (eVar 1) (aCons (eC (.int (1))) (aCons (eC (.int (96))) aNil)))))) (sSeq (sSetAttr Γ "own_counts" (eVar 0) (eBin .Mult (eLst (aCons (eC (.int (0))) aNil)) (eVar 1))) (sSetAttr Γ "own_stored" (eVar 0) (eLc [2] (.nm 2) (iRng1 (eVar 1)) tYesM (eBin .Mult (eLst (aCons (eC (.int (0))) aNil)) (eC (.int (8))))))))
theorem c_Frames___init__ (d : Nat) (a0 a1 : Val) (h : Mem) : callF Γ (d + 1) "Frames.__init__" [a0, a1] h = fin (s_Frames___init__ (callF Γ d) [some a0, some a1, none] h) := by kernel_rfl
abbrev s__law_size : CallT → MS := L_size
theorem c__law_size (d : Nat) (a0 a1 : Val) (h : Mem) : callF Γ (d + 1) "_law_size" [a0, a1] h = fin (s__law_size (callF Γ d) [some a0, some a1, none] h) := by kernel_rfl
abbrev s__law_store : CallT → MS := L_store
theorem c__law_store (d : Nat) (a0 a1 : Val) (h : Mem) : callF Γ (d + 1) "_law_store" [a0, a1] h = fin (s__law_store (callF Γ d) [some a0, some a1, none, none] h) := by kernel_rfl
def s__law_word (c : CallT) : MS := (sSeq (sSet 1 (eCall (c "_law_take") (aCons (eVar 0) (aCons (eC (.int (3))) aNil)))) (sSeq (sIf (tE (eCmp .Eq (eVar 1) (eC (.int (0))))) (sRet (eCall (c "_law_pick") (aCons (eVar 0) (aCons (eLst (aCons (eC (.int (0))) (aCons (eC (.int (65535))) (aCons (eC (.int (1))) (aCons (eC (.int (65534))) (aCons (eC (.int (32768))) (aCons (eC (.int (32767))) (aCons (eC (.int (1023))) (aCons (eC (.int (1024))) (aCons (eC (.int (4095))) (aCons (eC (.int (4096))) (aCons (eC (.int (255))) (aCons (eC (.int (128))) (aCons (eC (.int (127))) (aCons (eC (.int (8))) aNil))))))))))))))) aNil)))) sSkip) (sSeq (sIf (tE (eCmp .Eq (eVar 1) (eC (.int (1))))) (sRet (eCall (c "_law_take") (aCons (eVar 0) (aCons (eC (.int (10))) aNil)))) sSkip) (sRet (eCall (c "_law_take") (aCons (eVar 0) (aCons (eC (.int (65536))) aNil)))))))
theorem c__law_word (d : Nat) (a0 : Val) (h : Mem) : callF Γ (d + 1) "_law_word" [a0] h = fin (s__law_word (callF Γ d) [some a0, none] h) := by kernel_rfl
abbrev s__law_mixed : CallT → MS := L_mixed
theorem c__law_mixed (d : Nat) (a0 a1 a2 : Val) (h : Mem) : callF Γ (d + 1) "_law_mixed" [a0, a1, a2] h = fin (s__law_mixed (callF Γ d) [some a0, some a1, some a2, none, none, none] h) := by kernel_rfl
def s_Space_pages (c : CallT) : MS := (sRet (eBi .len (aCons (eAttr Γ c "own_places" (eVar 0)) aNil)))
theorem c_Space_pages (d : Nat) (a0 : Val) (h : Mem) : callF Γ (d + 1) "Space.pages" [a0] h = fin (s_Space_pages (callF Γ d) [some a0] h) := by kernel_rfl
def s_Space_contents (c : CallT) : MS := (sSeq (sExpr (eMeth Γ c "own_check_open" 0 [] (eVar 0) aNil aNil)) (sSeq (sSet 1 (eLst aNil)) (sSeq (sFor (.nm 2) (iVal (eAttr Γ c "own_places" (eVar 0))) (sAug 1 .Add (eIf (tE (eCmp .Is (eVar 2) (eC (.non)))) (eBin .Mult (eLst (aCons (eC (.int (0))) aNil)) (eC (.int (8)))) (eMeth Γ c "page" 1 [] (eAttr Γ c "own_frames" (eVar 0)) (aCons (eVar 2) aNil) aNil))) sSkip) (sRet (eVar 1)))))
theorem c_Space_contents (d : Nat) (a0 : Val) (h : Mem) : callF Γ (d + 1) "Space.contents" [a0] h = fin (s_Space_contents (callF Γ d) [some a0, none, none] h) := by kernel_rfl
def s_Space_write (c : CallT) : MS := (sSeq (sExpr (eMeth Γ c "own_check_address" 1 [] (eVar 0) (aCons (eVar 1) aNil) aNil)) (sSeq (sExpr (eCall (c "check_whole") (aCons (eC (.str "word")) (aCons (eVar 2) (aCons (eC (.int (0))) (aCons (eC (.int (65535))) aNil)))))) (sSeq (sExpr (eMeth Γ c "own_check_open" 0 [] (eVar 0) aNil aNil)) (sSeq (sAsg (.tp [(.nm 3), (.nm 4)]) (eBi .divmod (aCons (eVar 1) (aCons (eC (.int (8))) aNil)))) (sSeq (sSet 5 (eIdx (eAttr Γ c "own_places" (eVar 0)) (eVar 3))) (sSeq (sIf (tE (eCmp .Is (eVar 5) (eC (.non)))) (sSetIdx (eAttr Γ c "own_places" (eVar 0)) (eVar 3) (eMeth Γ c "take" 0 [] (eAttr Γ c "own_frames" (eVar 0)) aNil aNil)) (sIf (tE (eCmp .Gt (eMeth Γ c "holds" 1 [] (eAttr Γ c "own_frames" (eVar 0)) (aCons (eVar 5) aNil) aNil) (eC (.int (1))))) (sSeq (sSetIdx (eAttr Γ c "own_places" (eVar 0)) (eVar 3) (eMeth Γ c "take" 1 [] (eAttr Γ c "own_frames" (eVar 0)) (aCons (eMeth Γ c "page" 1 [] (eAttr Γ c "own_frames" (eVar 0)) (aCons (eVar 5) aNil) aNil) aNil) aNil)) (sExpr (eMeth Γ c "drop" 1 [] (eAttr Γ c "own_frames" (eVar 0)) (aCons (eVar 5) aNil) aNil))) sSkip)) (sExpr (eMeth Γ c "poke" 3 [] (eAttr Γ c "own_frames" (eVar 0)) (aCons (eIdx (eAttr Γ c "own_places" (eVar 0)) (eVar 3)) (aCons (eVar 4) (aCons (eVar 2) aNil))) aNil))))))))
theorem c_Space_write (d : Nat) (a0 a1 a2 : Val) (h : Mem) : callF Γ (d + 1) "Space.write" [a0, a1, a2] h = fin (s_Space_write (callF Γ d) [some a0, some a1, some a2, none, none, none] h) := by kernel_rfl
def s_Space_read (c : CallT) : MS := (sRet (eMeth Γ c "own_word_at" 1 [] (eVar 0) (aCons (eVar 1) aNil) aNil))
theorem c_Space_read (d : Nat) (a0 a1 : Val) (h : Mem) : callF Γ (d + 1) "Space.read" [a0, a1] h = fin (s_Space_read (callF Γ d) [some a0, some a1] h) := by kernel_rfl
def s_Space___init__ (c : CallT) : MS := (sSeq (sExpr (eCall (c "check_whole") (aCons (eC (.str "pages")) (aCons (eVar 2) (aCons (eC (.int (1))) (aCons (eC (.int (16))) aNil)))))) (sSeq (sSetAttr Γ "own_frames" (eVar 0) (eVar 1)) (sSeq (sSetAttr Γ "own_places" (eVar 0) (eBin .Mult (eLst (aCons (eC (.non)) aNil)) (eVar 2))) (sSetAttr Γ "own_closed" (eVar 0) (eC (.bl false))))))
theorem c_Space___init__ (d : Nat) (a0 a1 a2 : Val) (h : Mem) : callF Γ (d + 1) "Space.__init__" [a0, a1, a2] h = fin (s_Space___init__ (callF Γ d) [some a0, some a1, some a2] h) := by kernel_rfl
def s_Frames_drop (c : CallT) : MS := (sSeq (sExpr (eMeth Γ c "own_check_frame" 1 [] (eVar 0) (aCons (eVar 1) aNil) aNil)) (sSeq (sExpr (eMeth Γ c "own_check_used" 1 [] (eVar 0) (aCons (eVar 1) aNil) aNil)) (sSeq (sAugIdx (eAttr Γ c "own_counts" (eVar 0)) (eVar 1) .Sub (eC (.int (1)))) (sRet (eCmp .Eq (eIdx (eAttr Γ c "own_counts" (eVar 0)) (eVar 1)) (eC (.int (0))))))))
theorem c_Frames_drop (d : Nat) (a0 a1 : Val) (h : Mem) : callF Γ (d + 1) "Frames.drop" [a0, a1] h = fin (s_Frames_drop (callF Γ d) [some a0, some a1] h) := by kernel_rfl
def s_Space_own_check_open (c : CallT) : MS := (sIf (tE (eAttr Γ c "own_closed" (eVar 0))) sBad sSkip)
theorem c_Space_own_check_open (d : Nat) (a0 : Val) (h : Mem) : callF Γ (d + 1) "Space.own_check_open" [a0] h = fin (s_Space_own_check_open (callF Γ d) [some a0] h) := by kernel_rfl
def s_Frames_share (c : CallT) : MS := (sSeq (sExpr (eMeth Γ c "own_check_frame" 1 [] (eVar 0) (aCons (eVar 1) aNil) aNil)) (sSeq (sExpr (eMeth Γ c "own_check_used" 1 [] (eVar 0) (aCons (eVar 1) aNil) aNil)) (sAugIdx (eAttr Γ c "own_counts" (eVar 0)) (eVar 1) .Add (eC (.int (1))))))
theorem c_Frames_share (d : Nat) (a0 a1 : Val) (h : Mem) : callF Γ (d + 1) "Frames.share" [a0, a1] h = fin (s_Frames_share (callF Γ d) [some a0, some a1] h) := by kernel_rfl
abbrev s__law_between : CallT → MS := L_between
theorem c__law_between (d : Nat) (a0 a1 a2 : Val) (h : Mem) : callF Γ (d + 1) "_law_between" [a0, a1, a2] h = fin (s__law_between (callF Γ d) [some a0, some a1, some a2, none, none] h) := by kernel_rfl
def s_check_whole (c : CallT) : MS := (sIf (tNot (tE (eCall (c "whole") (aCons (eVar 1) (aCons (eVar 2) (aCons (eVar 3) aNil)))))) sBad sSkip)
theorem c_check_whole (d : Nat) (a0 a1 a2 a3 : Val) (h : Mem) : callF Γ (d + 1) "check_whole" [a0, a1, a2, a3] h = fin (s_check_whole (callF Γ d) [some a0, some a1, some a2, some a3] h) := by kernel_rfl
abbrev s__law_pick : CallT → MS := L_pick
theorem c__law_pick (d : Nat) (a0 a1 : Val) (h : Mem) : callF Γ (d + 1) "_law_pick" [a0, a1] h = fin (s__law_pick (callF Γ d) [some a0, some a1] h) := by kernel_rfl
def s_Frames_page (c : CallT) : MS := (sSeq (sExpr (eMeth Γ c "own_check_frame" 1 [] (eVar 0) (aCons (eVar 1) aNil) aNil)) (sSeq (sExpr (eMeth Γ c "own_check_used" 1 [] (eVar 0) (aCons (eVar 1) aNil) aNil)) (sRet (eBi .list (aCons (eIdx (eAttr Γ c "own_stored" (eVar 0)) (eVar 1)) aNil)))))
theorem c_Frames_page (d : Nat) (a0 a1 : Val) (h : Mem) : callF Γ (d + 1) "Frames.page" [a0, a1] h = fin (s_Frames_page (callF Γ d) [some a0, some a1] h) := by kernel_rfl
def s_Frames_poke (c : CallT) : MS := (sSeq (sExpr (eMeth Γ c "own_check_frame" 1 [] (eVar 0) (aCons (eVar 1) aNil) aNil)) (sSeq (sExpr (eCall (c "check_whole") (aCons (eC (.str "offset")) (aCons (eVar 2) (aCons (eC (.int (0))) (aCons (eBin .Sub (eC (.int (8))) (eC (.int (1)))) aNil)))))) (sSeq (sExpr (eCall (c "check_whole") (aCons (eC (.str "word")) (aCons (eVar 3) (aCons (eC (.int (0))) (aCons (eC (.int (65535))) aNil)))))) (sSeq (sExpr (eMeth Γ c "own_check_used" 1 [] (eVar 0) (aCons (eVar 1) aNil) aNil)) (sSeq (sIf (tE (eCmp .Gt (eIdx (eAttr Γ c "own_counts" (eVar 0)) (eVar 1)) (eC (.int (1))))) sBad sSkip) (sSetIdx (eIdx (eAttr Γ c "own_stored" (eVar 0)) (eVar 1)) (eVar 2) (eVar 3)))))))
theorem c_Frames_poke (d : Nat) (a0 a1 a2 a3 : Val) (h : Mem) : callF Γ (d + 1) "Frames.poke" [a0, a1, a2, a3] h = fin (s_Frames_poke (callF Γ d) [some a0, some a1, some a2, some a3] h) := by kernel_rfl
def s_Frames_take (c : CallT) : MS := (sSeq (sIf (tE (eCmp .IsNot (eVar 1) (eC (.non)))) (sExpr (eCall (c "check_words") (aCons (eC (.str "words")) (aCons (eVar 1) (aCons (eC (.int (8))) (aCons (eC (.int (8))) aNil)))))) sSkip) (sSeq (sFor (.tp [(.nm 2), (.nm 3)]) (iEnum (eAttr Γ c "own_counts" (eVar 0))) (sIf (tE (eCmp .Eq (eVar 3) (eC (.int (0))))) sBrk sSkip) sBad) (sSeq (sSetIdx (eAttr Γ c "own_counts" (eVar 0)) (eVar 2) (eC (.int (1)))) (sSeq (sSetIdx (eAttr Γ c "own_stored" (eVar 0)) (eVar 2) (eIf (tE (eCmp .Is (eVar 1) (eC (.non)))) (eBin .Mult (eLst (aCons (eC (.int (0))) aNil)) (eC (.int (8)))) (eBi .list (aCons (eVar 1) aNil)))) (sRet (eVar 2))))))
theorem c_Frames_take (d : Nat) (a0 a1 : Val) (h : Mem) : callF Γ (d + 1) "Frames.take" [a0, a1] h = fin (s_Frames_take (callF Γ d) [some a0, some a1, none, none] h) := by kernel_rfl
def s_Frames_holds (c : CallT) : MS := (sSeq (sExpr (eMeth Γ c "own_check_frame" 1 [] (eVar 0) (aCons (eVar 1) aNil) aNil)) (sRet (eIdx (eAttr Γ c "own_counts" (eVar 0)) (eVar 1))))
theorem c_Frames_holds (d : Nat) (a0 a1 : Val) (h : Mem) : callF Γ (d + 1) "Frames.holds" [a0, a1] h = fin (s_Frames_holds (callF Γ d) [some a0, some a1] h) := by kernel_rfl
def s_Space_own_check_address (c : CallT) : MS := (sIf (tNot (tE (eMeth Γ c "own_has_address" 1 [] (eVar 0) (aCons (eVar 1) aNil) aNil))) sBad sSkip)
theorem c_Space_own_check_address (d : Nat) (a0 a1 : Val) (h : Mem) : callF Γ (d + 1) "Space.own_check_address" [a0, a1] h = fin (s_Space_own_check_address (callF Γ d) [some a0, some a1] h) := by kernel_rfl
def s_Space_own_word_at (c : CallT) : MS := (sSeq (sExpr (eMeth Γ c "own_check_address" 1 [] (eVar 0) (aCons (eVar 1) aNil) aNil)) (sSeq (sExpr (eMeth Γ c "own_check_open" 0 [] (eVar 0) aNil aNil)) (sSeq (sAsg (.tp [(.nm 2), (.nm 3)]) (eBi .divmod (aCons (eVar 1) (aCons (eC (.int (8))) aNil)))) (sSeq (sSet 4 (eIdx (eAttr Γ c "own_places" (eVar 0)) (eVar 2))) (sRet (eIf (tE (eCmp .Is (eVar 4) (eC (.non)))) (eC (.int (0))) (eMeth Γ c "peek" 2 [] (eAttr Γ c "own_frames" (eVar 0)) (aCons (eVar 4) (aCons (eVar 3) aNil)) aNil)))))))
theorem c_Space_own_word_at (d : Nat) (a0 a1 : Val) (h : Mem) : callF Γ (d + 1) "Space.own_word_at" [a0, a1] h = fin (s_Space_own_word_at (callF Γ d) [some a0, some a1, none, none, none] h) := by kernel_rfl
def s_Frames_own_check_used (c : CallT) : MS := (sIf (tE (eCmp .Eq (eIdx (eAttr Γ c "own_counts" (eVar 0)) (eVar 1)) (eC (.int (0))))) sBad sSkip)
theorem c_Frames_own_check_used (d : Nat) (a0 a1 : Val) (h : Mem) : callF Γ (d + 1) "Frames.own_check_used" [a0, a1] h = fin (s_Frames_own_check_used (callF Γ d) [some a0, some a1] h) := by kernel_rfl
def s_Frames_own_check_frame (c : CallT) : MS := (sExpr (eCall (c "check_whole") (aCons (eC (.str "frame")) (aCons (eVar 1) (aCons (eC (.int (0))) (aCons (eBin .Sub (eBi .len (aCons (eAttr Γ c "own_counts" (eVar 0)) aNil)) (eC (.int (1)))) aNil))))))
theorem c_Frames_own_check_frame (d : Nat) (a0 a1 : Val) (h : Mem) : callF Γ (d + 1) "Frames.own_check_frame" [a0, a1] h = fin (s_Frames_own_check_frame (callF Γ d) [some a0, some a1] h) := by kernel_rfl
def s_whole (c : CallT) : MS := (sRet (eAnd (eIsi ["int"] (eVar 0)) (eAnd (eNot (eIsi ["bool"] (eVar 0))) (eChain .LtE .LtE (eVar 1) (eVar 0) (eVar 2)))))
theorem c_whole (d : Nat) (a0 a1 a2 : Val) (h : Mem) : callF Γ (d + 1) "whole" [a0, a1, a2] h = fin (s_whole (callF Γ d) [some a0, some a1, some a2] h) := by kernel_rfl
def s_check_words (c : CallT) : MS := (sIf (tOr (tNot (tE (eIsi ["list"] (eVar 1)))) (tOr (tNot (tE (eChain .LtE .LtE (eVar 2) (eBi .len (aCons (eVar 1) aNil)) (eVar 3)))) (tNot (tE (eCall (c "all_words") (aCons (eVar 1) aNil)))))) sBad sSkip)
theorem c_check_words (d : Nat) (a0 a1 a2 a3 : Val) (h : Mem) : callF Γ (d + 1) "check_words" [a0, a1, a2, a3] h = fin (s_check_words (callF Γ d) [some a0, some a1, some a2, some a3] h) := by kernel_rfl
def s_Space_own_has_address (c : CallT) : MS := (sRet (eCall (c "whole") (aCons (eVar 1) (aCons (eC (.int (0))) (aCons (eBin .Sub (eBin .Mult (eC (.int (8))) (eBi .len (aCons (eAttr Γ c "own_places" (eVar 0)) aNil))) (eC (.int (1)))) aNil)))))
theorem c_Space_own_has_address (d : Nat) (a0 a1 : Val) (h : Mem) : callF Γ (d + 1) "Space.own_has_address" [a0, a1] h = fin (s_Space_own_has_address (callF Γ d) [some a0, some a1] h) := by kernel_rfl
def s_Frames_peek (c : CallT) : MS := (sSeq (sExpr (eMeth Γ c "own_check_frame" 1 [] (eVar 0) (aCons (eVar 1) aNil) aNil)) (sSeq (sExpr (eCall (c "check_whole") (aCons (eC (.str "offset")) (aCons (eVar 2) (aCons (eC (.int (0))) (aCons (eBin .Sub (eC (.int (8))) (eC (.int (1)))) aNil)))))) (sSeq (sExpr (eMeth Γ c "own_check_used" 1 [] (eVar 0) (aCons (eVar 1) aNil) aNil)) (sRet (eIdx (eIdx (eAttr Γ c "own_stored" (eVar 0)) (eVar 1)) (eVar 2))))))
theorem c_Frames_peek (d : Nat) (a0 a1 a2 : Val) (h : Mem) : callF Γ (d + 1) "Frames.peek" [a0, a1, a2] h = fin (s_Frames_peek (callF Γ d) [some a0, some a1, some a2] h) := by kernel_rfl
def s_all_words (c : CallT) : MS := (sRet (eBi .all (aCons (eLc [1] (.nm 1) (iVal (eVar 0)) tYesM (eCall (c "whole") (aCons (eVar 1) (aCons (eC (.int (0))) (aCons (eC (.int (65535))) aNil))))) aNil)))
theorem c_all_words (d : Nat) (a0 : Val) (h : Mem) : callF Γ (d + 1) "all_words" [a0] h = fin (s_all_words (callF Γ d) [some a0, none] h) := by kernel_rfl
@[simp] theorem fg_Frames_own_counts (v0 v1 : Val) : fget [("own_counts", v0), ("own_stored", v1)] "own_counts" = some v0 := by kernel_rfl
@[simp] theorem pf_Frames_own_counts (v0 v1 v : Val) : putFd "own_counts" v [("own_counts", v0), ("own_stored", v1)] = ([("own_counts", v), ("own_stored", v1)] : List (Str × Val)) := by kernel_rfl
@[simp] theorem pi_Frames_own_counts (v : Val) : putFd "own_counts" v [] = ([("own_counts", v)] : List (Str × Val)) := by kernel_rfl
@[simp] theorem fg_Frames_own_stored (v0 v1 : Val) : fget [("own_counts", v0), ("own_stored", v1)] "own_stored" = some v1 := by kernel_rfl
@[simp] theorem pf_Frames_own_stored (v0 v1 v : Val) : putFd "own_stored" v [("own_counts", v0), ("own_stored", v1)] = ([("own_counts", v0), ("own_stored", v)] : List (Str × Val)) := by kernel_rfl
@[simp] theorem pi_Frames_own_stored (v0 v : Val) : putFd "own_stored" v [("own_counts", v0)] = ([("own_counts", v0), ("own_stored", v)] : List (Str × Val)) := by kernel_rfl
@[simp] theorem fm_Frames_take (v0 v1 : Val) : fget [("own_counts", v0), ("own_stored", v1)] "take" = none := by kernel_rfl
@[simp] theorem fm_Frames_share (v0 v1 : Val) : fget [("own_counts", v0), ("own_stored", v1)] "share" = none := by kernel_rfl
@[simp] theorem fm_Frames_drop (v0 v1 : Val) : fget [("own_counts", v0), ("own_stored", v1)] "drop" = none := by kernel_rfl
@[simp] theorem fm_Frames_peek (v0 v1 : Val) : fget [("own_counts", v0), ("own_stored", v1)] "peek" = none := by kernel_rfl
@[simp] theorem fm_Frames_poke (v0 v1 : Val) : fget [("own_counts", v0), ("own_stored", v1)] "poke" = none := by kernel_rfl
@[simp] theorem fm_Frames_page (v0 v1 : Val) : fget [("own_counts", v0), ("own_stored", v1)] "page" = none := by kernel_rfl
@[simp] theorem fm_Frames_holds (v0 v1 : Val) : fget [("own_counts", v0), ("own_stored", v1)] "holds" = none := by kernel_rfl
@[simp] theorem fm_Frames_own_check_frame (v0 v1 : Val) : fget [("own_counts", v0), ("own_stored", v1)] "own_check_frame" = none := by kernel_rfl
@[simp] theorem fm_Frames_own_check_used (v0 v1 : Val) : fget [("own_counts", v0), ("own_stored", v1)] "own_check_used" = none := by kernel_rfl
@[simp] theorem at_Frames_own_counts (c : CallT) (fs : List (Str × Val)) (v : Val) (h : Mem) : attrIn Γ c "own_counts" "Frames" fs v h = Res.opt (fget fs "own_counts") h := by kernel_rfl
@[simp] theorem set_Frames_own_counts (fs : List (Str × Val)) (n : Nat) (v : Val) (h : Mem) : setIn Γ "own_counts" "Frames" fs n v h = if fs.length < 1000 then .ok .non (h.set n (.ins "Frames" (putFd "own_counts" v fs))) else .bad := by
  show (if (true && decide (fs.length < 1000)) = true then _ else _) = _
  simp
@[simp] theorem at_Frames_own_stored (c : CallT) (fs : List (Str × Val)) (v : Val) (h : Mem) : attrIn Γ c "own_stored" "Frames" fs v h = Res.opt (fget fs "own_stored") h := by kernel_rfl
@[simp] theorem set_Frames_own_stored (fs : List (Str × Val)) (n : Nat) (v : Val) (h : Mem) : setIn Γ "own_stored" "Frames" fs n v h = if fs.length < 1000 then .ok .non (h.set n (.ins "Frames" (putFd "own_stored" v fs))) else .bad := by
  show (if (true && decide (fs.length < 1000)) = true then _ else _) = _
  simp
@[simp] theorem at_Frames_free (c : CallT) (fs : List (Str × Val)) (v : Val) (h : Mem) : attrIn Γ c "free" "Frames" fs v h = (c "Frames.free" [v] h).shut := by kernel_rfl
@[simp] theorem fg_Space_own_frames (v0 v1 v2 : Val) : fget [("own_frames", v0), ("own_places", v1), ("own_closed", v2)] "own_frames" = some v0 := by kernel_rfl
@[simp] theorem pf_Space_own_frames (v0 v1 v2 v : Val) : putFd "own_frames" v [("own_frames", v0), ("own_places", v1), ("own_closed", v2)] = ([("own_frames", v), ("own_places", v1), ("own_closed", v2)] : List (Str × Val)) := by kernel_rfl
@[simp] theorem pi_Space_own_frames (v : Val) : putFd "own_frames" v [] = ([("own_frames", v)] : List (Str × Val)) := by kernel_rfl
@[simp] theorem fg_Space_own_places (v0 v1 v2 : Val) : fget [("own_frames", v0), ("own_places", v1), ("own_closed", v2)] "own_places" = some v1 := by kernel_rfl
@[simp] theorem pf_Space_own_places (v0 v1 v2 v : Val) : putFd "own_places" v [("own_frames", v0), ("own_places", v1), ("own_closed", v2)] = ([("own_frames", v0), ("own_places", v), ("own_closed", v2)] : List (Str × Val)) := by kernel_rfl
@[simp] theorem pi_Space_own_places (v0 v : Val) : putFd "own_places" v [("own_frames", v0)] = ([("own_frames", v0), ("own_places", v)] : List (Str × Val)) := by kernel_rfl
@[simp] theorem fg_Space_own_closed (v0 v1 v2 : Val) : fget [("own_frames", v0), ("own_places", v1), ("own_closed", v2)] "own_closed" = some v2 := by kernel_rfl
@[simp] theorem pf_Space_own_closed (v0 v1 v2 v : Val) : putFd "own_closed" v [("own_frames", v0), ("own_places", v1), ("own_closed", v2)] = ([("own_frames", v0), ("own_places", v1), ("own_closed", v)] : List (Str × Val)) := by kernel_rfl
@[simp] theorem pi_Space_own_closed (v0 v1 v : Val) : putFd "own_closed" v [("own_frames", v0), ("own_places", v1)] = ([("own_frames", v0), ("own_places", v1), ("own_closed", v)] : List (Str × Val)) := by kernel_rfl
@[simp] theorem fm_Space_read (v0 v1 v2 : Val) : fget [("own_frames", v0), ("own_places", v1), ("own_closed", v2)] "read" = none := by kernel_rfl
@[simp] theorem fm_Space_write (v0 v1 v2 : Val) : fget [("own_frames", v0), ("own_places", v1), ("own_closed", v2)] "write" = none := by kernel_rfl
@[simp] theorem fm_Space_contents (v0 v1 v2 : Val) : fget [("own_frames", v0), ("own_places", v1), ("own_closed", v2)] "contents" = none := by kernel_rfl
@[simp] theorem fm_Space_fork (v0 v1 v2 : Val) : fget [("own_frames", v0), ("own_places", v1), ("own_closed", v2)] "fork" = none := by kernel_rfl
@[simp] theorem fm_Space_close (v0 v1 v2 : Val) : fget [("own_frames", v0), ("own_places", v1), ("own_closed", v2)] "close" = none := by kernel_rfl
@[simp] theorem fm_Space_own_word_at (v0 v1 v2 : Val) : fget [("own_frames", v0), ("own_places", v1), ("own_closed", v2)] "own_word_at" = none := by kernel_rfl
@[simp] theorem fm_Space_own_has_address (v0 v1 v2 : Val) : fget [("own_frames", v0), ("own_places", v1), ("own_closed", v2)] "own_has_address" = none := by kernel_rfl
@[simp] theorem fm_Space_own_check_address (v0 v1 v2 : Val) : fget [("own_frames", v0), ("own_places", v1), ("own_closed", v2)] "own_check_address" = none := by kernel_rfl
@[simp] theorem fm_Space_own_check_open (v0 v1 v2 : Val) : fget [("own_frames", v0), ("own_places", v1), ("own_closed", v2)] "own_check_open" = none := by kernel_rfl
@[simp] theorem at_Space_own_frames (c : CallT) (fs : List (Str × Val)) (v : Val) (h : Mem) : attrIn Γ c "own_frames" "Space" fs v h = Res.opt (fget fs "own_frames") h := by kernel_rfl
@[simp] theorem set_Space_own_frames (fs : List (Str × Val)) (n : Nat) (v : Val) (h : Mem) : setIn Γ "own_frames" "Space" fs n v h = if fs.length < 1000 then .ok .non (h.set n (.ins "Space" (putFd "own_frames" v fs))) else .bad := by
  show (if (true && decide (fs.length < 1000)) = true then _ else _) = _
  simp
@[simp] theorem at_Space_own_places (c : CallT) (fs : List (Str × Val)) (v : Val) (h : Mem) : attrIn Γ c "own_places" "Space" fs v h = Res.opt (fget fs "own_places") h := by kernel_rfl
@[simp] theorem set_Space_own_places (fs : List (Str × Val)) (n : Nat) (v : Val) (h : Mem) : setIn Γ "own_places" "Space" fs n v h = if fs.length < 1000 then .ok .non (h.set n (.ins "Space" (putFd "own_places" v fs))) else .bad := by
  show (if (true && decide (fs.length < 1000)) = true then _ else _) = _
  simp
@[simp] theorem at_Space_own_closed (c : CallT) (fs : List (Str × Val)) (v : Val) (h : Mem) : attrIn Γ c "own_closed" "Space" fs v h = Res.opt (fget fs "own_closed") h := by kernel_rfl
@[simp] theorem set_Space_own_closed (fs : List (Str × Val)) (n : Nat) (v : Val) (h : Mem) : setIn Γ "own_closed" "Space" fs n v h = if fs.length < 1000 then .ok .non (h.set n (.ins "Space" (putFd "own_closed" v fs))) else .bad := by
  show (if (true && decide (fs.length < 1000)) = true then _ else _) = _
  simp
@[simp] theorem at_Space_pages (c : CallT) (fs : List (Str × Val)) (v : Val) (h : Mem) : attrIn Γ c "pages" "Space" fs v h = (c "Space.pages" [v] h).shut := by kernel_rfl
@[simp] theorem me1_Space_close (c : CallT) (fs : List (Str × Val)) (as kas : MA) (ρ : Mp.Env) (v : Val) (h : Mem) : methIn Γ c "close" 0 [] "Space" fs as kas ρ v h = if (fget fs "close").isNone then (as ρ h).bind fun us h => (kas ρ h).bind fun ws h => (Res.opt (selV (v :: us) ws [.ps 0]) h).bind (c "Space.close") else .bad := by kernel_rfl
@[simp] theorem me2_Space_fork (c : CallT) (fs : List (Str × Val)) (as kas : MA) (ρ : Mp.Env) (v : Val) (h : Mem) : methIn Γ c "fork" 0 [] "Space" fs as kas ρ v h = if (fget fs "fork").isNone then (as ρ h).bind fun us h => (kas ρ h).bind fun ws h => (Res.opt (selV (v :: us) ws [.ps 0]) h).bind (c "Space.fork") else .bad := by kernel_rfl
@[simp] theorem me3_Space_contents (c : CallT) (fs : List (Str × Val)) (as kas : MA) (ρ : Mp.Env) (v : Val) (h : Mem) : methIn Γ c "contents" 0 [] "Space" fs as kas ρ v h = if (fget fs "contents").isNone then (as ρ h).bind fun us h => (kas ρ h).bind fun ws h => (Res.opt (selV (v :: us) ws [.ps 0]) h).bind (c "Space.contents") else .bad := by kernel_rfl
@[simp] theorem me4_Space_write (c : CallT) (fs : List (Str × Val)) (as kas : MA) (ρ : Mp.Env) (v : Val) (h : Mem) : methIn Γ c "write" 2 [] "Space" fs as kas ρ v h = if (fget fs "write").isNone then (as ρ h).bind fun us h => (kas ρ h).bind fun ws h => (Res.opt (selV (v :: us) ws [.ps 0, .ps 1, .ps 2]) h).bind (c "Space.write") else .bad := by kernel_rfl
@[simp] theorem me5_Space_read (c : CallT) (fs : List (Str × Val)) (as kas : MA) (ρ : Mp.Env) (v : Val) (h : Mem) : methIn Γ c "read" 1 [] "Space" fs as kas ρ v h = if (fget fs "read").isNone then (as ρ h).bind fun us h => (kas ρ h).bind fun ws h => (Res.opt (selV (v :: us) ws [.ps 0, .ps 1]) h).bind (c "Space.read") else .bad := by kernel_rfl
@[simp] theorem me6_Frames_drop (c : CallT) (fs : List (Str × Val)) (as kas : MA) (ρ : Mp.Env) (v : Val) (h : Mem) : methIn Γ c "drop" 1 [] "Frames" fs as kas ρ v h = if (fget fs "drop").isNone then (as ρ h).bind fun us h => (kas ρ h).bind fun ws h => (Res.opt (selV (v :: us) ws [.ps 0, .ps 1]) h).bind (c "Frames.drop") else .bad := by kernel_rfl
@[simp] theorem me7_Space_own_check_open (c : CallT) (fs : List (Str × Val)) (as kas : MA) (ρ : Mp.Env) (v : Val) (h : Mem) : methIn Γ c "own_check_open" 0 [] "Space" fs as kas ρ v h = if (fget fs "own_check_open").isNone then (as ρ h).bind fun us h => (kas ρ h).bind fun ws h => (Res.opt (selV (v :: us) ws [.ps 0]) h).bind (c "Space.own_check_open") else .bad := by kernel_rfl
@[simp] theorem me8_Frames_share (c : CallT) (fs : List (Str × Val)) (as kas : MA) (ρ : Mp.Env) (v : Val) (h : Mem) : methIn Γ c "share" 1 [] "Frames" fs as kas ρ v h = if (fget fs "share").isNone then (as ρ h).bind fun us h => (kas ρ h).bind fun ws h => (Res.opt (selV (v :: us) ws [.ps 0, .ps 1]) h).bind (c "Frames.share") else .bad := by kernel_rfl
@[simp] theorem me9_Frames_page (c : CallT) (fs : List (Str × Val)) (as kas : MA) (ρ : Mp.Env) (v : Val) (h : Mem) : methIn Γ c "page" 1 [] "Frames" fs as kas ρ v h = if (fget fs "page").isNone then (as ρ h).bind fun us h => (kas ρ h).bind fun ws h => (Res.opt (selV (v :: us) ws [.ps 0, .ps 1]) h).bind (c "Frames.page") else .bad := by kernel_rfl
@[simp] theorem me10_Frames_poke (c : CallT) (fs : List (Str × Val)) (as kas : MA) (ρ : Mp.Env) (v : Val) (h : Mem) : methIn Γ c "poke" 3 [] "Frames" fs as kas ρ v h = if (fget fs "poke").isNone then (as ρ h).bind fun us h => (kas ρ h).bind fun ws h => (Res.opt (selV (v :: us) ws [.ps 0, .ps 1, .ps 2, .ps 3]) h).bind (c "Frames.poke") else .bad := by kernel_rfl
@[simp] theorem me11_Frames_take (c : CallT) (fs : List (Str × Val)) (as kas : MA) (ρ : Mp.Env) (v : Val) (h : Mem) : methIn Γ c "take" 1 [] "Frames" fs as kas ρ v h = if (fget fs "take").isNone then (as ρ h).bind fun us h => (kas ρ h).bind fun ws h => (Res.opt (selV (v :: us) ws [.ps 0, .ps 1]) h).bind (c "Frames.take") else .bad := by kernel_rfl
@[simp] theorem me12_Frames_holds (c : CallT) (fs : List (Str × Val)) (as kas : MA) (ρ : Mp.Env) (v : Val) (h : Mem) : methIn Γ c "holds" 1 [] "Frames" fs as kas ρ v h = if (fget fs "holds").isNone then (as ρ h).bind fun us h => (kas ρ h).bind fun ws h => (Res.opt (selV (v :: us) ws [.ps 0, .ps 1]) h).bind (c "Frames.holds") else .bad := by kernel_rfl
@[simp] theorem me13_Frames_take (c : CallT) (fs : List (Str × Val)) (as kas : MA) (ρ : Mp.Env) (v : Val) (h : Mem) : methIn Γ c "take" 0 [] "Frames" fs as kas ρ v h = if (fget fs "take").isNone then (as ρ h).bind fun us h => (kas ρ h).bind fun ws h => (Res.opt (selV (v :: us) ws [.ps 0, .df (.non)]) h).bind (c "Frames.take") else .bad := by kernel_rfl
@[simp] theorem me14_Space_own_check_address (c : CallT) (fs : List (Str × Val)) (as kas : MA) (ρ : Mp.Env) (v : Val) (h : Mem) : methIn Γ c "own_check_address" 1 [] "Space" fs as kas ρ v h = if (fget fs "own_check_address").isNone then (as ρ h).bind fun us h => (kas ρ h).bind fun ws h => (Res.opt (selV (v :: us) ws [.ps 0, .ps 1]) h).bind (c "Space.own_check_address") else .bad := by kernel_rfl
@[simp] theorem me15_Space_own_word_at (c : CallT) (fs : List (Str × Val)) (as kas : MA) (ρ : Mp.Env) (v : Val) (h : Mem) : methIn Γ c "own_word_at" 1 [] "Space" fs as kas ρ v h = if (fget fs "own_word_at").isNone then (as ρ h).bind fun us h => (kas ρ h).bind fun ws h => (Res.opt (selV (v :: us) ws [.ps 0, .ps 1]) h).bind (c "Space.own_word_at") else .bad := by kernel_rfl
@[simp] theorem me16_Frames_own_check_used (c : CallT) (fs : List (Str × Val)) (as kas : MA) (ρ : Mp.Env) (v : Val) (h : Mem) : methIn Γ c "own_check_used" 1 [] "Frames" fs as kas ρ v h = if (fget fs "own_check_used").isNone then (as ρ h).bind fun us h => (kas ρ h).bind fun ws h => (Res.opt (selV (v :: us) ws [.ps 0, .ps 1]) h).bind (c "Frames.own_check_used") else .bad := by kernel_rfl
@[simp] theorem me17_Frames_own_check_frame (c : CallT) (fs : List (Str × Val)) (as kas : MA) (ρ : Mp.Env) (v : Val) (h : Mem) : methIn Γ c "own_check_frame" 1 [] "Frames" fs as kas ρ v h = if (fget fs "own_check_frame").isNone then (as ρ h).bind fun us h => (kas ρ h).bind fun ws h => (Res.opt (selV (v :: us) ws [.ps 0, .ps 1]) h).bind (c "Frames.own_check_frame") else .bad := by kernel_rfl
@[simp] theorem me18_Space_own_has_address (c : CallT) (fs : List (Str × Val)) (as kas : MA) (ρ : Mp.Env) (v : Val) (h : Mem) : methIn Γ c "own_has_address" 1 [] "Space" fs as kas ρ v h = if (fget fs "own_has_address").isNone then (as ρ h).bind fun us h => (kas ρ h).bind fun ws h => (Res.opt (selV (v :: us) ws [.ps 0, .ps 1]) h).bind (c "Space.own_has_address") else .bad := by kernel_rfl
@[simp] theorem me19_Frames_peek (c : CallT) (fs : List (Str × Val)) (as kas : MA) (ρ : Mp.Env) (v : Val) (h : Mem) : methIn Γ c "peek" 2 [] "Frames" fs as kas ρ v h = if (fget fs "peek").isNone then (as ρ h).bind fun us h => (kas ρ h).bind fun ws h => (Res.opt (selV (v :: us) ws [.ps 0, .ps 1, .ps 2]) h).bind (c "Frames.peek") else .bad := by kernel_rfl
end K04
set_option Elab.async false
set_option linter.all false
set_option maxRecDepth 100000
set_option maxHeartbeats 1000000
namespace K04
open Mp PySem L2
/-! ### draws -/
theorem mixed_ok {e : Nat} (he : 1 ≤ e) : SpMixed (callF Γ e "_law_mixed") := by
  obtain ⟨d, rfl⟩ : ∃ d, e = d + 1 := ⟨e - 1, by omega⟩
  intro i t k h hk
  rw [c__law_mixed]
  exact sp_mixed _ i t k h hk
theorem take_ok {e : Nat} (he : 2 ≤ e) : SpTake (callF Γ e "_law_take") := by
  obtain ⟨d, rfl⟩ : ∃ d, e = d + 1 := ⟨e - 1, by omega⟩
  intro k h st hk
  rw [c__law_take]
  exact sp_take (mixed_ok (by omega)) k h st hk
theorem between_ok {e : Nat} (he : 3 ≤ e) : SpBetween (callF Γ e "_law_between") := by
  obtain ⟨d, rfl⟩ : ∃ d, e = d + 1 := ⟨e - 1, by omega⟩
  intro a b h st h1 h2
  rw [c__law_between]
  exact sp_between (take_ok (by omega)) a b h st h1 h2
theorem size_ok {e : Nat} (he : 3 ≤ e) : SpSize (callF Γ e "_law_size") := by
  obtain ⟨d, rfl⟩ : ∃ d, e = d + 1 := ⟨e - 1, by omega⟩
  intro a h st h1 h2
  rw [c__law_size]
  exact sp_size (take_ok (by omega)) a h st h1 h2
theorem pick_ok {e : Nat} (he : 3 ≤ e) : SpPick (callF Γ e "_law_pick") := by
  obtain ⟨d, rfl⟩ : ∃ d, e = d + 1 := ⟨e - 1, by omega⟩
  intro n xs h st h1 h2 h3 h4
  rw [c__law_pick]
  exact sp_pick (take_ok (by omega)) n xs h st h1 h2 h3 h4
/-! ### checks -/
theorem whole_ok {e : Nat} (he : 1 ≤ e) (v a b : Int) (h : Mem) : callF Γ e "whole" [.int v, .int a, .int b] h = .ok (.bl (decide (a ≤ v ∧ v ≤ b))) h := by
  obtain ⟨d, rfl⟩ : ∃ d, e = d + 1 := ⟨e - 1, by omega⟩
  rw [c_whole]
  refine W_eq ?_
  simp only [W_fin, s_whole]
  simp [subTy]
  constructor
  · intro h1
    simp [h1]
  · intro h1
    simp [show ¬ a ≤ v by omega]
theorem check_ok {e : Nat} (he : 2 ≤ e) (n : Val) (v a b : Int) (h : Mem) (h1 : a ≤ v) (h2 : v ≤ b) : callF Γ e "check_whole" [n, .int v, .int a, .int b] h = .ok .non h := by
  obtain ⟨d, rfl⟩ : ∃ d, e = d + 1 := ⟨e - 1, by omega⟩
  rw [c_check_whole]
  refine W_eq ?_
  simp only [W_fin, s_check_whole]
  simp [whole_ok (show 1 ≤ d by omega), h1, h2]
/-! ### roles of objects -/
inductive Ro where
  | st | sc | oth | ls | fr (F : Nat) | ct (F : Nat) | sl (F : Nat) | cell (F i : Nat) | row (r : Nat) | spc (r : Nat) | plc (r : Nat) | wd (r : Nat)
abbrev Ow := Nat → Ro
/-- later: roles stay, objects out of R stay -/
structure Stp (R : Ro → Prop) (o o' : Ow) (h h' : Mem) : Prop where
  len : h.length ≤ h'.length
  own : ∀ x, x < h.length → o' x = o x
  keep : ∀ x, x < h.length → ¬ R (o x) → h'[x]? = h[x]?
theorem Stp.refl (R : Ro → Prop) (o : Ow) (h : Mem) : Stp R o o h h := ⟨Nat.le_refl _, fun _ _ => rfl, fun _ _ _ => rfl⟩
theorem Stp.get {R : Ro → Prop} {o o' : Ow} {h h' : Mem} (s : Stp R o o' h h') {x : Nat} {b : Ob} (e : h[x]? = some b) {r : Ro} (hr : o x = r) (hn : ¬ R r) : h'[x]? = some b := by
  rw [s.keep x (lt_of_get e) (by rw [hr]; exact hn), e]
theorem Stp.role {R : Ro → Prop} {o o' : Ow} {h h' : Mem} (s : Stp R o o' h h') {x : Nat} {b : Ob} (e : h[x]? = some b) {r : Ro} (hr : o x = r) : o' x = r := (s.own x (lt_of_get e)).trans hr
theorem Stp.trans {R R1 R2 : Ro → Prop} {o o1 o2 : Ow} {h h1 h2 : Mem} (a : Stp R1 o o1 h h1) (b : Stp R2 o1 o2 h1 h2) (i1 : ∀ r, R1 r → R r) (i2 : ∀ r, R2 r → R r) : Stp R o o2 h h2 :=
  ⟨Nat.le_trans a.len b.len, fun x hx => (b.own x (Nat.lt_of_lt_of_le hx a.len)).trans (a.own x hx), fun x hx hr => (b.keep x (Nat.lt_of_lt_of_le hx a.len) (fun z => hr (i2 _ (by rw [← a.own x hx]; exact z)))).trans (a.keep x hx fun z => hr (i1 _ z))⟩
theorem Stp.mono {R R' : Ro → Prop} {o o' : Ow} {h h' : Mem} (a : Stp R o o' h h') (i : ∀ r, R r → R' r) : Stp R' o o' h h' := ⟨a.len, a.own, fun x hx hr => a.keep x hx fun z => hr (i _ z)⟩
theorem Stp.set {o : Ow} {h : Mem} {a : Nat} {r : Ro} (b : Ob) (hr : o a = r) : Stp (· = r) o o h (h.set a b) := ⟨by simp, fun _ _ => rfl, fun x hx hn => List.getElem?_set_ne fun e => hn (by rw [← e]; exact hr)⟩
/-- a new object -/
def upO (o : Ow) (a : Nat) (r : Ro) : Ow := fun x => if x = a then r else o x
theorem upO_at (o : Ow) (a : Nat) (r : Ro) : upO o a r a = r := if_pos rfl
theorem Stp.new (R : Ro → Prop) (o : Ow) (h : Mem) (b : Ob) (r : Ro) : Stp R o (upO o h.length r) h (h ++ [b]) := ⟨by simp, fun x hx => if_neg (by omega), fun x hx _ => List.getElem?_append_left hx⟩
theorem Stp.draw {o : Ow} {h h' : Mem} (d : Dr h h') (h2 : o 2 = .st) : Stp (· = .st) o o h h' := ⟨by rw [d.len]; exact Nat.le_refl _, fun _ _ => rfl, fun x hx hn => d.fr.keep x hx fun z => hn (by
  have : x = 2 := by simpa using z
  rw [this]
  exact h2)⟩
/-! ### frames -/
structure Pool where
  ca : Nat
  sa : Nat
  cs : List Int
  as : List Nat
  ws : List (List Int)
structure PoolAt (o : Ow) (h : Mem) (F : Nat) (p : Pool) : Prop where
  ob : h[F]? = some (.ins "Frames" [("own_counts", .ref p.ca), ("own_stored", .ref p.sa)])
  ct : h[p.ca]? = some (.lst (p.cs.map .int))
  sl : h[p.sa]? = some (.lst (p.as.map .ref))
  la : p.as.length = p.cs.length
  lw : p.ws.length = p.cs.length
  dat : ∀ (i a : Nat) (w : List Int), p.as[i]? = some a → p.ws[i]? = some w → h[a]? = some (.lst (w.map .int)) ∧ w.length = 8 ∧ o a = .cell F i
  r1 : o F = .fr F
  r2 : o p.ca = .ct F
  r3 : o p.sa = .sl F
  lim : p.cs.length ≤ 96
section
variable {o : Ow} {h h' : Mem} {F : Nat} {p : Pool}
theorem PoolAt.nF (P : PoolAt o h F p) : F ≠ p.ca := fun e => by have := P.r1; rw [e, P.r2] at this; cases this
theorem PoolAt.nG (P : PoolAt o h F p) : F ≠ p.sa := fun e => by have := P.r1; rw [e, P.r3] at this; cases this
theorem PoolAt.nS (P : PoolAt o h F p) : p.ca ≠ p.sa := fun e => by have := P.r2; rw [e, P.r3] at this; cases this
theorem PoolAt.at_ (P : PoolAt o h F p) {f : Nat} (hf : f < p.cs.length) : ∃ a w, p.as[f]? = some a ∧ p.ws[f]? = some w ∧ h[a]? = some (.lst (w.map .int)) ∧ w.length = 8 ∧ o a = .cell F f := by
  have h1 : f < p.as.length := by rw [P.la]; exact hf
  have h2 : f < p.ws.length := by rw [P.lw]; exact hf
  exact ⟨_, _, List.getElem?_eq_getElem h1, List.getElem?_eq_getElem h2, P.dat f _ _ (List.getElem?_eq_getElem h1) (List.getElem?_eq_getElem h2)⟩
/-- nothing of the pool has changed -/
theorem PoolAt.stp {R : Ro → Prop} {o' : Ow} (P : PoolAt o h F p) (s : Stp R o o' h h') (n1 : ¬ R (.fr F)) (n2 : ¬ R (.ct F)) (n3 : ¬ R (.sl F)) (n4 : ∀ i, ¬ R (.cell F i)) : PoolAt o' h' F p where
  ob := s.get P.ob P.r1 n1
  ct := s.get P.ct P.r2 n2
  sl := s.get P.sl P.r3 n3
  la := P.la
  lw := P.lw
  dat := fun i a w h1 h2 => by
    obtain ⟨d1, d2, d3⟩ := P.dat i a w h1 h2
    exact ⟨s.get d1 d3 (n4 i), d2, s.role d1 d3⟩
  r1 := s.role P.ob P.r1
  r2 := s.role P.ct P.r2
  r3 := s.role P.sl P.r3
  lim := P.lim
/-- the counts -/
theorem PoolAt.cts (P : PoolAt o h F p) {cs : List Int} (hl : cs.length = p.cs.length) : PoolAt o (h.set p.ca (.lst (cs.map .int))) F { p with cs := cs } where
  ob := get_set_ne P.ob P.nF.symm
  ct := get_set P.ct
  sl := get_set_ne P.sl P.nS
  la := P.la.trans hl.symm
  lw := P.lw.trans hl.symm
  dat := fun i a w h1 h2 => by
    obtain ⟨d1, d2, d3⟩ := P.dat i a w h1 h2
    exact ⟨get_set_ne d1 (fun e => by rw [← e, P.r2] at d3; cases d3), d2, d3⟩
  r1 := P.r1
  r2 := P.r2
  r3 := P.r3
  lim := by show cs.length ≤ 96; rw [hl]; exact P.lim
/-- one cell's words -/
theorem PoolAt.cel (P : PoolAt o h F p) {f a : Nat} {w : List Int} (ha : p.as[f]? = some a) (hw : w.length = 8) : PoolAt o (h.set a (.lst (w.map .int))) F { p with ws := p.ws.set f w } := by
  have hf : f < p.cs.length := by rw [← P.la]; exact (List.getElem?_eq_some_iff.mp ha).1
  obtain ⟨a', w', e1, e2, e3, e4, e5⟩ := P.at_ hf
  rw [ha] at e1
  cases e1
  exact
  { ob := get_set_ne P.ob fun e => by rw [e, P.r1] at e5; cases e5
    ct := get_set_ne P.ct fun e => by rw [e, P.r2] at e5; cases e5
    sl := get_set_ne P.sl fun e => by rw [e, P.r3] at e5; cases e5
    la := P.la
    lw := by show (p.ws.set f w).length = _; rw [List.length_set]; exact P.lw
    dat := fun i b u h1 h2 => by
      by_cases hi : i = f
      · subst hi
        rw [ha] at h1
        cases h1
        have h2 : (p.ws.set i w)[i]? = some u := h2
        rw [List.getElem?_set_self (by rw [P.lw]; exact hf)] at h2
        cases h2
        exact ⟨get_set e3, hw, e5⟩
      · have h2 : (p.ws.set f w)[i]? = some u := h2
        rw [List.getElem?_set_ne (Ne.symm hi)] at h2
        obtain ⟨d1, d2, d3⟩ := P.dat i b u h1 h2
        exact ⟨get_set_ne d1 fun e => by
          rw [← e, e5] at d3
          injection d3 with _ z
          exact hi z.symm, d2, d3⟩
    r1 := P.r1
    r2 := P.r2
    r3 := P.r3
    lim := P.lim }
/-- a new object for one cell -/
theorem PoolAt.newc (P : PoolAt o h F p) {f a : Nat} {w : List Int} (hf : f < p.cs.length) (ha : h[a]? = some (.lst (w.map .int))) (hw : w.length = 8) (hr : o a = .cell F f) : PoolAt o (h.set p.sa (.lst ((p.as.set f a).map .ref))) F { p with as := p.as.set f a, ws := p.ws.set f w } where
  ob := get_set_ne P.ob P.nG.symm
  ct := get_set_ne P.ct P.nS.symm
  sl := get_set P.sl
  la := by show (p.as.set f a).length = _; rw [List.length_set]; exact P.la
  lw := by show (p.ws.set f w).length = _; rw [List.length_set]; exact P.lw
  dat := fun i b u h1 h2 => by
    have key : ∀ {x : Nat} {ob : Ob} {j : Nat}, h[x]? = some ob → o x = .cell F j → (h.set p.sa (.lst ((p.as.set f a).map .ref)))[x]? = some ob := fun {x ob j} e1 e2 => get_set_ne e1 fun e => by rw [← e, P.r3] at e2; cases e2
    have h1 : (p.as.set f a)[i]? = some b := h1
    have h2 : (p.ws.set f w)[i]? = some u := h2
    by_cases hi : i = f
    · subst hi
      rw [List.getElem?_set_self (by rw [P.la]; exact hf)] at h1
      rw [List.getElem?_set_self (by rw [P.lw]; exact hf)] at h2
      cases h1
      cases h2
      exact ⟨key ha hr, hw, hr⟩
    · rw [List.getElem?_set_ne (Ne.symm hi)] at h1 h2
      obtain ⟨d1, d2, d3⟩ := P.dat i b u h1 h2
      exact ⟨key d1 d3, d2, d3⟩
  r1 := P.r1
  r2 := P.r2
  r3 := P.r3
  lim := P.lim
theorem frame_ok {e : Nat} (he : 3 ≤ e) (P : PoolAt o h F p) {f : Int} (h1 : 0 ≤ f) (h2 : f < p.cs.length) : callF Γ e "Frames.own_check_frame" [.ref F, .int f] h = .ok .non h := by
  obtain ⟨d, rfl⟩ : ∃ d, e = d + 1 := ⟨e - 1, by omega⟩
  rw [c_Frames_own_check_frame]
  refine W_eq ?_
  simp only [W_fin, s_Frames_own_check_frame]
  simp [P.ob, P.ct]
  rw [check_ok (by omega) _ _ _ _ _ h1 (by omega)]
  simp
theorem used_ok {e : Nat} (he : 1 ≤ e) (P : PoolAt o h F p) {f : Nat} {c : Int} (h1 : p.cs[f]? = some c) (h2 : c ≠ 0) : callF Γ e "Frames.own_check_used" [.ref F, .int f] h = .ok .non h := by
  obtain ⟨d, rfl⟩ : ∃ d, e = d + 1 := ⟨e - 1, by omega⟩
  rw [c_Frames_own_check_used]
  refine W_eq ?_
  simp only [W_fin, s_Frames_own_check_used]
  simp [P.ob, P.ct, Mp.atI_nat, h1, h2]
theorem holds_ok {e : Nat} (he : 4 ≤ e) (P : PoolAt o h F p) {f : Nat} {c : Int} (h1 : p.cs[f]? = some c) : callF Γ e "Frames.holds" [.ref F, .int f] h = .ok (.int c) h := by
  obtain ⟨d, rfl⟩ : ∃ d, e = d + 1 := ⟨e - 1, by omega⟩
  have hf : f < p.cs.length := (List.getElem?_eq_some_iff.mp h1).1
  rw [c_Frames_holds]
  refine W_eq ?_
  simp only [W_fin, s_Frames_holds]
  simp [P.ob, P.ct, frame_ok (show 3 ≤ d by omega) P (f := f) (by omega) (by omega), Mp.atI_nat, h1]
theorem peek_ok {e : Nat} (he : 4 ≤ e) (P : PoolAt o h F p) {f i : Nat} {c x : Int} {w : List Int} (h1 : p.cs[f]? = some c) (h2 : c ≠ 0) (h3 : p.ws[f]? = some w) (h4 : w[i]? = some x) : callF Γ e "Frames.peek" [.ref F, .int f, .int i] h = .ok (.int x) h := by
  obtain ⟨d, rfl⟩ : ∃ d, e = d + 1 := ⟨e - 1, by omega⟩
  have hf : f < p.cs.length := (List.getElem?_eq_some_iff.mp h1).1
  obtain ⟨a, w', ha, hw, d1, d2, _⟩ := P.at_ hf
  rw [h3] at hw
  cases hw
  have hi : i < 8 := by rw [← d2]; exact (List.getElem?_eq_some_iff.mp h4).1
  rw [c_Frames_peek]
  refine W_eq ?_
  simp only [W_fin, s_Frames_peek]
  simp [P.ob, P.ct, P.sl, frame_ok (show 3 ≤ d by omega) P (f := f) (by omega) (by omega), used_ok (show 1 ≤ d by omega) P h1 h2, check_ok (show 2 ≤ d by omega) _ (i : Int) 0 7 h (by omega) (by omega), Mp.atI_nat, h1, ha, d1, h4]
theorem page_ok {e : Nat} (he : 4 ≤ e) (P : PoolAt o h F p) {f : Nat} {c : Int} {w : List Int} (h1 : p.cs[f]? = some c) (h2 : c ≠ 0) (h3 : p.ws[f]? = some w) : callF Γ e "Frames.page" [.ref F, .int f] h = .ok (.ref h.length) (h ++ [.lst (w.map .int)]) := by
  obtain ⟨d, rfl⟩ : ∃ d, e = d + 1 := ⟨e - 1, by omega⟩
  have hf : f < p.cs.length := (List.getElem?_eq_some_iff.mp h1).1
  obtain ⟨a, w', ha, hw, d1, d2, _⟩ := P.at_ hf
  rw [h3] at hw
  cases hw
  rw [c_Frames_page]
  refine W_eq ?_
  simp only [W_fin, s_Frames_page]
  simp [P.ob, P.ct, P.sl, frame_ok (show 3 ≤ d by omega) P (f := f) (by omega) (by omega), used_ok (show 1 ≤ d by omega) P h1 h2, Mp.atI_nat, h1, ha, d1]
  rw [d2]
  decide
theorem share_ok {e : Nat} (he : 4 ≤ e) (P : PoolAt o h F p) {f : Nat} {c : Int} (h1 : p.cs[f]? = some c) (h2 : c ≠ 0) : callF Γ e "Frames.share" [.ref F, .int f] h = .ok .non (h.set p.ca (.lst ((p.cs.set f (c + 1)).map .int))) := by
  obtain ⟨d, rfl⟩ : ∃ d, e = d + 1 := ⟨e - 1, by omega⟩
  have hc : ∀ hf, p.cs[f]'hf = c := fun hf => (List.getElem?_eq_some_iff.mp h1).2
  have hf : f < p.cs.length := (List.getElem?_eq_some_iff.mp h1).1
  rw [c_Frames_share]
  refine W_eq ?_
  simp only [W_fin, s_Frames_share]
  simp [P.ob, P.ct, frame_ok (show 3 ≤ d by omega) P (f := f) (by omega) (by omega), used_ok (show 1 ≤ d by omega) P h1 h2, Mp.atI_nat, ixN_lit, h1, hf, hc, List.map_set]
theorem drop_ok {e : Nat} (he : 4 ≤ e) (P : PoolAt o h F p) {f : Nat} {c : Int} (h1 : p.cs[f]? = some c) (h2 : c ≠ 0) : callF Γ e "Frames.drop" [.ref F, .int f] h = .ok (.bl (decide (c - 1 = 0))) (h.set p.ca (.lst ((p.cs.set f (c - 1)).map .int))) := by
  obtain ⟨d, rfl⟩ : ∃ d, e = d + 1 := ⟨e - 1, by omega⟩
  have hc : ∀ hf, p.cs[f]'hf = c := fun hf => (List.getElem?_eq_some_iff.mp h1).2
  have hf : f < p.cs.length := (List.getElem?_eq_some_iff.mp h1).1
  have g1 : ∀ o, (h.set p.ca o)[p.ca]? = some o := fun o => get_set P.ct
  have g2 : ∀ o, (h.set p.ca o)[F]? = some (.ins "Frames" [("own_counts", .ref p.ca), ("own_stored", .ref p.sa)]) := fun o => get_set_ne P.ob P.nF.symm
  rw [c_Frames_drop]
  refine W_eq ?_
  simp only [W_fin, s_Frames_drop]
  simp [P.ob, P.ct, frame_ok (show 3 ≤ d by omega) P (f := f) (by omega) (by omega), used_ok (show 1 ≤ d by omega) P h1 h2, Mp.atI_nat, ixN_lit, h1, hf, hc, List.map_set, g1, g2]
theorem poke_ok {e : Nat} (he : 4 ≤ e) (P : PoolAt o h F p) {f i a : Nat} {x : Int} {w : List Int} (h1 : p.cs[f]? = some 1) (ha : p.as[f]? = some a) (h3 : p.ws[f]? = some w) (h4 : i < 8) (h5 : 0 ≤ x) (h6 : x ≤ 65535) : callF Γ e "Frames.poke" [.ref F, .int f, .int i, .int x] h = .ok .non (h.set a (.lst ((w.set i x).map .int))) := by
  obtain ⟨d, rfl⟩ : ∃ d, e = d + 1 := ⟨e - 1, by omega⟩
  have hf : f < p.cs.length := (List.getElem?_eq_some_iff.mp h1).1
  obtain ⟨d1, d2, _⟩ := P.dat f _ w ha h3
  rw [c_Frames_poke]
  refine W_eq ?_
  simp only [W_fin, s_Frames_poke]
  simp [P.ob, P.ct, P.sl, frame_ok (show 3 ≤ d by omega) P (f := f) (by omega) (by omega), used_ok (show 1 ≤ d by omega) P h1 (by decide), check_ok (show 2 ≤ d by omega) _ (i : Int) 0 7 h (by omega) (by omega), check_ok (show 2 ≤ d by omega) _ x 0 65535 h h5 h6, Mp.atI_nat, ixN_lit, h1, ha, d1, d2, h4, List.map_set]
end
/-- the first zero -/
theorem first_zero : ∀ (cs : List Int), (∃ f : Nat, cs[f]? = some 0) → ∃ f : Nat, cs[f]? = some 0 ∧ ∀ i : Nat, i < f → cs[i]? ≠ some 0 := by
  intro cs ⟨f, hf⟩
  induction cs generalizing f with
  | nil => simp at hf
  | cons c cs ih =>
    by_cases hc : c = 0
    · exact ⟨0, by simp [hc], fun i hi => by omega⟩
    · cases f with
      | zero => simp at hf; exact absurd hf hc
      | succ f =>
        obtain ⟨g, g1, g2⟩ := ih f (by simpa using hf)
        refine ⟨g + 1, by simpa using g1, fun i hi => ?_⟩
        cases i with
        | zero => simp [hc]
        | succ i => simpa using g2 i (by omega)
theorem scan_ok {o : Ow} {h : Mem} {F : Nat} {p : Pool} (P : PoolAt o h F p) {f : Nat} (f1 : p.cs[f]? = some 0) (f2 : ∀ i : Nat, i < f → p.cs[i]? ≠ some 0) {P0 : Po} {v : Val} (q : P0.nx [some (.ref F), some v, some (.int f), some (.int 0)] h) :
    Fw (forF (wkE (wkL p.ca p.cs.length)) (Tg.tp [.nm 2, .nm 3]) (sIf (tE (eCmp .Eq (eVar 3) (eC (.int 0)))) sBrk sSkip) sBad (wkE (wkL p.ca p.cs.length)).fuel 0 [some (.ref F), some v, none, none] h) P0 := by
  have hf : f < p.cs.length := (List.getElem?_eq_some_iff.mp f1).1
  have e : p.cs.length = (p.cs.map Val.int).length := by simp
  rw [e]
  refine for_enum (fun i ρ h' => h' = h ∧ i ≤ f ∧ ∃ x y, ρ = [some (.ref F), some v, x, y]) ⟨rfl, Nat.zero_le _, _, _, rfl⟩ (fun i ρ h' _ hI => by rw [hI.1]; exact P.ct) ?_ ?_
  · rintro i x ρ h' hx ⟨rfl, hi, y, z, rfl⟩
    rw [List.getElem?_map] at hx
    cases hc : p.cs[i]? with
    | none => rw [hc] at hx; cases hx
    | some c =>
      rw [hc] at hx
      cases hx
      simp
      constructor
      · intro c0
        subst c0
        have : i = f := by
          rcases Nat.lt_or_ge i f with z | z
          · exact absurd hc (f2 i z)
          · omega
        subst this
        exact q
      · intro c0
        rcases Nat.lt_or_ge i f with z | z
        · omega
        · have : i = f := by omega
          subst this
          rw [f1] at hc
          cases hc
          exact absurd rfl c0
  · rintro ρ h' ⟨rfl, hi, _⟩
    simp at hi
    omega
/-- what take() leaves -/
theorem took {o : Ow} {h : Mem} {F : Nat} {p : Pool} (P : PoolAt o h F p) {f : Nat} (hf : f < p.cs.length) {w : List Int} (hw : w.length = 8) (m : Mem) {h' : Mem}
    (eh : h' = ((h.set p.ca (Ob.lst ((p.cs.set f 1).map .int))) ++ (m ++ [Ob.lst (w.map .int)])).set p.sa (Ob.lst ((p.as.set f (h.length + m.length)).map .ref))) :
    ∃ o' p', Stp (fun r => r = .ct F ∨ r = .sl F) o o' h h' ∧ PoolAt o' h' F p' ∧ p'.cs = p.cs.set f 1 ∧ p'.ws = p.ws.set f w := by
  have P1 := P.cts (cs := p.cs.set f 1) (by simp)
  have s1 : Stp (fun r => r = .ct F ∨ r = .sl F) o o h (h.set p.ca (Ob.lst ((p.cs.set f 1).map .int))) := (Stp.set _ P.r2).mono fun r z => .inl z
  have hl : (h.set p.ca (Ob.lst ((p.cs.set f 1).map .int))).length = h.length := by simp
  have s2 : Stp (fun _ => False) o (fun x => if x = h.length + m.length then .cell F f else o x) (h.set p.ca (Ob.lst ((p.cs.set f 1).map .int))) (h.set p.ca (Ob.lst ((p.cs.set f 1).map .int)) ++ (m ++ [Ob.lst (w.map .int)])) :=
    ⟨by simp, fun x hx => if_neg (by omega), fun x hx _ => List.getElem?_append_left hx⟩
  have P2 := P1.stp s2 (fun z => z) (fun z => z) (fun z => z) (fun _ z => z)
  have ga : (h.set p.ca (Ob.lst ((p.cs.set f 1).map .int)) ++ (m ++ [Ob.lst (w.map .int)]))[h.length + m.length]? = some (Ob.lst (w.map .int)) := by
    rw [← List.append_assoc, List.getElem?_append_right (by simp)]
    simp
  have P3 := P2.newc (f := f) (a := h.length + m.length) (w := w) (by simp; exact hf) ga hw (if_pos rfl)
  refine ⟨_, _, ?_, by rw [eh]; exact P3, rfl, rfl⟩
  rw [eh]
  exact (s1.trans s2 (fun _ z => z) (fun _ z => z.elim)).trans (Stp.set _ P2.r3) (fun _ z => z) (fun _ z => .inr z)
/-- frames.take() -/
theorem take_none {e : Nat} (he : 3 ≤ e) {o : Ow} {h : Mem} {F : Nat} {p : Pool} (P : PoolAt o h F p) (nz : ∃ f : Nat, p.cs[f]? = some 0) {Q : Val → Mem → Prop} {X : XQ}
    (q : ∀ (f : Nat) (o' : Ow) (h' : Mem) (p' : Pool), p.cs[f]? = some 0 → Stp (fun r => r = .ct F ∨ r = .sl F) o o' h h' → PoolAt o' h' F p' → p'.cs = p.cs.set f 1 → p'.ws = p.ws.set f (List.replicate 8 0) → Q (.int f) h') : (callF Γ e "Frames.take" [.ref F, .non] h).W Q X := by
  obtain ⟨d, rfl⟩ : ∃ d, e = d + 1 := ⟨e - 1, by omega⟩
  rw [c_Frames_take]
  obtain ⟨f, f1, f2⟩ := first_zero p.cs nz
  have hf : f < p.cs.length := (List.getElem?_eq_some_iff.mp f1).1
  have hfa : f < p.as.length := by rw [P.la]; exact hf
  simp only [W_fin, s_Frames_take]
  simp [P.ob, P.ct]
  refine scan_ok P f1 f2 ?_
  obtain ⟨o', p', t1, t2, t3, t4⟩ := took P hf (w := List.replicate 8 0) (by simp) [Ob.lst [.int 0]] rfl
  have g1 : ∀ b, (h.set p.ca b)[F]? = some (.ins "Frames" [("own_counts", .ref p.ca), ("own_stored", .ref p.sa)]) := fun b => get_set_ne P.ob P.nF.symm
  have g2 : ∀ b, (h.set p.ca b)[p.sa]? = some (Ob.lst (p.as.map .ref)) := fun b => get_set_ne P.sl P.nS
  have g3 : ∀ b m, (h.set p.ca b ++ m)[F]? = some (.ins "Frames" [("own_counts", .ref p.ca), ("own_stored", .ref p.sa)]) := fun b m => get_app _ (g1 b)
  have g4 : ∀ b m, (h.set p.ca b ++ m)[p.sa]? = some (Ob.lst (p.as.map .ref)) := fun b m => get_app _ (g2 b)
  have gn : ∀ b x, (h.set p.ca b ++ [x])[h.length]? = some x := fun b x => by
    have : h.length = (h.set p.ca b).length := by simp
    rw [this]
    exact get_new _ _
  simp [P.ob, P.ct, ixN_lit, hf, hfa, g1, g2, g3, g4, gn]
  have := q f o' _ p' f1 t1 t2 t3 t4
  refine ⟨by decide, by decide, ?_⟩
  simpa [List.map_set, List.replicate] using this
theorem words_ok {e : Nat} (he : 2 ≤ e) {h : Mem} {a : Nat} {w : List Int} (ha : h[a]? = some (.lst (w.map .int))) (hl : w.length ≤ 96) (hw : ∀ x ∈ w, 0 ≤ x ∧ x ≤ 65535) {Q : Val → Mem → Prop} {X : XQ} (q : ∀ m, Q (.bl true) (h ++ m)) : (callF Γ e "all_words" [.ref a] h).W Q X := by
  obtain ⟨d, rfl⟩ : ∃ d, e = d + 1 := ⟨e - 1, by omega⟩
  rw [c_all_words]
  simp only [W_fin, s_all_words]
  simp [ha, wipeE]
  have e1 : w.length = (w.map Val.int).length := by simp
  rw [e1]
  refine lc_lst (fun i acc h' => h' = h ∧ acc = List.replicate i (Val.bl true)) ⟨rfl, rfl⟩ (fun i acc h' _ hI => by rw [hI.1]; exact ha) ?_ ?_
  · rintro i x acc h' hx ⟨rfl, rfl⟩
    rw [List.getElem?_map] at hx
    cases hc : w[i]? with
    | none => rw [hc] at hx; cases hx
    | some c =>
      rw [hc] at hx
      cases hx
      obtain ⟨c1, c2⟩ := hw c (List.mem_of_getElem? hc)
      have hi : i < w.length := (List.getElem?_eq_some_iff.mp hc).1
      simp [whole_ok (show 1 ≤ d by omega), c1, c2]
      exact ⟨Nat.lt_of_lt_of_le (by omega : i < 96) (by decide), (List.replicate_succ' ..).symm⟩
  · rintro acc h' ⟨rfl, rfl⟩
    simp
    refine ⟨Nat.le_trans hl (by decide), ?_⟩
    have hb : ∀ n : Nat, blsOf (List.replicate n (Val.bl true)) = some (List.replicate n true) := fun n => by
      induction n with
      | zero => rfl
      | succ n ih => simp [List.replicate_succ, blsOf, ih]
    have gn : (h' ++ [Ob.lst (List.replicate w.length (Val.bl true))])[h'.length]? = some (Ob.lst (List.replicate w.length (Val.bl true))) := get_new _ _
    simp [biRun, gn, hb]
    exact q _
theorem words_check {e : Nat} (he : 3 ≤ e) {h : Mem} {a : Nat} {w : List Int} (n : Val) (ha : h[a]? = some (.lst (w.map .int))) (hl : w.length = 8) (hw : ∀ x ∈ w, 0 ≤ x ∧ x ≤ 65535) {Q : Val → Mem → Prop} {X : XQ} (q : ∀ m, Q .non (h ++ m)) : (callF Γ e "check_words" [n, .ref a, .int 8, .int 8] h).W Q X := by
  obtain ⟨d, rfl⟩ : ∃ d, e = d + 1 := ⟨e - 1, by omega⟩
  rw [c_check_words]
  simp only [W_fin, s_check_words]
  simp [ha, subTy, hl]
  refine words_ok (by omega) ha (by omega) hw fun m => ?_
  simp
  exact q m
theorem Stp.app (R : Ro → Prop) (o : Ow) (h m : Mem) : Stp R o o h (h ++ m) := ⟨by simp, fun _ _ => rfl, fun x hx _ => List.getElem?_append_left hx⟩
/-- frames.take(words) -/
theorem take_list {e : Nat} (he : 4 ≤ e) {o : Ow} {h : Mem} {F : Nat} {p : Pool} (P : PoolAt o h F p) (nz : ∃ f : Nat, p.cs[f]? = some 0) {a : Nat} {w : List Int} (ha : h[a]? = some (.lst (w.map .int))) (hoa : o a = .oth) (hl : w.length = 8) (hw : ∀ x ∈ w, 0 ≤ x ∧ x ≤ 65535) {Q : Val → Mem → Prop} {X : XQ}
    (q : ∀ (f : Nat) (o' : Ow) (h' : Mem) (p' : Pool), p.cs[f]? = some 0 → Stp (fun r => r = .ct F ∨ r = .sl F) o o' h h' → PoolAt o' h' F p' → p'.cs = p.cs.set f 1 → p'.ws = p.ws.set f w → Q (.int f) h') : (callF Γ e "Frames.take" [.ref F, .ref a] h).W Q X := by
  obtain ⟨d, rfl⟩ : ∃ d, e = d + 1 := ⟨e - 1, by omega⟩
  rw [c_Frames_take]
  obtain ⟨f, f1, f2⟩ := first_zero p.cs nz
  have hf : f < p.cs.length := (List.getElem?_eq_some_iff.mp f1).1
  have hfa : f < p.as.length := by rw [P.la]; exact hf
  simp only [W_fin, s_Frames_take]
  simp
  refine words_check (by omega) _ ha hl hw fun m => ?_
  have s0 := Stp.app (fun _ => False) o h m
  have P0 := P.stp s0 (fun z => z) (fun z => z) (fun z => z) (fun _ z => z)
  have ha0 := s0.get ha hoa (fun z => z)
  simp [P0.ob, P0.ct]
  refine scan_ok P0 f1 f2 ?_
  obtain ⟨o', p', t1, t2, t3, t4⟩ := took P0 hf (w := w) hl [] rfl
  have g1 : ∀ b, ((h ++ m).set p.ca b)[F]? = some (.ins "Frames" [("own_counts", .ref p.ca), ("own_stored", .ref p.sa)]) := fun b => get_set_ne P0.ob P.nF.symm
  have g2 : ∀ b, ((h ++ m).set p.ca b)[p.sa]? = some (Ob.lst (p.as.map .ref)) := fun b => get_set_ne P0.sl P.nS
  have g3 : ∀ b m', ((h ++ m).set p.ca b ++ m')[F]? = some (.ins "Frames" [("own_counts", .ref p.ca), ("own_stored", .ref p.sa)]) := fun b m' => get_app _ (g1 b)
  have g4 : ∀ b m', ((h ++ m).set p.ca b ++ m')[p.sa]? = some (Ob.lst (p.as.map .ref)) := fun b m' => get_app _ (g2 b)
  have ga : ∀ b, ((h ++ m).set p.ca b)[a]? = some (Ob.lst (w.map .int)) := fun b => get_set_ne ha0 fun e => by
    have := P.r2
    rw [e, hoa] at this
    cases this
  simp [P0.ob, P0.ct, ixN_lit, hf, hfa, g1, g2, g3, g4, ga, hl]
  have := q f o' _ p' f1 (s0.trans t1 (fun _ z => z.elim) (fun _ z => z)) t2 t3 t4
  refine ⟨by decide, ?_⟩
  simpa [List.map_set] using this
/-! ### spaces -/
def oV : Option Nat → Val
  | none => .non
  | some f => .int f
structure Row where
  S : Nat
  pa : Nat
  w : Nat
  F : Nat
  ps : List (Option Nat)
  ws : List Int
/-- a space, open -/
structure SpaceAt (o : Ow) (h : Mem) (r : Nat) (x : Row) : Prop where
  ob : h[x.S]? = some (.ins "Space" [("own_frames", .ref x.F), ("own_places", .ref x.pa), ("own_closed", .bl false)])
  pl : h[x.pa]? = some (.lst (x.ps.map oV))
  r1 : o x.S = .spc r
  r2 : o x.pa = .plc r
  lim : x.ps.length ≤ 16
theorem SpaceAt.stp {R : Ro → Prop} {o o' : Ow} {h h' : Mem} {r : Nat} {x : Row} (P : SpaceAt o h r x) (s : Stp R o o' h h') (n1 : ¬ R (.spc r)) (n2 : ¬ R (.plc r)) : SpaceAt o' h' r x :=
  ⟨s.get P.ob P.r1 n1, s.get P.pl P.r2 n2, s.role P.ob P.r1, s.role P.pl P.r2, P.lim⟩
theorem open_ok {e : Nat} (he : 1 ≤ e) {o : Ow} {h : Mem} {r : Nat} {x : Row} (P : SpaceAt o h r x) : callF Γ e "Space.own_check_open" [.ref x.S] h = .ok .non h := by
  obtain ⟨d, rfl⟩ : ∃ d, e = d + 1 := ⟨e - 1, by omega⟩
  rw [c_Space_own_check_open]
  refine W_eq ?_
  simp only [W_fin, s_Space_own_check_open]
  simp [P.ob]
theorem addr_ok {e : Nat} (he : 3 ≤ e) {o : Ow} {h : Mem} {r : Nat} {x : Row} (P : SpaceAt o h r x) {i : Int} (h0 : 0 ≤ i) (h1 : i < 8 * x.ps.length) : callF Γ e "Space.own_check_address" [.ref x.S, .int i] h = .ok .non h := by
  obtain ⟨d, rfl⟩ : ∃ d, e = d + 2 := ⟨e - 2, by omega⟩
  have : callF Γ (d + 1) "Space.own_has_address" [.ref x.S, .int i] h = .ok (.bl true) h := by
    rw [c_Space_own_has_address]
    refine W_eq ?_
    simp only [W_fin, s_Space_own_has_address]
    simp [P.ob, P.pl, whole_ok (show 1 ≤ d by omega)]
    refine ⟨mul_ok (by omega), h0, by omega⟩
  rw [c_Space_own_check_address]
  refine W_eq ?_
  simp only [W_fin, s_Space_own_check_address]
  simp [P.ob, this]
theorem pages_ok {e : Nat} (he : 1 ≤ e) {o : Ow} {h : Mem} {r : Nat} {x : Row} (P : SpaceAt o h r x) : callF Γ e "Space.pages" [.ref x.S] h = .ok (.int x.ps.length) h := by
  obtain ⟨d, rfl⟩ : ∃ d, e = d + 1 := ⟨e - 1, by omega⟩
  rw [c_Space_pages]
  refine W_eq ?_
  simp only [W_fin, s_Space_pages]
  simp [P.ob, P.pl]
/-- the words that a space shows -/
def shown (p : Pool) (ps : List (Option Nat)) : List Int := ps.flatMap fun o => match o with
  | none => List.replicate 8 0
  | some f => (p.ws[f]?).getD (List.replicate 8 0)
/-- every place is a frame in use -/
def Held (p : Pool) (ps : List (Option Nat)) : Prop := ∀ f, some f ∈ ps → ∃ c, p.cs[f]? = some c ∧ c ≠ 0
end K04
set_option Elab.async false
set_option linter.all false
set_option maxRecDepth 100000
set_option maxHeartbeats 1000000
namespace K04
open Mp PySem L2
/-! ### reading -/
def chunk (p : Pool) : Option Nat → List Int
  | none => List.replicate 8 0
  | some f => (p.ws[f]?).getD (List.replicate 8 0)
theorem shown_eq (p : Pool) (ps : List (Option Nat)) : shown p ps = ps.flatMap (chunk p) := by
  unfold shown
  congr 1
theorem chunk_len {o : Ow} {h : Mem} {F : Nat} {p : Pool} (P : PoolAt o h F p) (q : Option Nat) : (chunk p q).length = 8 := by
  cases q with
  | none => simp [chunk]
  | some f =>
    show ((p.ws[f]?).getD (List.replicate 8 0)).length = 8
    cases e : p.ws[f]? with
    | none => rfl
    | some w =>
      have hf : f < p.cs.length := by rw [← P.lw]; exact (List.getElem?_eq_some_iff.mp e).1
      obtain ⟨a, w', _, e2, _, e4, _⟩ := P.at_ hf
      rw [e] at e2
      cases e2
      exact e4
theorem chunks_get {g : Option Nat → List Int} (hg : ∀ o, (g o).length = 8) : ∀ (ps : List (Option Nat)) (k i : Nat), i < 8 → (ps.flatMap g)[8 * k + i]? = (ps[k]?).bind fun o => (g o)[i]?
  | [], k, i, _ => by simp
  | q :: ps, k, i, hi => by
    rw [List.flatMap_cons]
    cases k with
    | zero =>
      rw [List.getElem?_append_left (by rw [hg]; omega)]
      simp
    | succ k =>
      rw [List.getElem?_append_right (by rw [hg]; omega), hg]
      have : 8 * (k + 1) + i - 8 = 8 * k + i := by omega
      rw [this, chunks_get hg ps k i hi]
      simp
theorem chunks_len {g : Option Nat → List Int} (hg : ∀ o, (g o).length = 8) : ∀ (ps : List (Option Nat)), (ps.flatMap g).length = 8 * ps.length
  | [] => by simp
  | q :: ps => by
    rw [List.flatMap_cons, List.length_append, hg, chunks_len hg ps, List.length_cons]
    omega
section
variable {o : Ow} {h : Mem} {r : Nat} {x : Row} {p : Pool}
theorem read_ok {e : Nat} (he : 6 ≤ e) (S : SpaceAt o h r x) (P : PoolAt o h x.F p) (H : Held p x.ps) {i : Nat} {v : Int} (hv : (shown p x.ps)[i]? = some v) : callF Γ e "Space.read" [.ref x.S, .int i] h = .ok (.int v) h := by
  obtain ⟨d, rfl⟩ : ∃ d, e = d + 2 := ⟨e - 2, by omega⟩
  have hc := chunk_len P
  rw [shown_eq] at hv
  have hl : i < 8 * x.ps.length := by
    rw [← chunks_len hc]
    exact (List.getElem?_eq_some_iff.mp hv).1
  obtain ⟨k, j, hj, rfl⟩ : ∃ k j, j < 8 ∧ i = 8 * k + j := ⟨i / 8, i % 8, by omega, by omega⟩
  rw [chunks_get hc _ _ _ hj] at hv
  have key : callF Γ (d + 1) "Space.own_word_at" [.ref x.S, .int (8 * k + j : Nat)] h = .ok (.int v) h := by
    rw [c_Space_own_word_at]
    refine W_eq ?_
    simp only [W_fin, s_Space_own_word_at]
    have e1 : (8 * (k : Int) + (j : Int)) / 8 = (k : Int) := by omega
    have e2 : (8 * (k : Int) + (j : Int)) % 8 = (j : Int) := by omega
    have e3 := addr_ok (show 3 ≤ d by omega) S (i := 8 * (k : Int) + j) (by omega) (by omega)
    simp [S.ob, S.pl, e3, open_ok (show 1 ≤ d by omega) S, e1, e2, Mp.atI_nat]
    cases q : x.ps[k]? with
    | none => rw [q] at hv; cases hv
    | some u =>
      rw [q] at hv
      simp only [Option.bind_some] at hv
      cases u with
      | none =>
        have hv : (List.replicate 8 (0 : Int))[j]? = some v := hv
        rw [List.getElem?_replicate, if_pos hj] at hv
        cases hv
        simp [oV]
      | some f =>
        obtain ⟨c, hc1, hc2⟩ := H f (List.mem_of_getElem? q)
        obtain ⟨a, w, e3, e4, e5, e6, e7⟩ := P.at_ (List.getElem?_eq_some_iff.mp hc1).1
        have hv : ((p.ws[f]?).getD (List.replicate 8 0))[j]? = some v := hv
        rw [e4] at hv
        simp [oV, P.ob, peek_ok (show 4 ≤ d by omega) P hc1 hc2 e4 hv]
  rw [c_Space_read]
  refine W_eq ?_
  simp only [W_fin, s_Space_read]
  rw [show ((8 * k + j : Nat) : Int) = 8 * (k : Int) + j from by omega] at key ⊢
  simp [S.ob, key]
/-- new objects are of no role -/
def nO (o : Ow) (n : Nat) : Ow := fun y => if y < n then o y else .oth
theorem contents_ok {e : Nat} (he : 5 ≤ e) (S : SpaceAt o h r x) (P : PoolAt o h x.F p) (H : Held p x.ps) {Q : Val → Mem → Prop} {X : XQ}
    (q : ∀ (o' : Ow) (h' : Mem) (a : Nat), Stp (fun _ => False) o o' h h' → h.length ≤ a → h'[a]? = some (Ob.lst ((shown p x.ps).map .int)) → o' a = .oth → Q (.ref a) h') : (callF Γ e "Space.contents" [.ref x.S] h).W Q X := by
  obtain ⟨d, rfl⟩ : ∃ d, e = d + 1 := ⟨e - 1, by omega⟩
  rw [c_Space_contents]
  simp only [W_fin, s_Space_contents]
  have g1 : ∀ m, (h ++ m)[x.S]? = some (.ins "Space" [("own_frames", .ref x.F), ("own_places", .ref x.pa), ("own_closed", .bl false)]) := fun m => get_app _ S.ob
  have g2 : ∀ m, (h ++ m)[x.pa]? = some (Ob.lst (x.ps.map oV)) := fun m => get_app _ S.pl
  simp [S.ob, open_ok (show 1 ≤ d by omega) S, g1, g2]
  have e1 : x.ps.length = (x.ps.map oV).length := by simp
  rw [e1]
  have st : ∀ h', h.length ≤ h'.length → (∀ y, y < h.length → h'[y]? = h[y]?) → Stp (fun _ => False) o (nO o h.length) h h' := fun h' a b => ⟨a, fun y hy => if_pos hy, fun y hy _ => b y hy⟩
  refine for_lst (fun i ρ h' => h.length + 1 ≤ h'.length ∧ (∀ y, y < h.length → h'[y]? = h[y]?) ∧ h'[h.length]? = some (Ob.lst ((shown p (x.ps.take i)).map .int)) ∧ ∃ z, ρ = [some (.ref x.S), some (.ref h.length), z]) ?_ ?_ ?_ ?_
  · exact ⟨by simp, fun y hy => List.getElem?_append_left hy, by simp [shown], _, rfl⟩
  · rintro i ρ h' _ ⟨a1, a2, a3, _⟩
    exact (st h' (by omega) a2).get S.pl S.r2 (fun z => z)
  · rintro i v ρ h' hx ⟨a1, a2, a3, z, rfl⟩
    have s' := st h' (by omega) a2
    have S' := S.stp s' (fun z => z) (fun z => z)
    have P' := P.stp s' (fun z => z) (fun z => z) (fun z => z) (fun _ z => z)
    rw [List.getElem?_map] at hx
    cases hu : x.ps[i]? with
    | none => rw [hu] at hx; cases hx
    | some u =>
      rw [hu] at hx
      cases hx
      have hi : i < x.ps.length := (List.getElem?_eq_some_iff.mp hu).1
      have et : x.ps.take (i + 1) = x.ps.take i ++ [u] := by
        rw [List.take_succ, hu]
        rfl
      have el : (shown p (x.ps.take i)).length = 8 * i := by
        rw [shown_eq, chunks_len (chunk_len P), List.length_take]
        omega
      have es : shown p (x.ps.take (i + 1)) = shown p (x.ps.take i) ++ chunk p u := by
        rw [shown_eq, shown_eq, et, List.flatMap_append]
        simp
      have hlim := S.lim
      have b1 : ∀ m, (h' ++ m)[h.length]? = some (Ob.lst ((shown p (x.ps.take i)).map .int)) := fun m => get_app _ a3
      have n1 : ∀ y, (h' ++ [y])[h'.length]? = some y := fun y => get_new _ _
      have n2 : ∀ y z, (h' ++ [y, z])[h'.length + 1]? = some z := fun y z => by simp
      -- the list of words, longer by a page
      have fin1 : ∀ m : Mem, h.length + 1 ≤ ((h' ++ m).set h.length (Ob.lst ((shown p (x.ps.take i)).map Val.int ++ (chunk p u).map Val.int))).length ∧ (∀ y, y < h.length → ((h' ++ m).set h.length (Ob.lst ((shown p (x.ps.take i)).map Val.int ++ (chunk p u).map Val.int)))[y]? = h[y]?) ∧ ((h' ++ m).set h.length (Ob.lst ((shown p (x.ps.take i)).map Val.int ++ (chunk p u).map Val.int)))[h.length]? = some (Ob.lst ((shown p (x.ps.take (i + 1))).map .int)) := fun m => by
        refine ⟨by simp; omega, fun y hy => ?_, ?_⟩
        · rw [List.getElem?_set_ne (by omega), List.getElem?_append_left (by omega), a2 y hy]
        · rw [get_set (b1 m), es, List.map_append]
      cases u with
      | none =>
        simp [oV, n1, n2, b1, el]
        refine ⟨by decide, by decide, by rw [sizeLine_eq]; omega, ?_⟩
        have := fin1 [Ob.lst [.int 0], Ob.lst ((List.replicate 8 (0 : Int)).map .int)]
        simpa [chunk, List.replicate] using this
      | some f =>
        obtain ⟨c, hc1, hc2⟩ := H f (List.mem_of_getElem? hu)
        obtain ⟨a, w, e3, e4, e5, e6, e7⟩ := P.at_ (List.getElem?_eq_some_iff.mp hc1).1
        simp [oV, S'.ob, P'.ob, page_ok (show 4 ≤ d by omega) P' hc1 hc2 e4, n1, b1, el, e6]
        refine ⟨by rw [sizeLine_eq]; omega, ?_⟩
        have := fin1 [Ob.lst (w.map .int)]
        simpa [chunk, e4] using this
  · rintro ρ h' ⟨a1, a2, a3, z, rfl⟩
    simp
    rw [List.length_map, List.take_length] at a3
    exact q _ h' _ (st h' (by omega) a2) (Nat.le_refl _) a3 (if_neg (by omega))
end
end K04
set_option Elab.async false
set_option linter.all false
set_option maxRecDepth 100000
set_option maxHeartbeats 1000000
namespace K04
open Mp PySem L2
/-! ### writing -/
def InW (p : Pool) : Prop := ∀ (f : Nat) (w : List Int), p.ws[f]? = some w → ∀ x ∈ w, 0 ≤ x ∧ x ≤ 65535
/-- the roles that a write may touch -/
def RW_ (F r : Nat) (q : Ro) : Prop := q = .ct F ∨ q = .sl F ∨ q = .plc r ∨ ∃ i, q = .cell F i
/-- the counts behind a write: page k goes from u to the frame f -/
def Cnt (p : Pool) (u : Option Nat) (f : Nat) (cs : List Int) : Prop := cs.length = p.cs.length ∧ ∀ (i : Nat) (c : Int), p.cs[i]? = some c → cs[i]? = some (c - (if u = some i then 1 else 0) + (if i = f then 1 else 0))
structure Wrote (o : Ow) (h : Mem) (r : Nat) (x : Row) (p : Pool) (k j : Nat) (v : Int) (u : Option Nat) (o' : Ow) (h' : Mem) (x' : Row) (p' : Pool) (f : Nat) : Prop where
  stp : Stp (RW_ x.F r) o o' h h'
  sp : SpaceAt o' h' r x'
  po : PoolAt o' h' x.F p'
  ex : x' = { x with ps := x.ps.set k (some f) }
  ws : p'.ws = p.ws.set f ((chunk p u).set j v)
  cs : Cnt p u f p'.cs
  fr : p.cs[f]? = some 0 ∨ (u = some f ∧ p.cs[f]? = some 1)
section
variable {o : Ow} {h : Mem} {r : Nat} {x : Row} {p : Pool}
theorem SpaceAt.put (S : SpaceAt o h r x) (k : Nat) (v : Option Nat) : SpaceAt o (h.set x.pa (Ob.lst ((x.ps.set k v).map oV))) r { x with ps := x.ps.set k v } where
  ob := get_set_ne S.ob fun e => by have := S.r1; rw [← e, S.r2] at this; cases this
  pl := get_set S.pl
  r1 := S.r1
  r2 := S.r2
  lim := by show (x.ps.set k v).length ≤ 16; rw [List.length_set]; exact S.lim
theorem write_ok {e : Nat} (he : 6 ≤ e) (S : SpaceAt o h r x) (P : PoolAt o h x.F p) (H : Held p x.ps) (hW : InW p) {k j : Nat} {v : Int} {u : Option Nat} (hk : x.ps[k]? = some u) (hj : j < 8) (v0 : 0 ≤ v) (v1 : v ≤ 65535)
    (av : (∀ g, u = some g → p.cs[g]? ≠ some 1) → ∃ f : Nat, p.cs[f]? = some 0) (hpos : ∀ (g : Nat) (c : Int), p.cs[g]? = some c → 0 ≤ c) {Q : Val → Mem → Prop} {X : XQ}
    (q : ∀ o' h' x' p' f, Wrote o h r x p k j v u o' h' x' p' f → Q .non h') : (callF Γ e "Space.write" [.ref x.S, .int (8 * k + j : Int), .int v] h).W Q X := by
  obtain ⟨d, rfl⟩ : ∃ d, e = d + 1 := ⟨e - 1, by omega⟩
  rw [c_Space_write]
  simp only [W_fin, s_Space_write]
  have hkl : k < x.ps.length := (List.getElem?_eq_some_iff.mp hk).1
  have e1 : (8 * (k : Int) + (j : Int)) / 8 = (k : Int) := by omega
  have e2 : (8 * (k : Int) + (j : Int)) % 8 = (j : Int) := by omega
  have e3 := addr_ok (show 3 ≤ d by omega) S (i := 8 * (k : Int) + j) (by omega) (by omega)
  have npF : x.pa ≠ x.F := fun e => by have := S.r2; rw [e, P.r1] at this; cases this
  have npC : x.pa ≠ p.ca := fun e => by have := S.r2; rw [e, P.r2] at this; cases this
  simp [S.ob, S.pl, e3, check_ok (show 2 ≤ d by omega) _ v 0 65535 h v0 v1, open_ok (show 1 ≤ d by omega) S, e1, e2, Mp.atI_nat, hk]
  cases u with
  | none =>
    simp [oV, S.ob, P.ob]
    refine take_none (by omega) P (av fun g e => by cases e) fun f o1 h1 p1 f1 s1 P1 c1 w1 => ?_
    have S1 := S.stp s1 (fun z => by rcases z with z | z <;> cases z) (fun z => by rcases z with z | z <;> cases z)
    have S2 := S1.put k (some f)
    have P2 := P1.stp (Stp.set (o := o1) (h := h1) (a := x.pa) (Ob.lst ((x.ps.set k (some f)).map oV)) S1.r2) (fun z => by cases z) (fun z => by cases z) (fun z => by cases z) (fun _ z => by cases z)
    have em : Ob.lst ((x.ps.set k (some f)).map oV) = Ob.lst ((x.ps.map oV).set k (Val.int f)) := by rw [List.map_set]; rfl
    rw [em] at S2 P2
    have hfl : f < p.cs.length := (List.getElem?_eq_some_iff.mp f1).1
    have c2 : p1.cs[f]? = some 1 := by rw [c1]; simp [hfl]
    obtain ⟨a, w, a1, a2, a3, a4, a5⟩ := P2.at_ (f := f) (by rw [c1]; simpa using hfl)
    have ew : w = List.replicate 8 0 := by
      rw [w1] at a2
      rw [List.getElem?_set_self (by rw [P.lw]; exact hfl)] at a2
      exact (Option.some.inj a2).symm
    have po := poke_ok (show 4 ≤ d by omega) P2 (x := v) (i := j) c2 a1 a2 hj v0 v1
    have gS : ∀ b, (h1.set x.pa b)[x.S]? = some (.ins "Space" [("own_frames", .ref x.F), ("own_places", .ref x.pa), ("own_closed", .bl false)]) := fun b => get_set_ne S1.ob fun e => by have := S.r1; rw [← e, S.r2] at this; cases this
    have gP : ∀ b, (h1.set x.pa b)[x.pa]? = some b := fun b => get_set S1.pl
    simp [S1.ob, S1.pl, ixN_lit, hkl, gS, gP, P2.ob, Mp.atI_nat, po]
    suffices fin1 : Wrote o h r x p k j v none o1 ((h1.set x.pa (Ob.lst ((x.ps.map oV).set k (Val.int f)))).set a (Ob.lst ((w.set j v).map .int))) { x with ps := x.ps.set k (some f) } { p1 with ws := p1.ws.set f (w.set j v) } f by
      have := q _ _ _ _ _ fin1
      simpa [List.map_set] using this
    refine ⟨?_, ?_, ?_, rfl, ?_, ?_, .inl f1⟩
    · exact ((s1.trans (Stp.set _ S1.r2) (R := RW_ x.F r) (fun q z => by rcases z with z | z; exact .inl z; exact .inr (.inl z)) (fun q z => .inr (.inr (.inl z)))).trans (Stp.set _ a5) (fun _ z => z) (fun q z => .inr (.inr (.inr ⟨f, z⟩))))
    · exact S2.stp (Stp.set _ a5) (fun z => by cases z) (fun z => by cases z)
    · exact P2.cel a1 (by rw [List.length_set]; exact a4)
    · show p1.ws.set f (w.set j v) = _
      rw [w1, ew, List.set_set]
      rfl
    · refine ⟨by show p1.cs.length = _; rw [c1]; simp, fun i c hc => ?_⟩
      show p1.cs[i]? = _
      rw [c1]
      by_cases hi : i = f
      · subst hi
        rw [f1] at hc
        cases hc
        simp [hfl]
      · rw [List.getElem?_set_ne (Ne.symm hi), hc]
        simp [hi]
  | some g =>
    obtain ⟨c, hc1, hc2⟩ := H g (List.mem_of_getElem? hk)
    have hgl : g < p.cs.length := (List.getElem?_eq_some_iff.mp hc1).1
    obtain ⟨ag, wg, b1, b2, b3, b4, b5⟩ := P.at_ hgl
    have ech : chunk p (some g) = wg := by
      show (p.ws[g]?).getD _ = wg
      rw [b2]
      rfl
    simp [oV, S.ob, P.ob, holds_ok (show 4 ≤ d by omega) P hc1]
    refine ⟨fun hc3 => ?_, fun hc3 => ?_⟩
    · have hz : ∃ f : Nat, p.cs[f]? = some 0 := av fun g' e => by
        cases e
        rw [hc1]
        intro z
        cases z
        omega
      simp [page_ok (show 4 ≤ d by omega) P hc1 hc2 b2]
      have s0 := Stp.new (fun _ => False) o h (Ob.lst (wg.map .int)) .oth
      have P0 := P.stp s0 (fun z => z) (fun z => z) (fun z => z) (fun _ z => z)
      have S0 := S.stp s0 (fun z => z) (fun z => z)
      refine take_list (o := upO o h.length .oth) (by omega) P0 hz (get_new _ _) (upO_at _ _ _) b4 (hW g wg b2) fun f o1 h1 p1 f1 s1 P1 c1 w1 => ?_
      have S1 := S0.stp s1 (fun z => by rcases z with z | z <;> cases z) (fun z => by rcases z with z | z <;> cases z)
      have S2 := S1.put k (some f)
      have P2 := P1.stp (Stp.set (o := o1) (h := h1) (a := x.pa) (Ob.lst ((x.ps.set k (some f)).map oV)) S1.r2) (fun z => by cases z) (fun z => by cases z) (fun z => by cases z) (fun _ z => by cases z)
      have em : Ob.lst ((x.ps.set k (some f)).map oV) = Ob.lst ((x.ps.map oV).set k (Val.int f)) := by rw [List.map_set]; rfl
      rw [em] at S2 P2
      have hfl : f < p.cs.length := (List.getElem?_eq_some_iff.mp f1).1
      have nfg : f ≠ g := fun e => by
        rw [e, hc1] at f1
        cases f1
        omega
      have cg : p1.cs[g]? = some c := by rw [c1, List.getElem?_set_ne nfg]; exact hc1
      have dr := drop_ok (show 4 ≤ d by omega) P2 cg (by omega)
      have P3 := P2.cts (cs := p1.cs.set g (c - 1)) (by simp)
      have S3 := S2.stp (Stp.set (Ob.lst ((p1.cs.set g (c - 1)).map .int)) P2.r2) (fun z => by cases z) (fun z => by cases z)
      obtain ⟨a, w, a1, a2, a3, a4, a5⟩ := P3.at_ (f := f) (by show f < (p1.cs.set g (c - 1)).length; rw [List.length_set, c1]; simpa using hfl)
      have ew : w = wg := by
        have a2 : p1.ws[f]? = some w := a2
        rw [w1, List.getElem?_set_self (by rw [P.lw]; exact hfl)] at a2
        exact (Option.some.inj a2).symm
      have c3 : ({ p1 with cs := p1.cs.set g (c - 1) } : Pool).cs[f]? = some 1 := by
        show (p1.cs.set g (c - 1))[f]? = some 1
        rw [List.getElem?_set_ne (Ne.symm nfg), c1]
        simp [hfl]
      have po := poke_ok (show 4 ≤ d by omega) P3 (x := v) (i := j) c3 a1 a2 hj v0 v1
      have gS : ∀ b, (h1.set x.pa b)[x.S]? = some (.ins "Space" [("own_frames", .ref x.F), ("own_places", .ref x.pa), ("own_closed", .bl false)]) := fun b => get_set_ne S1.ob fun e => by have := S.r1; rw [← e, S.r2] at this; cases this
      have gP : ∀ b, (h1.set x.pa b)[x.pa]? = some b := fun b => get_set S1.pl
      have g3S := S3.ob
      have g3P := S3.pl
      have g3F := P3.ob
      simp only [List.map_set] at dr po g3S g3P g3F
      simp [S1.ob, S1.pl, ixN_lit, hkl, gS, gP, P2.ob, Mp.atI_nat, dr, g3S, g3P, g3F, oV, po]
      suffices fin1 : Wrote o h r x p k j v (some g) o1 (((h1.set x.pa (Ob.lst ((x.ps.map oV).set k (Val.int f)))).set p1.ca (Ob.lst ((p1.cs.set g (c - 1)).map .int))).set a (Ob.lst ((w.set j v).map .int))) { x with ps := x.ps.set k (some f) } { p1 with cs := p1.cs.set g (c - 1), ws := p1.ws.set f (w.set j v) } f by
        have := q _ _ _ _ _ fin1
        simpa [List.map_set] using this
      refine ⟨?_, ?_, ?_, rfl, ?_, ?_, .inl f1⟩
      · have t1 : Stp (RW_ x.F r) o o1 h h1 := s0.trans s1 (fun _ z => z.elim) (fun q z => by rcases z with z | z; exact .inl z; exact .inr (.inl z))
        have t2 := t1.trans (Stp.set (Ob.lst ((x.ps.map oV).set k (Val.int f))) S1.r2) (R := RW_ x.F r) (fun _ z => z) (fun q z => .inr (.inr (.inl z)))
        have t3 := t2.trans (Stp.set (Ob.lst ((p1.cs.set g (c - 1)).map .int)) P2.r2) (R := RW_ x.F r) (fun _ z => z) (fun q z => .inl z)
        exact t3.trans (Stp.set _ a5) (fun _ z => z) (fun q z => .inr (.inr (.inr ⟨f, z⟩)))
      · exact S3.stp (Stp.set _ a5) (fun z => by cases z) (fun z => by cases z)
      · exact P3.cel a1 (by rw [List.length_set]; exact a4)
      · show p1.ws.set f (w.set j v) = _
        rw [w1, ew, List.set_set, ech]
      · refine ⟨by show (p1.cs.set g (c - 1)).length = _; rw [List.length_set, c1]; simp, fun i c' hc' => ?_⟩
        show (p1.cs.set g (c - 1))[i]? = _
        by_cases hi : i = g
        · subst hi
          rw [hc1] at hc'
          cases hc'
          rw [List.getElem?_set_self (by rw [c1]; simpa using hgl)]
          simp [Ne.symm nfg]
        · rw [List.getElem?_set_ne (Ne.symm hi), c1]
          by_cases hi2 : i = f
          · subst hi2
            rw [f1] at hc'
            cases hc'
            simp [hfl, Ne.symm hi]
          · rw [List.getElem?_set_ne (Ne.symm hi2), hc']
            simp [hi2, Ne.symm hi]
    · have hc4 : c = 1 := by have := hpos g c hc1; omega
      subst hc4
      have po := poke_ok (show 4 ≤ d by omega) P (x := v) (i := j) hc1 b1 b2 hj v0 v1
      simp [S.ob, S.pl, P.ob, Mp.atI_nat, hk, oV, po]
      have es : x.ps.set k (some g) = x.ps := by
        apply List.ext_getElem?
        intro i
        by_cases hi : k = i
        · subst hi
          rw [List.getElem?_set_self hkl, hk]
        · rw [List.getElem?_set_ne hi]
      suffices fin1 : Wrote o h r x p k j v (some g) o (h.set ag (Ob.lst ((wg.set j v).map .int))) x { p with ws := p.ws.set g (wg.set j v) } g by
        have := q _ _ _ _ _ fin1
        simpa [List.map_set] using this
      refine ⟨?_, ?_, ?_, ?_, ?_, ?_, .inr ⟨rfl, hc1⟩⟩
      · exact (Stp.set _ b5).mono fun q z => .inr (.inr (.inr ⟨g, z⟩))
      · exact S.stp (Stp.set _ b5) (fun z => by cases z) (fun z => by cases z)
      · exact P.cel b1 (by rw [List.length_set]; exact b4)
      · rw [es]
      · show p.ws.set g (wg.set j v) = _
        rw [ech]
      · refine ⟨rfl, fun i c hc => ?_⟩
        show p.cs[i]? = _
        rw [hc]
        by_cases hi : i = g
        · subst hi
          simp
        · simp [hi, Ne.symm hi]
end
end K04
set_option Elab.async false
set_option linter.all false
set_option maxRecDepth 100000
set_option maxHeartbeats 1000000
namespace K04
open Mp PySem L2
/-! ### a new space -/
theorem space_init {e : Nat} (he : 3 ≤ e) {h : Mem} {n F k : Nat} (hn : h[n]? = some (.ins "Space" [])) (k1 : 1 ≤ k) (k2 : k ≤ 16) {Q : Val → Mem → Prop} {X : XQ}
    (q : ∀ h', h'.length = h.length + 2 → (∀ y, y < h.length → y ≠ n → h'[y]? = h[y]?) → h'[n]? = some (.ins "Space" [("own_frames", .ref F), ("own_places", .ref (h.length + 1)), ("own_closed", .bl false)]) → h'[h.length + 1]? = some (Ob.lst (List.replicate k .non)) → Q .non h') :
    (callF Γ e "Space.__init__" [.ref n, .ref F, .int k] h).W Q X := by
  obtain ⟨d, rfl⟩ : ∃ d, e = d + 1 := ⟨e - 1, by omega⟩
  rw [c_Space___init__]
  simp only [W_fin, s_Space___init__]
  have g1 : ∀ b, (h.set n b)[n]? = some b := fun b => get_set hn
  have g2 : ∀ b m, (h.set n b ++ m)[n]? = some b := fun b m => get_app _ (g1 b)
  have g3 : ∀ b m b', ((h.set n b ++ m).set n b')[n]? = some b' := fun b m b' => get_set (g2 b m)
  have l1 : ∀ b, (h.set n b).length = h.length := fun b => by simp
  have g4 : ∀ b y, (h.set n b ++ [y])[h.length]? = some y := fun b y => by rw [← l1 b]; exact get_new _ _
  simp [check_ok (show 2 ≤ d by omega) _ (k : Int) 1 16 h (by omega) (by omega), hn, g1, g2, g3, g4]
  have hk : k ≤ sizeLine := by rw [sizeLine_eq]; omega
  refine ⟨by decide, ⟨by omega, hk⟩, hk, ?_⟩
  have hnl : n < h.length := lt_of_get hn
  refine q _ (by simp) (fun y hy hyn => ?_) ?_ ?_
  · rw [List.getElem?_set_ne (Ne.symm hyn), List.getElem?_append_left (by simpa using hy), List.getElem?_set_ne (Ne.symm hyn)]
  · rw [List.getElem?_set_self (by simp; omega)]
  · rw [List.getElem?_set_ne (by omega), List.getElem?_append_right (by simp)]
    simp
section
variable {o : Ow} {h : Mem} {r : Nat} {x : Row} {p : Pool}
/-- the twin's counts -/
def More (p : Pool) (ps : List (Option Nat)) (cs : List Int) : Prop := cs.length = p.cs.length ∧ ∀ (f : Nat) (c : Int), p.cs[f]? = some c → cs[f]? = some (c + (ps.count (some f) : Int))
theorem Stp.later {R : Ro → Prop} {o o' : Ow} {h h' : Mem} (s : Stp R o o' h h') {a : Nat} (ha : h.length ≤ a) (b : Ob) : Stp R o o' h (h'.set a b) := ⟨by rw [List.length_set]; exact s.len, s.own, fun y hy hr => by rw [List.getElem?_set_ne (by omega)]; exact s.keep y hy hr⟩
/-- ahead of turn i of fork's loop; n: the twin's address -/
def ForkI (o o1 : Ow) (h : Mem) (x : Row) (p : Pool) (n i : Nat) (ρ : Mp.Env) (h' : Mem) : Prop := ∃ cs', More p (x.ps.take i) cs' ∧ Stp (· = .ct x.F) o o1 h h' ∧ h'[n]? = some (.ins "Space" [("own_frames", .ref x.F), ("own_places", .ref (n + 2)), ("own_closed", .bl false)]) ∧ h'[n + 2]? = some (Ob.lst ((x.ps.take i).map oV ++ List.replicate (x.ps.length - i) .non)) ∧ PoolAt o1 h' x.F { p with cs := cs' } ∧ ∃ y z, ρ = [some (.ref x.S), some (.ref n), y, z]
theorem fork_ok {e : Nat} (he : 6 ≤ e) (S : SpaceAt o h r x) (P : PoolAt o h x.F p) (H : Held p x.ps) (hpos : ∀ (g : Nat) (c : Int), p.cs[g]? = some c → 0 ≤ c) (hl : 1 ≤ x.ps.length) {Q : Val → Mem → Prop} {X : XQ}
    (q : ∀ (o' : Ow) (h' : Mem) (x' : Row) (p' : Pool), Stp (· = .ct x.F) o o' h h' → h.length ≤ x'.S → SpaceAt o' h' x'.S x' → x'.F = x.F → x'.ps = x.ps → PoolAt o' h' x.F p' → p'.ws = p.ws → More p x.ps p'.cs → Q (.ref x'.S) h') : (callF Γ e "Space.fork" [.ref x.S] h).W Q X := by
  obtain ⟨d, rfl⟩ : ∃ d, e = d + 1 := ⟨e - 1, by omega⟩
  rw [c_Space_fork]
  simp only [W_fin, s_Space_fork]
  simp [S.ob, S.pl, open_ok (show 1 ≤ d by omega) S]
  refine space_init (by omega) (get_new _ _) hl S.lim fun h1 l1 k1 b1 b2 => ?_
  simp at l1 k1 b2 b1
  -- roles
  have s1 : Stp (· = .ct x.F) o (fun y => if y = h.length then .spc h.length else if y = h.length + 2 then .plc h.length else o y) h h1 := ⟨by omega, fun y hy => by rw [if_neg (by omega), if_neg (by omega)], fun y hy _ => by rw [k1 y (by omega) (by omega), List.getElem?_append_left hy]⟩
  generalize ho1 : (fun y => if y = h.length then Ro.spc h.length else if y = h.length + 2 then .plc h.length else o y) = o1 at s1
  have r1 : o1 h.length = .spc h.length := by rw [← ho1]; exact if_pos rfl
  have r2 : o1 (h.length + 2) = .plc h.length := by rw [← ho1]; simp
  have S1 := S.stp s1 (fun z => by cases z) (fun z => by cases z)
  have P1 : PoolAt o1 h1 x.F p := by
    refine P.stp (R := fun _ => False) ⟨s1.len, s1.own, fun y hy _ => by rw [k1 y (by omega) (by omega), List.getElem?_append_left hy]⟩ (fun z => z) (fun z => z) (fun z => z) (fun _ z => z)
  simp [S1.ob, S1.pl]
  have e1 : x.ps.length = (x.ps.map oV).length := by simp
  rw [e1]
  refine for_enum (ForkI o o1 h x p h.length) ?_ ?_ ?_ ?_
  · exact ⟨p.cs, ⟨rfl, fun f c hc => by simpa using hc⟩, s1, b1, by simpa using b2, P1, _, _, rfl⟩
  · rintro i ρ h' _ ⟨cs', _, s2, _⟩
    exact s2.get S.pl S.r2 (fun z => by cases z)
  · rintro i v ρ h' hx ⟨cs', m1, s2, b3, b4, P2, y, z, rfl⟩
    rw [List.getElem?_map] at hx
    cases hu : x.ps[i]? with
    | none => rw [hu] at hx; cases hx
    | some u =>
      rw [hu] at hx
      cases hx
      have hi : i < x.ps.length := (List.getElem?_eq_some_iff.mp hu).1
      have et : x.ps.take (i + 1) = x.ps.take i ++ [u] := by
        rw [List.take_succ, hu]
        rfl
      have er : List.replicate (x.ps.length - i) Val.non = Val.non :: List.replicate (x.ps.length - (i + 1)) Val.non := by
        rw [← List.replicate_succ]
        congr 1
        omega
      cases u with
      | none =>
        simp [oV]
        refine ⟨cs', ⟨m1.1, fun f c hc => ?_⟩, s2, b3, ?_, P2, _, _, rfl⟩
        · rw [et, List.count_append, m1.2 f c hc]
          simp
        · rw [b4, et, er]
          simp [oV]
      | some g =>
        obtain ⟨c, hc1, hc2⟩ := H g (List.mem_of_getElem? hu)
        have hp := hpos g c hc1
        have c2 := m1.2 g c hc1
        have S2 := S.stp s2 (fun z => by cases z) (fun z => by cases z)
        have sh := share_ok (show 4 ≤ d by omega) P2 c2 (by omega)
        have P3 := P2.cts (cs := cs'.set g (c + ((x.ps.take i).count (some g) : Int) + 1)) (by simp)
        have t3 := s2.trans (Stp.set (Ob.lst ((cs'.set g (c + ((x.ps.take i).count (some g) : Int) + 1)).map .int)) P2.r2) (R := (· = .ct x.F)) (fun _ z => z) (fun _ z => z)
        have nc1 : p.ca ≠ h.length := fun e => by have := P2.r2; rw [show ({ p with cs := cs' } : Pool).ca = p.ca from rfl, e, r1] at this; cases this
        have nc2 : p.ca ≠ h.length + 2 := fun e => by have := P2.r2; rw [show ({ p with cs := cs' } : Pool).ca = p.ca from rfl, e, r2] at this; cases this
        have np1 : h.length + 2 ≠ h.length := by omega
        have gT : ∀ b, (h'.set p.ca b)[h.length]? = some (.ins "Space" [("own_frames", .ref x.F), ("own_places", .ref (h.length + 2)), ("own_closed", .bl false)]) := fun b => get_set_ne b3 nc1
        have gL : ∀ b, (h'.set p.ca b)[h.length + 2]? = some (Ob.lst ((x.ps.take i).map oV ++ List.replicate (x.ps.length - i) .non)) := fun b => get_set_ne b4 nc2
        simp only [List.map_set] at sh
        have li : i < min i x.ps.length + (x.ps.length - i) := by omega
        simp [oV, S2.ob, P2.ob, sh, gT, gL, ixN_lit, hi, li]
        have ei : (x.ps.take i).length = i := by rw [List.length_take]; omega
        refine ⟨cs'.set g (c + ((x.ps.take i).count (some g) : Int) + 1), ⟨by rw [List.length_set]; exact m1.1, fun f c' hc' => ?_⟩, ?_, ?_, ?_, ?_, _, _, rfl⟩
        · rw [et, List.count_append]
          by_cases hf : f = g
          · subst hf
            rw [hc1] at hc'
            cases hc'
            rw [List.getElem?_set_self (by rw [m1.1]; exact (List.getElem?_eq_some_iff.mp hc1).1)]
            simp
            omega
          · rw [List.getElem?_set_ne (Ne.symm hf), m1.2 f c' hc']
            simp [Ne.symm hf]
        · have := t3.later (a := h.length + 2) (by omega) (Ob.lst ((List.take i (List.map oV x.ps) ++ List.replicate (x.ps.length - i) Val.non).set i (Val.int g)))
          simpa [List.map_set] using this
        · exact get_set_ne (gT _) (by omega)
        · rw [get_set (gL _), et, er, List.map_append, ← List.map_take]
          congr 2
          rw [List.set_append_right _ _ (by rw [List.length_map, ei]; exact Nat.le_refl _), List.length_map, ei, Nat.sub_self]
          simp [oV]
        · have := P3.stp (Stp.set (o := o1) (Ob.lst ((List.take i (List.map oV x.ps) ++ List.replicate (x.ps.length - i) Val.non).set i (Val.int g))) r2) (fun z => by cases z) (fun z => by cases z) (fun z => by cases z) (fun _ z => by cases z)
          simpa [List.map_set] using this
  · rintro ρ h' ⟨cs', m1, s2, b3, b4, P2, y, z, rfl⟩
    simp only [List.length_map, List.take_length, Nat.sub_self, List.replicate_zero, List.append_nil] at b4 m1
    simp
    have := q o1 h' { S := h.length, pa := h.length + 2, w := 0, F := x.F, ps := x.ps, ws := [] } { p with cs := cs' } s2 (Nat.le_refl _) ⟨b3, b4, ?_, ?_, S.lim⟩ rfl rfl P2 rfl m1
    · exact this
    · exact r1
    · exact r2
end
end K04
set_option Elab.async false
set_option linter.all false
set_option maxRecDepth 100000
set_option maxHeartbeats 1000000
namespace K04
open Mp PySem L2
section
variable {o : Ow} {h : Mem} {r : Nat} {x : Row} {p : Pool}
def Less (p : Pool) (ps : List (Option Nat)) (cs : List Int) : Prop := cs.length = p.cs.length ∧ ∀ (f : Nat) (c : Int), p.cs[f]? = some c → cs[f]? = some (c - (ps.count (some f) : Int))
def CloseI (o : Ow) (h : Mem) (x : Row) (p : Pool) (i : Nat) (ρ : Mp.Env) (h' : Mem) : Prop := ∃ cs', Less p (x.ps.take i) cs' ∧ Stp (· = .ct x.F) o o h h' ∧ h'.length = h.length ∧ PoolAt o h' x.F { p with cs := cs' } ∧ ∃ y, ρ = [some (.ref x.S), y]
theorem close_ok {e : Nat} (he : 6 ≤ e) (S : SpaceAt o h r x) (P : PoolAt o h x.F p) (hge : ∀ f, some f ∈ x.ps → ∃ c, p.cs[f]? = some c ∧ (x.ps.count (some f) : Int) ≤ c) {Q : Val → Mem → Prop} {X : XQ}
    (q : ∀ (h' : Mem) (p' : Pool), Stp (fun q => q = .ct x.F ∨ q = .spc r) o o h h' → PoolAt o h' x.F p' → p'.ws = p.ws → Less p x.ps p'.cs → Q .non h') : (callF Γ e "Space.close" [.ref x.S] h).W Q X := by
  obtain ⟨d, rfl⟩ : ∃ d, e = d + 1 := ⟨e - 1, by omega⟩
  rw [c_Space_close]
  simp only [W_fin, s_Space_close]
  simp [S.ob, S.pl, open_ok (show 1 ≤ d by omega) S]
  have e1 : x.ps.length = (x.ps.map oV).length := by simp
  rw [e1]
  refine for_lst (CloseI o h x p) ?_ ?_ ?_ ?_
  · exact ⟨p.cs, ⟨rfl, fun f c hc => by simpa using hc⟩, Stp.refl _ _ _, rfl, P, _, rfl⟩
  · rintro i ρ h' _ ⟨cs', _, s2, _⟩
    exact s2.get S.pl S.r2 (fun z => by cases z)
  · rintro i v ρ h' hx ⟨cs', m1, s2, l2, P2, y, rfl⟩
    rw [List.getElem?_map] at hx
    cases hu : x.ps[i]? with
    | none => rw [hu] at hx; cases hx
    | some u =>
      rw [hu] at hx
      cases hx
      have hi : i < x.ps.length := (List.getElem?_eq_some_iff.mp hu).1
      have et : x.ps.take (i + 1) = x.ps.take i ++ [u] := by
        rw [List.take_succ, hu]
        rfl
      cases u with
      | none =>
        simp [oV]
        refine ⟨cs', ⟨m1.1, fun f c hc => ?_⟩, s2, l2, P2, _, rfl⟩
        rw [et, List.count_append, m1.2 f c hc]
        simp
      | some g =>
        obtain ⟨c, hc1, hc2⟩ := hge g (List.mem_of_getElem? hu)
        have c2 := m1.2 g c hc1
        have hlt : (x.ps.take i).count (some g) + 1 ≤ x.ps.count (some g) := by
          have : (x.ps.take (i + 1)).count (some g) ≤ x.ps.count (some g) := (List.take_sublist _ _).count_le _
          rw [et, List.count_append] at this
          simpa using this
        have S2 := S.stp s2 (fun z => by cases z) (fun z => by cases z)
        have dr := drop_ok (show 4 ≤ d by omega) P2 c2 (by omega)
        have P3 := P2.cts (cs := cs'.set g (c - ((x.ps.take i).count (some g) : Int) - 1)) (by simp)
        have t3 := s2.trans (Stp.set (Ob.lst ((cs'.set g (c - ((x.ps.take i).count (some g) : Int) - 1)).map .int)) P2.r2) (R := (· = .ct x.F)) (fun _ z => z) (fun _ z => z)
        simp [oV, S2.ob, P2.ob, dr]
        refine ⟨cs'.set g (c - ((x.ps.take i).count (some g) : Int) - 1), ⟨by rw [List.length_set]; exact m1.1, fun f c' hc' => ?_⟩, ?_, ?_, ?_, _, rfl⟩
        · rw [et, List.count_append]
          by_cases hf : f = g
          · subst hf
            rw [hc1] at hc'
            cases hc'
            rw [List.getElem?_set_self (by rw [m1.1]; exact (List.getElem?_eq_some_iff.mp hc1).1)]
            simp
            omega
          · rw [List.getElem?_set_ne (Ne.symm hf), m1.2 f c' hc']
            simp [Ne.symm hf]
        · simpa [List.map_set] using t3
        · simpa using l2
        · simpa [List.map_set] using P3
  · rintro ρ h' ⟨cs', m1, s2, l2, P2, y, rfl⟩
    simp only [List.length_map, List.take_length] at m1
    have S2 := S.stp s2 (fun z => by cases z) (fun z => by cases z)
    have hn : x.S < h'.length := lt_of_get S2.ob
    have g1 : ∀ m, (h' ++ m)[x.S]? = some (.ins "Space" [("own_frames", .ref x.F), ("own_places", .ref x.pa), ("own_closed", .bl false)]) := fun m => get_app _ S2.ob
    have g2 : ∀ m, (h' ++ m)[x.pa]? = some (Ob.lst (x.ps.map oV)) := fun m => get_app _ S2.pl
    have g3 : ∀ m b, ((h' ++ m).set x.S b)[x.S]? = some b := fun m b => get_set (g1 m)
    have n1 : ∀ y, (h' ++ [y])[h'.length]? = some y := fun y => get_new _ _
    have hk : x.ps.length ≤ sizeLine := by rw [sizeLine_eq]; have := S.lim; omega
    have hk2 := S.lim
    simp [S2.ob, S2.pl, g1, g2, g3, n1]
    refine ⟨by decide, ⟨by omega, hk⟩, hk, q _ { p with cs := cs' } ?_ ?_ rfl m1⟩
    · exact ((s2.trans (Stp.app (fun _ => False) o h' _) (R := fun q => q = .ct x.F ∨ q = .spc r) (fun _ z => .inl z) (fun _ z => z.elim))).trans (Stp.set _ S.r1) (fun _ z => z) (fun _ z => .inr z)
    · exact (P2.stp (Stp.app (fun _ => False) o h' _) (fun z => z) (fun z => z) (fun z => z) (fun _ z => z)).stp (Stp.set _ S.r1) (fun z => by cases z) (fun z => by cases z) (fun z => by cases z) (fun _ z => by cases z)
end
end K04
set_option Elab.async false
set_option linter.all false
set_option maxRecDepth 100000
set_option maxHeartbeats 1000000
namespace K04
open Mp PySem L2
section
variable {o : Ow} {h : Mem} {F : Nat} {p : Pool}
def freeL (cs : List Int) (n : Nat) : List Nat := (List.range n).filter fun j => cs[j]? == some 0
theorem free_ok {e : Nat} (he : 1 ≤ e) (P : PoolAt o h F p) : callF Γ e "Frames.free" [.ref F] h = .ok (.ref h.length) (h ++ [Ob.lst ((freeL p.cs p.cs.length).map fun j => Val.int (j : Nat))]) := by
  obtain ⟨d, rfl⟩ : ∃ d, e = d + 1 := ⟨e - 1, by omega⟩
  rw [c_Frames_free]
  refine W_eq ?_
  simp only [W_fin, s_Frames_free]
  simp [P.ob, P.ct, wipeE]
  have e1 : p.cs.length = (p.cs.map Val.int).length := by simp
  have lim := P.lim
  have hlen : ∀ n, (freeL p.cs n).length ≤ n := fun n => by
    unfold freeL
    have := List.length_filter_le (fun j => p.cs[j]? == some 0) (List.range n)
    simpa using this
  conv in (lcF _ _ _ _ _ _ _ _ _) => rw [e1]
  refine lc_enum (fun i acc h' => h' = h ∧ i ≤ p.cs.length ∧ acc = (freeL p.cs i).map fun j => Val.int (j : Nat)) ⟨rfl, Nat.zero_le _, rfl⟩ (fun i acc h' _ hI => by rw [hI.1]; exact P.ct) ?_ ?_
  · rintro i v acc h' hx ⟨rfl, hi, rfl⟩
    rw [List.getElem?_map] at hx
    cases hc : p.cs[i]? with
    | none => rw [hc] at hx; cases hx
    | some c =>
      rw [hc] at hx
      cases hx
      have hil : i < p.cs.length := (List.getElem?_eq_some_iff.mp hc).1
      have hs : freeL p.cs (i + 1) = freeL p.cs i ++ (if c = 0 then [i] else []) := by
        unfold freeL
        rw [List.range_succ, List.filter_append]
        congr 1
        by_cases h0 : c = 0
        · simp [List.filter, hc, h0]
        · have : (c == 0) = false := by simpa using h0
          simp [List.filter, hc, h0, this]
      by_cases h0 : c = 0
      · have hL := hlen i
        simp [h0]
        refine ⟨by rw [sizeLine_eq]; omega, by omega, ?_⟩
        rw [hs, if_pos h0]
        simp
      · simp [h0]
        refine ⟨by omega, ?_⟩
        rw [hs, if_neg h0]
        simp
  · rintro acc h' ⟨rfl, hi, rfl⟩
    have hL := hlen p.cs.length
    simp
    rw [sizeLine_eq]
    omega
end
end K04
set_option Elab.async false
set_option linter.all false
set_option maxRecDepth 100000
set_option maxHeartbeats 1000000
namespace K04
open Mp PySem L2
/-- ahead of turn i of the frames' comprehension; L: the memory's length at its start -/
def FrI (h2 : Mem) (i : Nat) (acc : List Val) (h' : Mem) : Prop := h'.length = h2.length + 2 * i ∧ (∀ y, y < h2.length → h'[y]? = h2[y]?) ∧ acc = (List.range i).map (fun j => Val.ref (h2.length + 2 * j + 1)) ∧ ∀ j, j < i → h'[h2.length + 2 * j + 1]? = some (Ob.lst (List.replicate 8 (.int 0)))
theorem frames_init {e : Nat} (he : 3 ≤ e) {h : Mem} {n m : Nat} (hn : h[n]? = some (.ins "Frames" [])) (m1 : 1 ≤ m) (m2 : m ≤ 96) {Q : Val → Mem → Prop} {X : XQ}
    (q : ∀ h', h.length ≤ h'.length → (∀ y, y < h.length → y ≠ n → h'[y]? = h[y]?) → h'[n]? = some (.ins "Frames" [("own_counts", .ref (h.length + 1)), ("own_stored", .ref (h.length + 2 + 2 * m))]) → h'[h.length + 1]? = some (Ob.lst (List.replicate m (.int 0))) →
      h'[h.length + 2 + 2 * m]? = some (Ob.lst ((List.range m).map fun j => Val.ref (h.length + 2 + 2 * j + 1))) → (∀ j, j < m → h'[h.length + 2 + 2 * j + 1]? = some (Ob.lst (List.replicate 8 (.int 0)))) → Q .non h') :
    (callF Γ e "Frames.__init__" [.ref n, .int m] h).W Q X := by
  obtain ⟨d, rfl⟩ : ∃ d, e = d + 1 := ⟨e - 1, by omega⟩
  rw [c_Frames___init__]
  simp only [W_fin, s_Frames___init__]
  have g1 : ∀ mm, (h ++ mm)[n]? = some (.ins "Frames" []) := fun mm => get_app _ hn
  have n1 : ∀ y, (h ++ [y])[h.length]? = some y := fun y => get_new _ _
  simp [check_ok (show 2 ≤ d by omega) _ (m : Int) 1 96 h (by omega) (by omega), hn, g1, n1, small62, wipeE]
  have hk : m ≤ sizeLine := by rw [sizeLine_eq]; omega
  have hnl : n < h.length := lt_of_get hn
  refine ⟨by decide, ⟨by omega, hk⟩, hk, by omega, ?_⟩
  generalize eh2 : (h ++ [Ob.lst [Val.int 0], Ob.lst (List.replicate m (Val.int 0))]).set n (Ob.ins "Frames" [("own_counts", Val.ref (List.length h + 1))]) = h2
  have l2 : h2.length = h.length + 2 := by rw [← eh2]; simp
  have a1 : h2[n]? = some (Ob.ins "Frames" [("own_counts", Val.ref (List.length h + 1))]) := by rw [← eh2]; exact get_set (g1 _)
  have a2 : h2[h.length + 1]? = some (Ob.lst (List.replicate m (Val.int 0))) := by
    rw [← eh2, List.getElem?_set_ne (by omega), List.getElem?_append_right (by omega)]
    simp
  have a3 : ∀ y, y < h.length → y ≠ n → h2[y]? = h[y]? := fun y hy hyn => by
    rw [← eh2, List.getElem?_set_ne (Ne.symm hyn), List.getElem?_append_left hy]
  refine lc_rng (FrI h2) ⟨rfl, fun _ _ => rfl, rfl, fun j hj => by omega⟩ ?_ ?_
  · rintro i acc h' hi ⟨b1, b2, rfl, b4⟩
    have n2 : ∀ y, (h' ++ [y])[h'.length]? = some y := fun y => get_new _ _
    simp [n2]
    refine ⟨by decide, by decide, by rw [sizeLine_eq]; omega, by simp; omega, fun y hy => ?_, ?_, fun j hj => ?_⟩
    · rw [List.getElem?_append_left (by omega), b2 y hy]
    · rw [List.range_succ, List.map_append, b1]
      rfl
    · by_cases hji : j = i
      · subst hji
        rw [← b1, List.getElem?_append_right (by omega)]
        simp
      · rw [List.getElem?_append_left (by omega)]
        exact b4 j (by omega)
  · rintro acc h' ⟨b1, b2, rfl, b4⟩
    have c1 : h'[n]? = some (Ob.ins "Frames" [("own_counts", Val.ref (List.length h + 1))]) := by rw [b2 n (by omega)]; exact a1
    have c2 : ∀ mm, (h' ++ mm)[n]? = some (Ob.ins "Frames" [("own_counts", Val.ref (List.length h + 1))]) := fun mm => get_app _ c1
    simp [c2, hk]
    have el : h'.length = h.length + 2 + 2 * m := by omega
    refine q _ (by simp; omega) (fun y hy hyn => ?_) ?_ ?_ ?_ (fun j hj => ?_)
    · rw [List.getElem?_set_ne (Ne.symm hyn), List.getElem?_append_left (by omega), b2 y (by omega), a3 y hy hyn]
    · rw [get_set (c2 _), el]
    · rw [List.getElem?_set_ne (by omega), List.getElem?_append_left (by omega), b2 _ (by omega), a2]
    · rw [List.getElem?_set_ne (by omega), ← el, get_new, l2]
    · rw [List.getElem?_set_ne (by omega), List.getElem?_append_left (by omega), ← l2]
      exact b4 j hj
end K04
set_option Elab.async false
set_option linter.all false
set_option maxRecDepth 100000
set_option maxHeartbeats 1000000
namespace K04
open Mp PySem L2
/-- roles behind Frames(m), made at L -/
def oFr (o : Ow) (L m : Nat) : Ow := fun y => if y < L then o y else if y = L then .fr L else if y = L + 2 then .ct L else if y = L + 3 + 2 * m then .sl L else if (y - (L + 4)) % 2 = 0 ∧ L + 4 ≤ y then .cell L ((y - (L + 4)) / 2) else .oth
theorem frames_new {e : Nat} (he : 3 ≤ e) (o : Ow) {h : Mem} {m : Nat} (m1 : 1 ≤ m) (m2 : m ≤ 96) {Q : Val → Mem → Prop} {X : XQ}
    (q : ∀ (o' : Ow) (h' : Mem) (p : Pool), Stp (fun _ => False) o o' h h' → PoolAt o' h' h.length p → p.cs = List.replicate m 0 → p.ws = List.replicate m (List.replicate 8 0) → Q .non h') :
    (callF Γ e "Frames.__init__" [.ref h.length, .int m] (h ++ [.ins "Frames" []])).W Q X := by
  refine frames_init he (get_new _ _) m1 m2 fun h' l k b1 b2 b3 b4 => ?_
  simp only [List.length_append, List.length_singleton] at l k b1 b2 b3 b4
  have e2 : h.length + 1 + 1 = h.length + 2 := rfl
  have e3 : h.length + 1 + 2 + 2 * m = h.length + 3 + 2 * m := by omega
  have e4 : ∀ j, h.length + 1 + 2 + 2 * j + 1 = h.length + 4 + 2 * j := fun j => by omega
  rw [e3] at b1 b3
  simp only [e4] at b3 b4
  refine q (oFr o h.length m) h' { ca := h.length + 2, sa := h.length + 3 + 2 * m, cs := List.replicate m 0, as := (List.range m).map fun j => h.length + 4 + 2 * j, ws := List.replicate m (List.replicate 8 0) } ⟨by omega, fun y hy => if_pos hy, fun y hy _ => ?_⟩ ?_ rfl rfl
  · rw [k y (by omega) (by omega), List.getElem?_append_left hy]
  · refine ⟨b1, ?_, ?_, by simp, by simp, fun i a w h1 h2 => ?_, ?_, ?_, ?_, by simpa using m2⟩
    · simpa using b2
    · rw [b3, List.map_map]
      rfl
    · have h1 : ((List.range m).map fun j => h.length + 4 + 2 * j)[i]? = some a := h1
      have h2 : (List.replicate m (List.replicate 8 (0 : Int)))[i]? = some w := h2
      have hi : i < m := by
        have := (List.getElem?_eq_some_iff.mp h2).1
        simpa using this
      rw [List.getElem?_map, List.getElem?_range hi] at h1
      rw [List.getElem?_replicate, if_pos hi] at h2
      cases h1
      cases h2
      refine ⟨by simpa using b4 i hi, by simp, ?_⟩
      show oFr o h.length m (h.length + 4 + 2 * i) = _
      unfold oFr
      rw [if_neg (by omega), if_neg (by omega), if_neg (by omega), if_neg (by omega), if_pos (by omega)]
      congr 1
      omega
    · unfold oFr
      rw [if_neg (by omega), if_pos rfl]
    · show oFr o h.length m (h.length + 2) = _
      unfold oFr
      rw [if_neg (by omega), if_neg (by omega), if_pos rfl]
    · show oFr o h.length m (h.length + 3 + 2 * m) = _
      unfold oFr
      rw [if_neg (by omega), if_neg (by omega), if_neg (by omega), if_pos rfl]
end K04
set_option Elab.async false
set_option linter.all false
set_option maxRecDepth 100000
set_option maxHeartbeats 1000000
namespace K04
open Mp PySem L2
/-! ### the plain part of a write -/
theorem shown_get {o : Ow} {h : Mem} {F : Nat} {p : Pool} (P : PoolAt o h F p) (ps : List (Option Nat)) (k j : Nat) (hj : j < 8) : (shown p ps)[8 * k + j]? = (ps[k]?).bind fun u => (chunk p u)[j]? := by
  rw [shown_eq, chunks_get (chunk_len P) _ _ _ hj]
/-- places that do not hold f show the same -/
theorem shown_other {p p' : Pool} {f : Nat} {w : List Int} (hw : p'.ws = p.ws.set f w) {ps : List (Option Nat)} (hf : some f ∉ ps) : shown p' ps = shown p ps := by
  rw [shown_eq, shown_eq]
  have : ∀ u ∈ ps, chunk p' u = chunk p u := fun u hu => by
    cases u with
    | none => rfl
    | some g =>
      have ne : f ≠ g := fun e => hf (by rw [e]; exact hu)
      show (p'.ws[g]?).getD _ = (p.ws[g]?).getD _
      rw [hw, List.getElem?_set_ne ne]
  induction ps with
  | nil => rfl
  | cons u r ih =>
    rw [List.flatMap_cons, List.flatMap_cons, this u List.mem_cons_self, ih (fun z => hf (List.mem_cons_of_mem _ z)) fun v hv => this v (List.mem_cons_of_mem _ hv)]
/-- the written space shows the word -/
theorem shown_write {o o' : Ow} {h h' : Mem} {F : Nat} {p p' : Pool} (P : PoolAt o h F p) (P' : PoolAt o' h' F p') {ps : List (Option Nat)} {k j f : Nat} {v : Int} {u : Option Nat} (hk : ps[k]? = some u) (hj : j < 8) (hf : f < p.cs.length) (hw : p'.ws = p.ws.set f ((chunk p u).set j v)) (hn : ∀ i, i ≠ k → ps[i]? ≠ some (some f)) :
    shown p' (ps.set k (some f)) = (shown p ps).set (8 * k + j) v := by
  have hkl : k < ps.length := (List.getElem?_eq_some_iff.mp hk).1
  have l1 : (shown p ps).length = 8 * ps.length := by rw [shown_eq, chunks_len (chunk_len P)]
  apply List.ext_getElem?
  intro i
  obtain ⟨a, b, hb, rfl⟩ : ∃ a b, b < 8 ∧ i = 8 * a + b := ⟨i / 8, i % 8, by omega, by omega⟩
  rw [shown_get P' _ _ _ hb]
  have hc : chunk p' (some f) = (chunk p u).set j v := by
    show (p'.ws[f]?).getD _ = _
    rw [hw, List.getElem?_set_self (by rw [P.lw]; exact hf)]
    rfl
  by_cases ha : k = a
  · subst ha
    rw [List.getElem?_set_self hkl, Option.bind_some, hc]
    by_cases hbj : j = b
    · subst hbj
      rw [List.getElem?_set_self (by rw [chunk_len P]; exact hj), List.getElem?_set_self (by rw [l1]; omega)]
    · rw [List.getElem?_set_ne hbj, List.getElem?_set_ne (by omega), shown_get P _ _ _ hb, hk]
      rfl
  · rw [List.getElem?_set_ne ha, List.getElem?_set_ne (by omega), shown_get P _ _ _ hb]
    cases e : ps[a]? with
    | none => rfl
    | some y =>
      rw [Option.bind_some, Option.bind_some]
      cases y with
      | none => rfl
      | some g =>
        have ne : f ≠ g := fun z => hn a (Ne.symm ha) (by rw [e, z])
        show ((p'.ws[g]?).getD _)[b]? = ((p.ws[g]?).getD _)[b]?
        rw [hw, List.getElem?_set_ne ne]
end K04
set_option Elab.async false
set_option linter.all false
set_option maxRecDepth 100000
set_option maxHeartbeats 1000000
namespace K04
open Mp PySem L2
/-! ### counting -/
def used (rs : List (Nat × Row)) (F : Nat) : List Nat := rs.flatMap fun z => if z.2.F = F then z.2.ps.filterMap id else []
theorem used_app (a b : List (Nat × Row)) (F : Nat) : used (a ++ b) F = used a F ++ used b F := by simp [used]
theorem used_cons (z : Nat × Row) (r : List (Nat × Row)) (F : Nat) : used (z :: r) F = (if z.2.F = F then z.2.ps.filterMap id else []) ++ used r F := by simp [used]
theorem used_nil (F : Nat) : used [] F = [] := rfl
theorem count_places (ps : List (Option Nat)) (f : Nat) : (ps.filterMap id).count f = ps.count (some f) := by
  induction ps with
  | nil => rfl
  | cons u r ih => cases u <;> simp [List.filterMap_cons, List.count_cons, ih]
theorem count_upd (v w : Option Nat) : ∀ (ps : List (Option Nat)) (k : Nat) (u : Option Nat), ps[k]? = some u → ((ps.set k v).count w : Int) = (ps.count w : Int) - (if u = w then 1 else 0) + (if v = w then 1 else 0)
  | [], k, u, h => by simp at h
  | a :: r, 0, u, h => by
    simp at h
    subst h
    simp only [List.set_cons_zero, List.count_cons, beq_iff_eq]
    split <;> split <;> omega
  | a :: r, k + 1, u, h => by
    have := count_upd v w r k u (by simpa using h)
    simp only [List.set_cons_succ, List.count_cons, beq_iff_eq]
    split <;> omega
theorem count_two {a : Option Nat} : ∀ (l : List (Option Nat)) (i k : Nat), i < k → l[i]? = some a → l[k]? = some a → 2 ≤ l.count a
  | [], i, k, _, h, _ => by simp at h
  | b :: r, 0, k + 1, _, h1, h2 => by
    simp at h1
    subst h1
    have : 1 ≤ r.count b := List.count_pos_iff.mpr (List.mem_of_getElem? (by simpa using h2))
    rw [List.count_cons_self]
    omega
  | b :: r, i + 1, k + 1, hi, h1, h2 => by
    have := count_two r i k (by omega) (by simpa using h1) (by simpa using h2)
    simp only [List.count_cons]
    omega
theorem count_two' {a : Option Nat} (l : List (Option Nat)) (i k : Nat) (hi : i ≠ k) (h1 : l[i]? = some a) (h2 : l[k]? = some a) : 2 ≤ l.count a := by
  rcases Nat.lt_or_gt_of_ne hi with z | z
  · exact count_two l i k z h1 h2
  · exact count_two l k i z h2 h1
theorem pigeon : ∀ (n : Nat) (L : List Nat), (∀ i, i < n → i ∈ L) → n ≤ L.length
  | 0, _, _ => Nat.zero_le _
  | n + 1, L, h => by
    have h1 := pigeon n (L.erase n) fun i hi => (List.mem_erase_of_ne (by omega)).mpr (h i (by omega))
    have h2 := List.length_erase_of_mem (h n (by omega))
    have h3 : 0 < L.length := List.length_pos_of_mem (h n (by omega))
    omega
theorem free_of {cs : List Int} {L : List Nat} (hl : L.length < cs.length) (cov : ∀ (f : Nat) (c : Int), cs[f]? = some c → c ≠ 0 → f ∈ L) : ∃ f : Nat, cs[f]? = some 0 := by
  apply Classical.byContradiction
  intro hn
  have := pigeon cs.length L fun i hi => by
    refine cov i cs[i] (List.getElem?_eq_getElem hi) fun z => hn ⟨i, ?_⟩
    rw [List.getElem?_eq_getElem hi, z]
  omega
/-! ### rows and pools together -/
structure RowAt (o : Ow) (h : Mem) (a : Nat) (x : Row) : Prop where
  sp : SpaceAt o h x.S x
  ob : h[a]? = some (.lst [.ref x.S, .ref x.w])
  wd : h[x.w]? = some (.lst (x.ws.map .int))
  r1 : o a = .row x.S
  r2 : o x.w = .wd x.S
theorem RowAt.stp {R : Ro → Prop} {o o' : Ow} {h h' : Mem} {a : Nat} {x : Row} (P : RowAt o h a x) (s : Stp R o o' h h') (n1 : ¬ R (.spc x.S)) (n2 : ¬ R (.plc x.S)) (n3 : ¬ R (.row x.S)) (n4 : ¬ R (.wd x.S)) : RowAt o' h' a x :=
  ⟨P.sp.stp s n1 n2, s.get P.ob P.r1 n3, s.get P.wd P.r2 n4, s.role P.ob P.r1, s.role P.wd P.r2⟩
structure Inv (o : Ow) (h : Mem) (Fs : List Nat) (pl : Nat → Pool) (rs : List (Nat × Row)) : Prop where
  st : St h
  r2 : o 2 = .st
  r1 : o 1 = .sc
  po : ∀ F ∈ Fs, PoolAt o h F (pl F)
  iw : ∀ F ∈ Fs, InW (pl F)
  ct : ∀ F ∈ Fs, ∀ (f : Nat) (c : Int), (pl F).cs[f]? = some c → c = ((used rs F).count f : Int)
  ro : ∀ z ∈ rs, RowAt o h z.1 z.2
  fs : ∀ z ∈ rs, z.2.F ∈ Fs
  ws : ∀ z ∈ rs, z.2.ws = shown (pl z.2.F) z.2.ps
  vl : ∀ z ∈ rs, ∀ f, some f ∈ z.2.ps → f < (pl z.2.F).cs.length
  ne : rs.Pairwise fun y z => y.2.S ≠ z.2.S
  one : ∀ z ∈ rs, 1 ≤ z.2.ps.length
/-- what touches no pool and no row -/
structure Ben (R : Ro → Prop) : Prop where
  fr : ∀ F, ¬ R (.fr F)
  ct : ∀ F, ¬ R (.ct F)
  sl : ∀ F, ¬ R (.sl F)
  cell : ∀ F i, ¬ R (.cell F i)
  row : ∀ r, ¬ R (.row r)
  spc : ∀ r, ¬ R (.spc r)
  plc : ∀ r, ¬ R (.plc r)
  wd : ∀ r, ¬ R (.wd r)
theorem ben_st : Ben (· = .st) := ⟨nofun, nofun, nofun, nofun, nofun, nofun, nofun, nofun⟩
theorem ben_ls : Ben (· = .ls) := ⟨nofun, nofun, nofun, nofun, nofun, nofun, nofun, nofun⟩
theorem ben_no : Ben (fun _ => False) := ⟨fun _ z => z, fun _ z => z, fun _ z => z, fun _ _ z => z, fun _ z => z, fun _ z => z, fun _ z => z, fun _ z => z⟩
theorem _root_.Mp.St.lt {h : Mem} (s : St h) : 3 ≤ h.length := by
  obtain ⟨ns, p, c, t, s, e, _⟩ := s.ex
  exact lt_of_get e
theorem _root_.Mp.St.stp {R : Ro → Prop} {o o' : Ow} {h h' : Mem} (s : St h) (k : Stp R o o' h h') (h2 : o 2 = .st) (h1 : o 1 = .sc) (n2 : ¬ R .st) (n1 : ¬ R .sc) : St h' := by
  obtain ⟨ns, p, c, t, s, e2, e1, hp, hc⟩ := s.ex
  exact ⟨ns, p, c, t, s, k.get e2 h2 n2, k.get e1 h1 n1, hp, hc⟩
section
variable {o o' : Ow} {h h' : Mem} {Fs : List Nat} {pl : Nat → Pool} {rs : List (Nat × Row)} {R : Ro → Prop}
theorem Inv.stp (I : Inv o h Fs pl rs) (s : Stp R o o' h h') (b : Ben R) (st : St h') : Inv o' h' Fs pl rs where
  st := st
  r2 := (s.own 2 (by have := I.st.lt; omega)).trans I.r2
  r1 := (s.own 1 (by have := I.st.lt; omega)).trans I.r1
  po := fun F hF => (I.po F hF).stp s (b.fr F) (b.ct F) (b.sl F) (b.cell F)
  iw := I.iw
  ct := I.ct
  ro := fun z hz => (I.ro z hz).stp s (b.spc _) (b.plc _) (b.row _) (b.wd _)
  fs := I.fs
  ws := I.ws
  vl := I.vl
  ne := I.ne
  one := I.one
theorem Inv.draw (I : Inv o h Fs pl rs) (d : Dr h h') : Inv o h' Fs pl rs := I.stp (Stp.draw d I.r2) ben_st d.st
theorem Inv.no (I : Inv o h Fs pl rs) (s : Stp (fun _ => False) o o' h h') : Inv o' h' Fs pl rs := I.stp s ben_no (I.st.stp s I.r2 I.r1 (fun z => z) fun z => z)
theorem Inv.nn (I : Inv o h Fs pl rs) {F : Nat} (hF : F ∈ Fs) : ∀ (g : Nat) (c : Int), (pl F).cs[g]? = some c → 0 ≤ c := fun g c e => by
  rw [I.ct F hF g c e]
  omega
theorem mem_used {z : Nat × Row} (hz : z ∈ rs) {f : Nat} (hf : some f ∈ z.2.ps) : f ∈ used rs z.2.F := by
  unfold used
  rw [List.mem_flatMap]
  refine ⟨z, hz, ?_⟩
  rw [if_pos rfl, List.mem_filterMap]
  exact ⟨some f, hf, rfl⟩
theorem Inv.held (I : Inv o h Fs pl rs) {z : Nat × Row} (hz : z ∈ rs) : Held (pl z.2.F) z.2.ps := fun f hf => by
  have hl := I.vl z hz f hf
  refine ⟨_, List.getElem?_eq_getElem hl, ?_⟩
  have := I.ct z.2.F (I.fs z hz) f _ (List.getElem?_eq_getElem hl)
  have h2 : 0 < (used rs z.2.F).count f := List.count_pos_iff.mpr (mem_used hz hf)
  omega
/-- room for all pages: a free frame where a write wants one -/
def pagesOf (rs : List (Nat × Row)) (F : Nat) : Nat := (rs.map fun z => if z.2.F = F then z.2.ps.length else 0).sum
theorem used_len (rs : List (Nat × Row)) (F : Nat) : (used rs F).length ≤ pagesOf rs F := by
  induction rs with
  | nil => exact Nat.le_refl _
  | cons z r ih =>
    rw [used_cons, List.length_append]
    simp only [pagesOf, List.map_cons, List.sum_cons] at ih ⊢
    have : (z.2.ps.filterMap id).length ≤ z.2.ps.length := List.length_filterMap_le _ _
    split <;> simp <;> omega
theorem filt_lt {ps : List (Option Nat)} (h : none ∈ ps) : (ps.filterMap id).length < ps.length := by
  induction ps with
  | nil => simp at h
  | cons u r ih =>
    cases u with
    | none =>
      have : (r.filterMap id).length ≤ r.length := List.length_filterMap_le _ _
      rw [List.filterMap_cons_none rfl, List.length_cons]
      omega
    | some f =>
      have := ih (by simpa using h)
      rw [List.filterMap_cons_some (f := id) (a := some f) (b := f) rfl, List.length_cons, List.length_cons]
      omega
theorem used_lt {rs : List (Nat × Row)} {z : Nat × Row} (hz : z ∈ rs) (hn : none ∈ z.2.ps) : (used rs z.2.F).length < pagesOf rs z.2.F := by
  induction rs with
  | nil => simp at hz
  | cons y r ih =>
    rw [used_cons, List.length_append]
    have h2 := used_len r z.2.F
    simp only [pagesOf, List.map_cons, List.sum_cons] at h2 ih ⊢
    rcases List.mem_cons.mp hz with e | e
    · subst e
      have := filt_lt hn
      rw [if_pos rfl, if_pos rfl]
      omega
    · have := ih e
      have : (y.2.ps.filterMap id).length ≤ y.2.ps.length := List.length_filterMap_le _ _
      split <;> simp <;> omega
theorem Inv.avail (I : Inv o h Fs pl rs) {z : Nat × Row} (hz : z ∈ rs) (room : pagesOf rs z.2.F ≤ (pl z.2.F).cs.length) {k : Nat} {u : Option Nat} (hk : z.2.ps[k]? = some u) (hu : ∀ g, u = some g → (pl z.2.F).cs[g]? ≠ some 1) : ∃ f : Nat, (pl z.2.F).cs[f]? = some 0 := by
  have cov : ∀ (f : Nat) (c : Int), (pl z.2.F).cs[f]? = some c → c ≠ 0 → f ∈ used rs z.2.F := fun f c e hc => by
    have := I.ct _ (I.fs z hz) f c e
    exact List.count_pos_iff.mp (by omega)
  have hL := used_len rs z.2.F
  cases u with
  | none =>
    have := used_lt hz (List.mem_of_getElem? hk)
    exact free_of (by omega) cov
  | some g =>
    have hgm := List.mem_of_getElem? hk
    have hg := I.vl z hz g hgm
    have e := List.getElem?_eq_getElem hg
    have hc := I.ct _ (I.fs z hz) g _ e
    have h1 := hu g rfl
    rw [e] at h1
    have hm := mem_used hz hgm
    have hp : 0 < (used rs z.2.F).count g := List.count_pos_iff.mpr hm
    have h2 : 2 ≤ (used rs z.2.F).count g := by
      rcases Nat.lt_or_ge ((used rs z.2.F).count g) 2 with q | q
      · exact absurd (by rw [hc]; congr 1; omega) h1
      · exact q
    have hl := List.length_erase_of_mem hm
    have hpos : 0 < (used rs z.2.F).length := List.length_pos_of_mem hm
    refine free_of (L := (used rs z.2.F).erase g) (by omega) fun f c e hc => ?_
    by_cases hf : f = g
    · subst hf
      apply List.count_pos_iff.mp
      rw [List.count_erase_self]
      omega
    · exact (List.mem_erase_of_ne hf).mpr (cov f c e hc)
end
end K04
set_option Elab.async false
set_option linter.all false
set_option maxRecDepth 100000
set_option maxHeartbeats 1000000
namespace K04
open Mp PySem L2
/-! ### the law's own defs -/
theorem _root_.Mp.St.app {h : Mem} (s : St h) (m : Mem) : St (h ++ m) := by
  obtain ⟨ns, p, c, t, s, e2, e1, hp, hc⟩ := s.ex
  exact ⟨ns, p, c, t, s, get_app _ e2, get_app _ e1, hp, hc⟩
def wordsOk (xs : List Val) : Bool := xs.all fun v => match v with
  | .int r => decide (0 ≤ r ∧ r ≤ 65535)
  | _ => false
theorem wordsOk_get {xs : List Val} (h : wordsOk xs = true) {i : Nat} {v : Val} (e : xs[i]? = some v) : ∃ r, v = .int r ∧ 0 ≤ r ∧ r ≤ 65535 := by
  have := List.all_eq_true.mp h v (List.mem_of_getElem? e)
  cases v <;> simp at this
  exact ⟨_, rfl, this⟩
theorem word_ok {e : Nat} (he : 4 ≤ e) {o : Ow} {h : Mem} (st : St h) (h2 : o 2 = .st) {Q : Val → Mem → Prop} {X : XQ}
    (q : ∀ (r : Int) (o' : Ow) (h' : Mem), 0 ≤ r → r ≤ 65535 → Stp (· = .st) o o' h h' → St h' → Q (.int r) h') : (callF Γ e "_law_word" [.ref 2] h).W Q X := by
  obtain ⟨d, rfl⟩ : ∃ d, e = d + 1 := ⟨e - 1, by omega⟩
  rw [c__law_word]
  simp only [W_fin, s__law_word]
  simp
  refine take_then (take_ok (by omega)) st (by decide) fun r h3 r1 r2 d1 => ?_
  simp
  have s1 := Stp.draw d1 h2
  refine ⟨fun _ => ⟨by decide, ?_⟩, fun _ => ⟨fun _ => ?_, fun _ => ?_⟩⟩
  · have hl := d1.st.lt
    refine (pick_ok (show 3 ≤ d by omega) h3.length _ _ (d1.st.app _) (get_new _ _) (by omega) (by decide) (by decide)).mono fun v h4 ⟨d2, i, hi, hv⟩ => ?_
    obtain ⟨r, rfl, a, b⟩ := wordsOk_get (by decide) hv
    have s2 := fun b => s1.trans (Stp.new (fun _ => False) o h3 b .oth) (R := (· = .st)) (fun _ z => z) (fun _ z => z.elim)
    have s3 := Stp.draw (o := upO o h3.length .oth) d2 (by rw [upO, if_neg (by omega)]; exact h2)
    exact q r _ h4 a b ((s2 _).trans s3 (fun _ z => z) (fun _ z => z)) d2.st
  · refine take_then (take_ok (by omega)) d1.st (by decide) fun r h4 r1 r2 d2 => ?_
    exact q r o h4 r1 (by omega) (Stp.draw (d1.trans d2) h2) d2.st
  · refine take_then (take_ok (by omega)) d1.st (by decide) fun r h4 r1 r2 d2 => ?_
    exact q r o h4 r1 (by omega) (Stp.draw (d1.trans d2) h2) d2.st
theorem alike_ok : ∀ (n e : Nat), n < e → SpAlk n (callF Γ e "_law_alike") := by
  intro n
  induction n using Nat.strongRecOn with
  | _ n ih =>
    intro e he
    obtain ⟨d, rfl⟩ : ∃ d, e = d + 1 := ⟨e - 1, by omega⟩
    intro v w h A
    rw [c__law_alike]
    exact sp_alike (fun k hk => ih k hk d (by omega)) v w h A
theorem alk_ints {h : Mem} {a b : Nat} {ws : List Int} (e1 : h[a]? = some (.lst (ws.map .int))) (e2 : h[b]? = some (.lst (ws.map .int))) (hl : ws.length < 2 ^ 62) : Alk h 1 (.ref a) (.ref b) := by
  refine .lst a b _ _ e1 e2 rfl (by simpa using hl) fun i x y h1 h2 => ?_
  rw [h1] at h2
  cases h2
  rw [List.getElem?_map] at h1
  cases q : ws[i]? with
  | none => rw [q] at h1; cases h1
  | some j => rw [q] at h1; cases h1; exact .int j
section
variable {o o' : Ow} {h h' : Mem} {Fs : List Nat} {pl : Nat → Pool} {rs : List (Nat × Row)}
theorem Inv.add (I : Inv o h Fs pl rs) {a : Nat} {x : Row} (ra : RowAt o h a x) (hF : x.F ∈ Fs) (hw : x.ws = shown (pl x.F) x.ps) (hv : ∀ f, some f ∉ x.ps) (hS : ∀ z ∈ rs, z.2.S ≠ x.S) (h1 : 1 ≤ x.ps.length) : Inv o h Fs pl (rs ++ [(a, x)]) where
  st := I.st
  r2 := I.r2
  r1 := I.r1
  po := I.po
  iw := I.iw
  ct := fun F hF f c e => by
    have e1 : x.ps.filterMap id = [] := by
      rw [List.filterMap_eq_nil_iff]
      intro u hu
      cases u with
      | none => rfl
      | some f => exact absurd hu (hv f)
    rw [I.ct F hF f c e, used_app, used_cons, used_nil]
    simp [e1]
  ro := fun z hz => by
    rcases List.mem_append.mp hz with q | q
    · exact I.ro z q
    · rw [List.mem_singleton.mp q]; exact ra
  fs := fun z hz => by
    rcases List.mem_append.mp hz with q | q
    · exact I.fs z q
    · rw [List.mem_singleton.mp q]; exact hF
  ws := fun z hz => by
    rcases List.mem_append.mp hz with q | q
    · exact I.ws z q
    · rw [List.mem_singleton.mp q]; exact hw
  vl := fun z hz => by
    rcases List.mem_append.mp hz with q | q
    · exact I.vl z q
    · rw [List.mem_singleton.mp q]; exact fun f hf => absurd hf (hv f)
  ne := by
    rw [List.pairwise_append]
    refine ⟨I.ne, List.pairwise_singleton _ _, fun y hy z hz => ?_⟩
    rw [List.mem_singleton.mp hz]
    exact hS y hy
  one := fun z hz => by
    rcases List.mem_append.mp hz with q | q
    · exact I.one z q
    · rw [List.mem_singleton.mp q]; exact h1
theorem shown_none (p : Pool) : ∀ k : Nat, shown p (List.replicate k none) = List.replicate (8 * k) 0
  | 0 => rfl
  | k + 1 => by
    rw [List.replicate_succ, shown_eq, List.flatMap_cons, ← shown_eq, shown_none p k]
    show List.replicate 8 0 ++ _ = _
    rw [List.replicate_append_replicate]
    congr 1
    omega
def oNew (o : Ow) (n : Nat) : Ow := fun y => if y < n then o y else if y = n then .spc n else if y = n + 2 then .plc n else if y = n + 4 then .wd n else if y = n + 5 then .row n else .oth
theorem new_fin (I : Inv o h Fs pl rs) {F k : Nat} (hF : F ∈ Fs) (k1 : 1 ≤ k) (k2 : k ≤ 16) {h2 h3 : Mem} (l2 : h2.length = h.length + 3) (k0 : ∀ y, y < h.length → h2[y]? = h[y]?)
    (b1 : h2[h.length]? = some (.ins "Space" [("own_frames", .ref F), ("own_places", .ref (h.length + 2)), ("own_closed", .bl false)])) (b2 : h2[h.length + 2]? = some (Ob.lst (List.replicate k .non)))
    (e3 : h3 = h2 ++ [Ob.lst [.int 0], Ob.lst (List.replicate (8 * k) (.int 0)), Ob.lst [.ref h.length, .ref (h.length + 4)]]) :
    ∃ o' x, Stp (fun _ => False) o o' h h3 ∧ Inv o' h3 Fs pl (rs ++ [(h.length + 5, x)]) ∧ x.F = F ∧ x.ps = List.replicate k none := by
  have s : Stp (fun _ => False) o (oNew o h.length) h h3 := ⟨by rw [e3]; simp; omega, fun y hy => if_pos hy, fun y hy _ => by rw [e3, List.getElem?_append_left (by omega), k0 y hy]⟩
  refine ⟨oNew o h.length, { S := h.length, pa := h.length + 2, w := h.length + 4, F := F, ps := List.replicate k none, ws := List.replicate (8 * k) 0 }, s, (I.no s).add ⟨⟨?_, ?_, ?_, ?_, ?_⟩, ?_, ?_, ?_, ?_⟩ hF ?_ ?_ ?_ ?_, rfl, rfl⟩
  · rw [e3]; exact get_app _ b1
  · rw [e3]; simpa [oV] using get_app _ b2
  · simp [oNew]
  · simp [oNew]
    intro hh
    omega
  · simpa using k2
  · rw [e3, List.getElem?_append_right (by omega), l2, show h.length + 5 - (h.length + 3) = 2 by omega]; rfl
  · show h3[h.length + 4]? = _
    rw [e3, List.getElem?_append_right (by omega), l2, show h.length + 4 - (h.length + 3) = 1 by omega]
    simp
  · simp [oNew]
    intro hh
    omega
  · simp [oNew]
    intro hh
    omega
  · exact (shown_none _ k).symm
  · intro f hf
    have := List.eq_of_mem_replicate hf
    cases this
  · intro z hz
    have := lt_of_get (I.ro z hz).sp.ob
    show z.2.S ≠ h.length
    omega
  · simpa using k1
theorem new_ok {e : Nat} (he : 5 ≤ e) (I : Inv o h Fs pl rs) {F k : Nat} (hF : F ∈ Fs) (k1 : 1 ≤ k) (k2 : k ≤ 16) {Q : Val → Mem → Prop} {X : XQ}
    (q : ∀ o' h' a x, Stp (· = .st) o o' h h' → h.length ≤ a → Inv o' h' Fs pl (rs ++ [(a, x)]) → x.F = F → x.ps = List.replicate k none → Q (.ref a) h') : (callF Γ e "_law_new" [.ref 2, .ref F, .int k] h).W Q X := by
  obtain ⟨d, rfl⟩ : ∃ d, e = d + 1 := ⟨e - 1, by omega⟩
  rw [c__law_new]
  simp only [W_fin, s__law_new]
  simp
  refine take_then (take_ok (by omega)) I.st (by decide) fun r h1 r1 r2 d1 => ?_
  have I1 := I.draw d1
  have s1 := Stp.draw d1 I.r2
  have hl := d1.len
  have fin : ∀ (m : Nat), m = k → (callF Γ d "Space.__init__" [.ref h1.length, .ref F, .int m] (h1 ++ [.ins "Space" []])).W (fun u h2 => u = .non ∧ ((8 * k : Int) < 2 ^ 63 ∧ 8 * k ≤ sizeLine) ∧ h2.length = h1.length + 3 ∧ Q (.ref (h1.length + 5)) (h2 ++ [Ob.lst [.int 0], Ob.lst (List.replicate (8 * k) (.int 0)), Ob.lst [.ref h1.length, .ref (h1.length + 4)]])) X := by
    rintro m rfl
    refine space_init (by omega) (get_new _ _) k1 k2 fun h2 l2 k0 b1 b2 => ?_
    simp only [List.length_append, List.length_singleton] at l2 k0 b1 b2
    obtain ⟨o', x, t1, t2, t3, t4⟩ := new_fin I1 hF k1 k2 (h2 := h2) (by omega) (fun y hy => by rw [k0 y (by omega) (by omega), List.getElem?_append_left hy]) b1 b2 rfl
    exact ⟨rfl, ⟨by omega, by rw [sizeLine_eq]; omega⟩, by omega, q o' _ _ x (s1.trans t1 (fun _ z => z) fun _ z => z.elim) (by omega) t2 t3 t4⟩
  have n1 : ∀ (h2 : Mem) (y : Ob), (h2 ++ [y])[h2.length]? = some y := fun _ _ => get_new _ _
  have e8 : ((8 : Int) * (k : Int)).toNat = 8 * k := by omega
  have m8 : mulOk 8 (k : Int) = true := mul_ok (by omega)
  simp
  refine ⟨fun _ => ?_, fun _ => ⟨fun hk => ?_, fun hk => ?_⟩⟩
  · refine (fin k rfl).imp (fun u h2 ⟨a, ⟨b1, b2⟩, c, w⟩ => ⟨a, ?_⟩) fun _ _ _ z => z
    simp [n1, m8, e8, c, b2]
    refine ⟨by decide, ⟨by omega, by rw [sizeLine_eq]; omega⟩, by rw [sizeLine_eq]; omega, by decide, ?_⟩
    exact w
  · have e4 : k = 4 := by omega
    subst e4
    refine (fin 4 rfl).imp (fun u h2 ⟨a, ⟨b1, b2⟩, c, w⟩ => ⟨a, ?_⟩) fun _ _ _ z => z
    simp [n1, c]
    exact ⟨by decide, by decide, by decide, w⟩
  · refine (fin k rfl).imp (fun u h2 ⟨a, ⟨b1, b2⟩, c, w⟩ => ⟨a, ?_⟩) fun _ _ _ z => z
    simp [n1, m8, e8, c, b2]
    refine ⟨by decide, ⟨by omega, by rw [sizeLine_eq]; omega⟩, by rw [sizeLine_eq]; omega, by decide, ?_⟩
    exact w
theorem alone_ok {e : Nat} (he : 7 ≤ e) (I : Inv o h Fs pl rs) {L : Nat} {as : List (Nat × Row)} (hL : h[L]? = some (.lst (as.map fun z => Val.ref z.1))) (hs : ∀ z ∈ as, z ∈ rs) {Q : Val → Mem → Prop} {X : XQ}
    (q : ∀ o' h', Stp (fun _ => False) o o' h h' → Q (.bl true) h') : (callF Γ e "_law_alone" [.ref L] h).W Q X := by
  obtain ⟨d, rfl⟩ : ∃ d, e = d + 1 := ⟨e - 1, by omega⟩
  rw [c__law_alone]
  simp only [W_fin, s__law_alone]
  simp [hL]
  have e1 : as.length = (as.map fun z => Val.ref z.1).length := by simp
  rw [e1]
  refine for_lst (fun i ρ h' => (∃ o', Stp (fun _ => False) o o' h h') ∧ ∃ y z, ρ = [some (.ref L), y, z]) ⟨⟨o, Stp.refl _ _ _⟩, _, _, rfl⟩ (fun i ρ h' _ ⟨⟨o', s⟩, _⟩ => s.get hL rfl (fun z => z)) ?_ ?_
  · rintro i v ρ h1 hx ⟨⟨o1, s1⟩, y1, y2, rfl⟩
    rw [List.getElem?_map] at hx
    cases hu : as[i]? with
    | none => rw [hu] at hx; cases hx
    | some z =>
      rw [hu] at hx
      cases hx
      have hz := hs z (List.mem_of_getElem? hu)
      have I1 := I.no s1
      have R1 := I1.ro z hz
      have P1 := I1.po _ (I1.fs z hz)
      simp [R1.ob, R1.sp.ob]
      refine contents_ok (by omega) R1.sp P1 (I1.held hz) fun o2 h2 a s2 ha b1 b2 => ?_
      have I2 := I1.no s2
      have R2 := I2.ro z hz
      have hw := I2.ws z hz
      rw [← hw] at b1
      have hlen : z.2.ws.length = 8 * z.2.ps.length := by rw [hw, shown_eq, chunks_len (chunk_len P1)]
      have h1l := I2.one z hz
      have lim := R2.sp.lim
      have a1 := alike_ok 1 d (by omega) _ _ h2 (alk_ints R2.wd b1 (by omega))
      have a2 := alike_ok 0 d (by omega) _ _ h2 (.int (z.2.ps.length : Int))
      have e8 : (z.2.ws.length : Int) / 8 = (z.2.ps.length : Int) := by omega
      have h0 : 0 < z.2.ws.length := by omega
      have gs : ∀ b, (h2.set a b)[a]? = some b := fun b => get_set b1
      have s3 : ∀ b, Stp (fun _ => False) o o2 h (h2.set a b) := fun b => (s1.trans s2 (R := fun _ => False) (fun _ z => z) (fun _ z => z)).later (by have := s1.len; omega) b
      simp [R2.ob, R2.sp.ob, R2.wd, a1, e8, pages_ok (show 1 ≤ d by omega) R2.sp, a2, b1, h0, gs]
      exact ⟨by rw [sizeLine_eq]; omega, o2, s3 _⟩
  · rintro ρ h1 ⟨⟨o1, s1⟩, y1, y2, rfl⟩
    simp
    exact q o1 h1 s1
end
end K04
set_option Elab.async false
set_option linter.all false
set_option maxRecDepth 100000
set_option maxHeartbeats 1000000
namespace K04
open Mp PySem L2
/-! ### the deeds, with the whole invariant -/
def hot : Ro → Bool
  | .ct _ => true
  | .sl _ => true
  | .plc _ => true
  | .cell _ _ => true
  | .wd _ => true
  | .spc _ => true
  | _ => false
abbrev HotR : Ro → Prop := fun r => hot r = true
def upP (pl : Nat → Pool) (F : Nat) (p : Pool) : Nat → Pool := fun G => if G = F then p else pl G
theorem upP_at (pl : Nat → Pool) (F : Nat) (p : Pool) : upP pl F p F = p := if_pos rfl
theorem upP_ne (pl : Nat → Pool) {F G : Nat} (p : Pool) (h : G ≠ F) : upP pl F p G = pl G := if_neg h
theorem shown_ws {p p' : Pool} (hw : p'.ws = p.ws) (ps : List (Option Nat)) : shown p' ps = shown p ps := by
  unfold shown
  rw [hw]
theorem mem_mid {α : Type} {z c : α} {l1 l2 : List α} : z ∈ l1 ++ c :: l2 ↔ z = c ∨ z ∈ l1 ++ l2 := by
  simp only [List.mem_append, List.mem_cons]
  constructor
  · rintro (h | h | h)
    · exact .inr (.inl h)
    · exact .inl h
    · exact .inr (.inr h)
  · rintro (h | h | h)
    · exact .inr (.inl h)
    · exact .inl h
    · exact .inr (.inr h)
theorem used_mid (l1 l2 : List (Nat × Row)) (c : Nat × Row) (F f : Nat) : (used (l1 ++ c :: l2) F).count f = (used (l1 ++ l2) F).count f + (if c.2.F = F then c.2.ps.count (some f) else 0) := by
  rw [used_app, used_cons, used_app]
  simp only [List.count_append]
  split
  · rw [count_places]; omega
  · simp
section
variable {o o' : Ow} {h h' : Mem} {Fs : List Nat} {pl : Nat → Pool} {rs l1 l2 : List (Nat × Row)} {a : Nat} {x : Row}
theorem Inv.neS (I : Inv o h Fs pl (l1 ++ (a, x) :: l2)) : ∀ z ∈ l1 ++ l2, z.2.S ≠ x.S := by
  have := I.ne
  rw [List.pairwise_append, List.pairwise_cons] at this
  obtain ⟨_, ⟨h1, _⟩, h2⟩ := this
  intro z hz
  rcases List.mem_append.mp hz with q | q
  · exact h2 z q _ List.mem_cons_self
  · exact (h1 z q).symm
/-- the pools and the other rows, where the pool of x has become p' -/
theorem Inv.wrote (I : Inv o h Fs pl (l1 ++ (a, x) :: l2)) {k j f : Nat} {v : Int} {u : Option Nat} {x' : Row} {p' : Pool} (hk : x.ps[k]? = some u) (hj : j < 8) (v0 : 0 ≤ v) (v1 : v ≤ 65535) (W : Wrote o h x.S x (pl x.F) k j v u o' h' x' p' f) :
    Inv o' (h'.set x.w (Ob.lst ((x.ws.set (8 * k + j) v).map .int))) Fs (upP pl x.F p') (l1 ++ (a, { x with ps := x.ps.set k (some f), ws := x.ws.set (8 * k + j) v }) :: l2) ∧ Stp HotR o o' h (h'.set x.w (Ob.lst ((x.ws.set (8 * k + j) v).map .int))) := by
  have hz : (a, x) ∈ l1 ++ (a, x) :: l2 := mem_mid.mpr (.inl rfl)
  have R0 := I.ro _ hz
  have hF : x.F ∈ Fs := I.fs _ hz
  have P := I.po _ hF
  have ne := I.neS
  have kl : k < x.ps.length := (List.getElem?_eq_some_iff.mp hk).1
  have cf : (used (l1 ++ l2) x.F).count f + x.ps.count (some f) = 0 ∨ (u = some f ∧ (used (l1 ++ l2) x.F).count f + x.ps.count (some f) = 1) := by
    have e := used_mid l1 l2 (a, x) x.F f
    simp only [if_true] at e
    rcases W.fr with q | ⟨q1, q2⟩
    · have := I.ct _ hF _ _ q
      left
      omega
    · have := I.ct _ hF _ _ q2
      exact .inr ⟨q1, by omega⟩
  have hfl : f < (pl x.F).cs.length := by
    rcases W.fr with q | ⟨q1, q2⟩
    · exact (List.getElem?_eq_some_iff.mp q).1
    · exact (List.getElem?_eq_some_iff.mp q2).1
  have oth : ∀ z ∈ l1 ++ l2, z.2.F = x.F → some f ∉ z.2.ps := fun z hz2 eF hm => by
    have h1 : f ∈ used (l1 ++ l2) z.2.F := mem_used hz2 hm
    rw [eF] at h1
    have h2 : 0 < (used (l1 ++ l2) x.F).count f := List.count_pos_iff.mpr h1
    rcases cf with q | ⟨q1, q2⟩
    · omega
    · rw [q1] at hk
      have : 0 < x.ps.count (some f) := List.count_pos_iff.mpr (List.mem_of_getElem? hk)
      omega
  have own : ∀ i, i ≠ k → x.ps[i]? ≠ some (some f) := fun i hi e => by
    have h1 : 0 < x.ps.count (some f) := List.count_pos_iff.mpr (List.mem_of_getElem? e)
    rcases cf with q | ⟨q1, q2⟩
    · omega
    · rw [q1] at hk
      have := count_two' x.ps i k hi e hk
      omega
  have rw' : o' x.w = .wd x.S := W.stp.role R0.wd R0.r2
  have s2 : Stp (fun r => RW_ x.F x.S r ∨ r = .wd x.S) o o' h (h'.set x.w (Ob.lst ((x.ws.set (8 * k + j) v).map .int))) := W.stp.trans (Stp.set _ rw') (fun _ z => .inl z) (fun _ z => .inr z)
  have nR : ∀ r, (RW_ x.F x.S r ∨ r = .wd x.S) → HotR r := by
    rintro r ((q | q | q | ⟨i, q⟩) | q) <;> rw [q] <;> rfl
  have other : ∀ z ∈ l1 ++ l2, RowAt o' (h'.set x.w (Ob.lst ((x.ws.set (8 * k + j) v).map .int))) z.1 z.2 := fun z hz2 => by
    have n := ne z hz2
    refine (I.ro z (mem_mid.mpr (.inr hz2))).stp s2 ?_ ?_ ?_ ?_
    · rintro ((q | q | q | ⟨i, q⟩) | q) <;> cases q
    · rintro ((q | q | q | ⟨i, q⟩) | q) <;> first | exact n (Ro.plc.inj q) | exact n (Ro.wd.inj q) | cases q
    · rintro ((q | q | q | ⟨i, q⟩) | q) <;> cases q
    · rintro ((q | q | q | ⟨i, q⟩) | q) <;> first | exact n (Ro.plc.inj q) | exact n (Ro.wd.inj q) | cases q
  have po : ∀ F ∈ Fs, PoolAt o' (h'.set x.w (Ob.lst ((x.ws.set (8 * k + j) v).map .int))) F (upP pl x.F p' F) := fun F hF2 => by
    by_cases e : F = x.F
    · rw [e, upP_at]
      exact W.po.stp (Stp.set _ rw') nofun nofun nofun nofun
    · rw [upP_ne _ _ e]
      refine (I.po F hF2).stp s2 ?_ ?_ ?_ ?_
      · rintro ((q | q | q | ⟨i, q⟩) | q) <;> cases q
      · rintro ((q | q | q | ⟨i, q⟩) | q) <;> cases q; exact e rfl
      · rintro ((q | q | q | ⟨i, q⟩) | q) <;> cases q; exact e rfl
      · rintro i ((q | q | q | ⟨i, q⟩) | q) <;> cases q; exact e rfl
  have cl := chunk_len P u
  refine ⟨⟨?_, ?_, ?_, po, ?_, ?_, ?_, ?_, ?_, ?_, ?_, ?_⟩, s2.mono nR⟩
  · exact I.st.stp s2 I.r2 I.r1 (by rintro ((q | q | q | ⟨i, q⟩) | q) <;> cases q) (by rintro ((q | q | q | ⟨i, q⟩) | q) <;> cases q)
  · exact (s2.own 2 (by have := I.st.lt; omega)).trans I.r2
  · exact (s2.own 1 (by have := I.st.lt; omega)).trans I.r1
  · intro F hF2
    by_cases e : F = x.F
    · rw [e, upP_at]
      intro g w hg y hy
      rw [W.ws] at hg
      by_cases hgf : f = g
      · subst hgf
        rw [List.getElem?_set_self (by rw [P.lw]; exact hfl)] at hg
        cases hg
        rcases List.mem_or_eq_of_mem_set hy with q | q
        · cases u with
          | none =>
            have := List.eq_of_mem_replicate (show y ∈ List.replicate 8 0 from q)
            omega
          | some g' =>
            have q : y ∈ ((pl x.F).ws[g']?).getD (List.replicate 8 0) := q
            cases e2 : (pl x.F).ws[g']? with
            | none =>
              rw [e2] at q
              have := List.eq_of_mem_replicate (show y ∈ List.replicate 8 0 from q)
              omega
            | some w2 =>
              rw [e2] at q
              exact I.iw _ hF g' w2 e2 y q
        · omega
      · rw [List.getElem?_set_ne hgf] at hg
        exact I.iw _ hF g w hg y hy
    · rw [upP_ne _ _ e]
      exact I.iw F hF2
  · intro F hF2 i c' hc'
    rw [used_mid]
    by_cases e : F = x.F
    · rw [e] at hc' ⊢
      rw [upP_at] at hc'
      have hi : i < (pl x.F).cs.length := by rw [← W.cs.1]; exact (List.getElem?_eq_some_iff.mp hc').1
      have h1 := W.cs.2 i _ (List.getElem?_eq_getElem hi)
      rw [hc'] at h1
      have h2 := I.ct _ hF i _ (List.getElem?_eq_getElem hi)
      rw [used_mid] at h2
      simp only [if_true] at h2 ⊢
      have h3 := count_upd (some f) (some i) x.ps k u hk
      have h1 := Option.some.inj h1
      have ef : (some f = some i) ↔ i = f := by simp [eq_comm]
      simp only [ef] at h3
      omega
    · rw [upP_ne _ _ e] at hc'
      have := I.ct F hF2 i c' hc'
      rw [used_mid] at this
      have n : ¬ x.F = F := fun z => e z.symm
      simp only [n, if_false] at this ⊢
      exact this
  · intro z hz2
    rcases mem_mid.mp hz2 with rfl | q
    · have sp := W.sp
      rw [W.ex] at sp
      have h1 := sp.stp (Stp.set (o := o') (h := h') (Ob.lst ((x.ws.set (8 * k + j) v).map .int)) rw') nofun nofun
      refine ⟨⟨h1.ob, h1.pl, h1.r1, h1.r2, h1.lim⟩, ?_, ?_, ?_, ?_⟩
      · exact s2.get R0.ob R0.r1 (by rintro ((q | q | q | ⟨i, q⟩) | q) <;> cases q)
      · exact get_set (W.stp.get R0.wd R0.r2 (by rintro (q | q | q | ⟨i, q⟩) <;> cases q))
      · exact s2.role R0.ob R0.r1
      · exact rw'
    · exact other z q
  · intro z hz2
    rcases mem_mid.mp hz2 with rfl | q
    · exact hF
    · exact I.fs z (mem_mid.mpr (.inr q))
  · intro z hz2
    rcases mem_mid.mp hz2 with rfl | q
    · show x.ws.set (8 * k + j) v = shown (upP pl x.F p' x.F) (x.ps.set k (some f))
      rw [upP_at, shown_write P W.po hk hj hfl W.ws own, I.ws _ hz]
    · rw [I.ws z (mem_mid.mpr (.inr q))]
      by_cases e : z.2.F = x.F
      · rw [e, upP_at, shown_other W.ws (oth z q e)]
      · rw [upP_ne _ _ e]
  · intro z hz2
    rcases mem_mid.mp hz2 with rfl | q
    · intro g hg
      show g < (upP pl x.F p' x.F).cs.length
      rw [upP_at, W.cs.1]
      rcases List.mem_or_eq_of_mem_set hg with q | q
      · exact I.vl _ hz g q
      · cases q; exact hfl
    · intro g hg
      have := I.vl z (mem_mid.mpr (.inr q)) g hg
      by_cases e : z.2.F = x.F
      · rw [e, upP_at, W.cs.1, ← e]; exact this
      · rw [upP_ne _ _ e]; exact this
  · have := I.ne
    rw [← List.pairwise_map (f := fun z : Nat × Row => z.2.S) (R := fun a b => a ≠ b)] at this ⊢
    simpa using this
  · intro z hz2
    rcases mem_mid.mp hz2 with rfl | q
    · have := I.one _ hz
      simpa using this
    · exact I.one z (mem_mid.mpr (.inr q))
theorem cmp_wr (h : Mem) : cmpop .Eq h (.str "write") (.str "read") = some false := by
  rw [cmp_eq_str (by kernel_rfl) (by kernel_rfl)]; kernel_rfl
theorem cmp_rr (h : Mem) : cmpop .Eq h (.str "read") (.str "read") = some true := by
  rw [cmp_eq_str (by kernel_rfl) (by kernel_rfl)]; kernel_rfl
theorem Inv.len8 (I : Inv o h Fs pl rs) {z : Nat × Row} (hz : z ∈ rs) : z.2.ws.length = 8 * z.2.ps.length := by
  rw [I.ws z hz, shown_eq, chunks_len (chunk_len (I.po _ (I.fs z hz)))]
theorem step_write {e : Nat} (he : 8 ≤ e) (I : Inv o h Fs pl (l1 ++ (a, x) :: l2)) {ad v : Int} (w0 : Val) (v0 : 0 ≤ v) (v1 : v ≤ 65535)
    (av : ∀ (k : Nat) (u : Option Nat), x.ps[k]? = some u → (∀ g, u = some g → (pl x.F).cs[g]? ≠ some 1) → ∃ f : Nat, (pl x.F).cs[f]? = some 0) {Q : Val → Mem → Prop} {X : XQ}
    (q : ∀ o' h' pl' y, Stp HotR o o' h h' → Inv o' h' Fs pl' (l1 ++ (a, y) :: l2) → y.F = x.F → y.ps.length = x.ps.length → (∀ F, (pl' F).cs.length = (pl F).cs.length) → Q (.bl true) h') : (callF Γ e "_law_step" [.ref a, .tup [.str "write", w0, .int ad, .int v]] h).W Q X := by
  obtain ⟨d, rfl⟩ : ∃ d, e = d + 1 := ⟨e - 1, by omega⟩
  have hz : (a, x) ∈ l1 ++ (a, x) :: l2 := mem_mid.mpr (.inl rfl)
  have R0 := I.ro _ hz
  have hF : x.F ∈ Fs := I.fs _ hz
  have P := I.po _ hF
  have hlen : x.ws.length = 8 * x.ps.length := I.len8 hz
  have h1 : 1 ≤ x.ps.length := I.one _ hz
  have m := mod_lt ad (b := (x.ws.length : Int)) (by omega)
  obtain ⟨k, j, hj, hk, ek⟩ : ∃ k j : Nat, j < 8 ∧ k < x.ps.length ∧ ad % (x.ws.length : Int) = 8 * (k : Int) + (j : Int) := ⟨(ad % (x.ws.length : Int)).toNat / 8, (ad % (x.ws.length : Int)).toNat % 8, by omega, by omega, by omega⟩
  rw [c__law_step]
  simp only [W_fin, s__law_step]
  have h0 : (0 : Int) < x.ws.length := by omega
  have lt : 8 * k + j < x.ws.length := by omega
  have ix : ixN x.ws.length (8 * (k : Int) + (j : Int)) = some (8 * k + j) := by
    have := ixN_lit x.ws.length (8 * k + j)
    rw [if_pos lt] at this
    rw [← this]
    congr 1
  simp [R0.ob, R0.wd, h0, cmp_wr, ek, R0.sp.ob]
  have gk := List.getElem?_eq_getElem hk
  refine ⟨by omega, ?_⟩
  refine write_ok (by omega) R0.sp P (I.held hz) (I.iw _ hF) gk hj v0 v1 (av k _ gk) (I.nn hF) fun o' h' x' p' f W => ?_
  have R1 : h'[a]? = some (.lst [.ref x.S, .ref x.w]) := W.stp.get R0.ob R0.r1 (by rintro (q | q | q | ⟨i, q⟩) <;> cases q)
  have R2 : h'[x.w]? = some (.lst (x.ws.map .int)) := W.stp.get R0.wd R0.r2 (by rintro (q | q | q | ⟨i, q⟩) <;> cases q)
  obtain ⟨I2, s2⟩ := I.wrote gk hj v0 v1 W
  simp [R1, R2, ix]
  have := q o' _ _ _ s2 I2 rfl (by simp) (fun F => by
    by_cases e : F = x.F
    · rw [e, upP_at, W.cs.1]
    · rw [upP_ne _ _ e])
  simpa [List.map_set] using this
theorem step_read {e : Nat} (he : 8 ≤ e) (I : Inv o h Fs pl rs) {z : Nat × Row} (hz : z ∈ rs) {ad : Int} (w0 : Val) : callF Γ e "_law_step" [.ref z.1, .tup [.str "read", w0, .int ad]] h = .ok (.bl true) h := by
  obtain ⟨d, rfl⟩ : ∃ d, e = d + 1 := ⟨e - 1, by omega⟩
  have R0 := I.ro _ hz
  have hF := I.fs _ hz
  have P := I.po _ hF
  have hlen := I.len8 hz
  have h1 := I.one _ hz
  have m := mod_lt ad (b := (z.2.ws.length : Int)) (by omega)
  obtain ⟨i, hi, ei⟩ : ∃ i : Nat, i < z.2.ws.length ∧ ad % (z.2.ws.length : Int) = (i : Int) := ⟨(ad % (z.2.ws.length : Int)).toNat, by omega, by omega⟩
  have gi := List.getElem?_eq_getElem hi
  have rd := read_ok (show 6 ≤ d by omega) R0.sp P (I.held hz) (i := i) (by rw [← I.ws z hz]; exact gi)
  have al := alike_ok 0 d (by omega) _ _ h (.int z.2.ws[i])
  rw [c__law_step]
  refine W_eq ?_
  simp only [W_fin, s__law_step]
  simp [R0.ob, R0.wd, cmp_rr, ei, R0.sp.ob, rd, Mp.atI_nat, gi, al]
  omega
theorem fork_inv {e : Nat} (he : 6 ≤ e) (I : Inv o h Fs pl rs) {z : Nat × Row} (hz : z ∈ rs) {Q : Val → Mem → Prop} {X : XQ}
    (q : ∀ o1 o' h' pl' y, Stp HotR o o1 h h' → Stp HotR o o' h (h' ++ [Ob.lst (z.2.ws.map .int), Ob.lst [.ref y.S, .ref h'.length]]) → Inv o' (h' ++ [Ob.lst (z.2.ws.map .int), Ob.lst [.ref y.S, .ref h'.length]]) Fs pl' (rs ++ [(h'.length + 1, y)]) → y.F = z.2.F → y.ps = z.2.ps →
      (∀ F, (pl' F).cs.length = (pl F).cs.length) → (∀ (F f : Nat), (pl F).cs[f]? = some 0 → (pl' F).cs[f]? = some 0) → h'[z.1]? = some (.lst [.ref z.2.S, .ref z.2.w]) → h'[z.2.w]? = some (.lst (z.2.ws.map .int)) → Q (.ref y.S) h') : (callF Γ e "Space.fork" [.ref z.2.S] h).W Q X := by
  have R0 := I.ro _ hz
  have hF := I.fs _ hz
  have P := I.po _ hF
  refine fork_ok he R0.sp P (I.held hz) (I.nn hF) (I.one z hz) fun o1 h1 x1 p1 s1 f1 S1 eF eps P1 ew em => ?_
  have s1h : Stp HotR o o1 h h1 := s1.mono fun r z => by rw [z]; rfl
  have R1 := R0.stp s1 nofun nofun nofun nofun
  generalize em2 : [Ob.lst (z.2.ws.map .int), Ob.lst [.ref x1.S, .ref h1.length]] = mm
  have s2 : Stp (fun _ => False) o1 (upO (upO o1 h1.length (.wd x1.S)) (h1.length + 1) (.row x1.S)) h1 (h1 ++ mm) := ⟨by simp, fun y hy => by rw [upO, if_neg (by omega), upO, if_neg (by omega)], fun y hy _ => List.getElem?_append_left hy⟩
  generalize eo : upO (upO o1 h1.length (.wd x1.S)) (h1.length + 1) (.row x1.S) = o2 at s2
  have s12 : Stp (· = .ct z.2.F) o o2 h (h1 ++ mm) := s1.trans s2 (fun _ z => z) (fun _ z => z.elim)
  let y : Row := { x1 with w := h1.length, ws := z.2.ws }
  have key : Inv o2 (h1 ++ mm) Fs (upP pl z.2.F p1) (rs ++ [(h1.length + 1, y)]) := by
    have S2 := S1.stp s2 (fun z => z) (fun z => z)
    have Pz := P1.stp s2 (fun z => z) (fun z => z) (fun z => z) (fun _ z => z)
    have ry : RowAt o2 (h1 ++ mm) (h1.length + 1) y := by
      refine ⟨⟨S2.ob, S2.pl, S2.r1, S2.r2, S2.lim⟩, ?_, ?_, ?_, ?_⟩
      · rw [← em2, List.getElem?_append_right (by omega)]
        simp
        exact ⟨rfl, rfl⟩
      · show (h1 ++ mm)[h1.length]? = _
        rw [← em2, List.getElem?_append_right (by omega)]
        simp
        rfl
      · rw [← eo]; exact upO_at _ _ _
      · show o2 h1.length = _
        rw [← eo, upO, if_neg (by omega)]
        exact upO_at _ _ _
    refine ⟨?_, ?_, ?_, ?_, ?_, ?_, ?_, ?_, ?_, ?_, ?_, ?_⟩
    · exact I.st.stp s12 I.r2 I.r1 nofun nofun
    · exact (s12.own 2 (by have := I.st.lt; omega)).trans I.r2
    · exact (s12.own 1 (by have := I.st.lt; omega)).trans I.r1
    · intro F hF2
      by_cases e : F = z.2.F
      · rw [e, upP_at]; exact Pz
      · rw [upP_ne _ _ e]
        exact (I.po F hF2).stp s12 nofun (fun q => by cases q; exact e rfl) nofun nofun
    · intro F hF2
      by_cases e : F = z.2.F
      · rw [e, upP_at]
        intro g w hg
        rw [ew] at hg
        exact I.iw _ hF g w hg
      · rw [upP_ne _ _ e]; exact I.iw F hF2
    · intro F hF2 f c hc
      rw [used_app, used_cons, used_nil, List.append_nil, List.count_append]
      by_cases e : F = z.2.F
      · rw [e] at hc ⊢
        rw [upP_at] at hc
        have hi : f < (pl z.2.F).cs.length := by rw [← em.1]; exact (List.getElem?_eq_some_iff.mp hc).1
        have h1 := em.2 f _ (List.getElem?_eq_getElem hi)
        rw [hc] at h1
        have h2 := I.ct _ hF f _ (List.getElem?_eq_getElem hi)
        have h1 := Option.some.inj h1
        have e3 : (if y.F = z.2.F then y.ps.filterMap id else []) = z.2.ps.filterMap id := by
          show (if x1.F = z.2.F then x1.ps.filterMap id else []) = _
          rw [if_pos eF, eps]
        rw [e3, count_places]
        omega
      · rw [upP_ne _ _ e] at hc
        have e3 : (if y.F = F then y.ps.filterMap id else []) = [] := if_neg fun q => e (by rw [← q]; exact eF)
        rw [e3, I.ct F hF2 f c hc]
        simp
    · intro w hw
      rcases List.mem_append.mp hw with q | q
      · exact (I.ro w q).stp s12 nofun nofun nofun nofun
      · rw [List.mem_singleton.mp q]; exact ry
    · intro w hw
      rcases List.mem_append.mp hw with q | q
      · exact I.fs w q
      · rw [List.mem_singleton.mp q]
        show x1.F ∈ Fs
        rw [eF]; exact hF
    · have shw : ∀ (F : Nat) (ps : List (Option Nat)), shown (upP pl z.2.F p1 F) ps = shown (pl F) ps := fun F ps => by
        by_cases e : F = z.2.F
        · rw [e, upP_at, shown_ws ew]
        · rw [upP_ne _ _ e]
      intro w hw
      rw [shw]
      rcases List.mem_append.mp hw with q | q
      · exact I.ws w q
      · rw [List.mem_singleton.mp q]
        show z.2.ws = shown (pl x1.F) x1.ps
        rw [eF, eps]; exact I.ws z hz
    · have ln : ∀ F, (upP pl z.2.F p1 F).cs.length = (pl F).cs.length := fun F => by
        by_cases e : F = z.2.F
        · rw [e, upP_at, em.1]
        · rw [upP_ne _ _ e]
      intro w hw
      rw [ln]
      rcases List.mem_append.mp hw with q | q
      · exact I.vl w q
      · rw [List.mem_singleton.mp q]
        show ∀ f, some f ∈ x1.ps → f < (pl x1.F).cs.length
        rw [eF, eps]; exact I.vl z hz
    · rw [List.pairwise_append]
      refine ⟨I.ne, List.pairwise_singleton _ _, fun w hw v hv => ?_⟩
      rw [List.mem_singleton.mp hv]
      have := lt_of_get (I.ro w hw).sp.ob
      show w.2.S ≠ x1.S
      omega
    · intro w hw
      rcases List.mem_append.mp hw with q | q
      · exact I.one w q
      · rw [List.mem_singleton.mp q]
        show 1 ≤ x1.ps.length
        rw [eps]; exact I.one z hz
  have := q o1 o2 h1 (upP pl z.2.F p1) y s1h (by show Stp HotR o o2 h (h1 ++ [Ob.lst (z.2.ws.map .int), Ob.lst [.ref x1.S, .ref h1.length]]); rw [em2]; exact s12.mono fun r z => by rw [z]; rfl) (by show Inv o2 (h1 ++ [Ob.lst (z.2.ws.map .int), Ob.lst [.ref x1.S, .ref h1.length]]) _ _ _; rw [em2]; exact key) eF eps (fun F => by
    by_cases e : F = z.2.F
    · rw [e, upP_at, em.1]
    · rw [upP_ne _ _ e]) (fun F f hf => by
    by_cases e : F = z.2.F
    · rw [e] at hf ⊢
      rw [upP_at]
      have h2 := I.ct _ hF f _ hf
      have h3 := em.2 f _ hf
      have h4 : z.2.ps.count (some f) = 0 := by
        apply Classical.byContradiction
        intro hne
        have h5 : some f ∈ z.2.ps := List.count_pos_iff.mp (by omega)
        have h6 : 0 < (used rs z.2.F).count f := List.count_pos_iff.mpr (mem_used hz h5)
        omega
      rw [h4] at h3
      simpa using h3
    · rw [upP_ne _ _ e]; exact hf) R1.ob R1.wd
  exact this
theorem close_inv {e : Nat} (he : 6 ≤ e) (I : Inv o h Fs pl (l1 ++ (a, x) :: l2)) {Q : Val → Mem → Prop} {X : XQ}
    (q : ∀ h' pl', Stp HotR o o h h' → Inv o h' Fs pl' (l1 ++ l2) → (∀ F, (pl' F).cs.length = (pl F).cs.length) → Q .non h') : (callF Γ e "Space.close" [.ref x.S] h).W Q X := by
  have hz : (a, x) ∈ l1 ++ (a, x) :: l2 := mem_mid.mpr (.inl rfl)
  have R0 := I.ro _ hz
  have hF : x.F ∈ Fs := I.fs _ hz
  have P := I.po _ hF
  have ne := I.neS
  refine close_ok he R0.sp P (fun f hf => ?_) fun h1 p1 s1 P1 ew em => ?_
  · have hl : f < (pl x.F).cs.length := I.vl _ hz f hf
    refine ⟨_, List.getElem?_eq_getElem hl, ?_⟩
    have := I.ct _ hF f _ (List.getElem?_eq_getElem hl)
    rw [used_mid] at this
    simp only [if_true] at this
    dsimp only at this hf ⊢
    omega
  · have sub : ∀ w, w ∈ l1 ++ l2 → w ∈ l1 ++ (a, x) :: l2 := fun w hw => mem_mid.mpr (.inr hw)
    refine q h1 (upP pl x.F p1) (s1.mono fun r z => by rcases z with z | z <;> rw [z] <;> rfl) ?_ (fun F => by
      by_cases e : F = x.F
      · rw [e, upP_at, em.1]
      · rw [upP_ne _ _ e])
    refine ⟨?_, I.r2, I.r1, ?_, ?_, ?_, ?_, ?_, ?_, ?_, ?_, ?_⟩
    · exact I.st.stp s1 I.r2 I.r1 (by rintro (q | q) <;> cases q) (by rintro (q | q) <;> cases q)
    · intro F hF2
      by_cases e : F = x.F
      · rw [e, upP_at]; exact P1
      · rw [upP_ne _ _ e]
        exact (I.po F hF2).stp s1 (by rintro (q | q) <;> cases q) (by rintro (q | q) <;> cases q; exact e rfl) (by rintro (q | q) <;> cases q) (by rintro i (q | q) <;> cases q)
    · intro F hF2
      by_cases e : F = x.F
      · rw [e, upP_at]
        intro g w hg
        rw [ew] at hg
        exact I.iw _ hF g w hg
      · rw [upP_ne _ _ e]; exact I.iw F hF2
    · intro F hF2 f c hc
      by_cases e : F = x.F
      · rw [e] at hc ⊢
        rw [upP_at] at hc
        have hi : f < (pl x.F).cs.length := by rw [← em.1]; exact (List.getElem?_eq_some_iff.mp hc).1
        have h1 := em.2 f _ (List.getElem?_eq_getElem hi)
        rw [hc] at h1
        have h2 := I.ct _ hF f _ (List.getElem?_eq_getElem hi)
        rw [used_mid] at h2
        simp only [if_true] at h2
        have h1 := Option.some.inj h1
        have e9 : (a, x).2.ps = x.ps := rfl
        try rw [e9] at h2
        try rw [e9] at h1
        omega
      · rw [upP_ne _ _ e] at hc
        have := I.ct F hF2 f c hc
        rw [used_mid] at this
        have n : ¬ x.F = F := fun z => e z.symm
        simp only [n, if_false] at this
        exact this
    · intro w hw
      have n := ne w hw
      exact (I.ro w (sub w hw)).stp s1 (by rintro (q | q) <;> first | exact n (Ro.spc.inj q) | cases q) (by rintro (q | q) <;> cases q) (by rintro (q | q) <;> cases q) (by rintro (q | q) <;> cases q)
    · exact fun w hw => I.fs w (sub w hw)
    · intro w hw
      rw [I.ws w (sub w hw)]
      by_cases e : w.2.F = x.F
      · rw [e, upP_at, shown_ws ew]
      · rw [upP_ne _ _ e]
    · intro w hw g hg
      have := I.vl w (sub w hw) g hg
      by_cases e : w.2.F = x.F
      · rw [e, upP_at, em.1, ← e]; exact this
      · rw [upP_ne _ _ e]; exact this
    · have := I.ne
      rw [List.pairwise_append, List.pairwise_cons] at this
      rw [List.pairwise_append]
      exact ⟨this.1, this.2.1.2, fun y hy z hz => this.2.2 y hy z (List.mem_cons_of_mem _ hz)⟩
    · exact fun w hw => I.one w (sub w hw)
end
end K04
set_option Elab.async false
set_option linter.all false
set_option maxRecDepth 100000
set_option maxHeartbeats 1000000
namespace K04
open Mp PySem L2
/-! ### the calls -/
inductive Gc : Val → Prop
  | wr (who ad v : Int) (v0 : 0 ≤ v) (v1 : v ≤ 65535) : Gc (.tup [.str "write", .int who, .int ad, .int v])
  | rd (who ad : Int) : Gc (.tup [.str "read", .int who, .int ad])
  | fk (who : Int) : Gc (.tup [.str "fork", .int who])
  | cl (who : Int) : Gc (.tup [.str "close", .int who])
structure CaI (o : Ow) (h : Mem) (top n i : Nat) (ρ : Mp.Env) (h' : Mem) : Prop where
  ex : ∃ o' cs y4 y5 y6 y7, Stp (· = .st) o o' h h' ∧ St h' ∧ o' 2 = .st ∧ h.length < h'.length ∧ o' h.length = .oth ∧ h'[h.length]? = some (.lst cs) ∧ cs.length = i ∧ (∀ c ∈ cs, Gc c) ∧ ρ = [some (.ref 2), some (.int top), some (.int n), some (.ref h.length), y4, y5, y6, y7]
theorem calls_ok {e : Nat} (he : 5 ≤ e) {o : Ow} {h : Mem} (st : St h) (h2 : o 2 = .st) {top n : Nat} (t1 : 1 ≤ top) (t2 : top ≤ 16) (hn : n ≤ 100) {Q : Val → Mem → Prop} {X : XQ}
    (q : ∀ o' h' a cs, Stp (· = .st) o o' h h' → St h' → h'[a]? = some (.lst cs) → h.length ≤ a → o' a = .oth → (∀ c ∈ cs, Gc c) → Q (.ref a) h') : (callF Γ e "_law_space_calls" [.ref 2, .int top, .int n] h).W Q X := by
  obtain ⟨d, rfl⟩ : ∃ d, e = d + 1 := ⟨e - 1, by omega⟩
  rw [c__law_space_calls]
  simp only [W_fin, s__law_space_calls]
  have sl := st.lt
  simp
  refine ⟨by unfold small62; simp; omega, ?_⟩
  refine for_rng (CaI o h top n) ?_ ?_ ?_
  · exact ⟨upO o h.length .oth, [], _, _, _, _, Stp.new _ _ _ _ _, St.app st _, by rw [upO, if_neg (by omega)]; exact h2, by simp, upO_at _ _ _, get_new _ _, rfl, nofun, rfl⟩
  · rintro i ρ h1 hi ⟨o1, cs, y4, y5, y6, y7, s1, st1, r1, l1, ro1, e1, lc, gc, rfl⟩
    have lcs : cs.length < sizeLine := by rw [sizeLine_eq]; omega
    try simp
    refine take_then (take_ok (by omega)) st1 (by decide) fun wy h3 w1 w2 d3 => ?_
    try simp
    refine take_then (take_ok (by omega)) d3.st (by decide) fun who h4 x1 x2 d4 => ?_
    try simp
    refine take_then (take_ok (by omega)) d4.st (by decide) fun b h5 b1 b2 d5 => ?_
    try simp
    -- behind the draw of the address
    have key : ∀ (ad : Int) (h6 : Mem), Dr h5 h6 → Fw ((sIf (tE (eCmp .Lt (eVar 5) (eC (.int 6)))) (sExpr (eMeth Γ (callF Γ d) "append" 1 [] (eVar 3) (aCons (eTup (aCons (eC (.str "write")) (aCons (eVar 6) (aCons (eVar 7) (aCons (eCall (callF Γ d "_law_word") (aCons (eVar 0) aNil)) aNil))))) aNil) aNil)) (sIf (tE (eCmp .Lt (eVar 5) (eC (.int 8)))) (sExpr (eMeth Γ (callF Γ d) "append" 1 [] (eVar 3) (aCons (eTup (aCons (eC (.str "read")) (aCons (eVar 6) (aCons (eVar 7) aNil)))) aNil) aNil)) (sIf (tE (eCmp .Lt (eVar 5) (eC (.int 11)))) (sExpr (eMeth Γ (callF Γ d) "append" 1 [] (eVar 3) (aCons (eTup (aCons (eC (.str "fork")) (aCons (eVar 6) aNil))) aNil) aNil)) (sExpr (eMeth Γ (callF Γ d) "append" 1 [] (eVar 3) (aCons (eTup (aCons (eC (.str "close")) (aCons (eVar 6) aNil))) aNil) aNil))))) [some (.ref 2), some (.int top), some (.int n), some (.ref h.length), some (.int i), some (.int wy), some (.int who), some (.int ad)] h6) ⟨CaI o h top n (i + 1), fun v h' => Q v h', fun _ _ => False, CaI o h top n (i + 1), fun _ => X⟩ := by
      intro ad h6 d6
      have dd := ((d3.trans d4).trans d5).trans d6
      have s6 := Stp.draw dd r1
      have e6 : h6[h.length]? = some (.lst cs) := dd.get e1 (by omega)
      have l6 : h.length < h6.length := by rw [dd.len]; exact l1
      have fin : ∀ (o7 : Ow) (h7 : Mem) (c : Val), Stp (· = .st) o1 o7 h1 h7 → St h7 → h7[h.length]? = some (.lst cs) → Gc c → CaI o h top n (i + 1) [some (.ref 2), some (.int top), some (.int n), some (.ref h.length), some (.int i), some (.int wy), some (.int who), some (.int ad)] (h7.set h.length (.lst (cs ++ [c]))) := fun o7 h7 c s7 st7 e7 g => by
        have l7 : h.length < h7.length := Nat.lt_of_lt_of_le l1 s7.len
        refine ⟨o7, cs ++ [c], _, _, _, _, ((s1.trans s7 (fun _ z => z) (fun _ z => z)).later (Nat.le_refl _) _), ?_, (s7.own 2 (by have := st1.lt; omega)).trans r1, by simpa using l7, (s7.own _ l1).trans ro1, get_set e7, by simp [lc], ?_, rfl⟩
        · obtain ⟨ns, p, c, t, s, e2, e1, hp, hc⟩ := st7.ex
          exact ⟨ns, p, c, t, s, get_set_ne e2 (by omega), get_set_ne e1 (by omega), hp, hc⟩
        · intro z hz
          rcases List.mem_append.mp hz with k | k
          · exact gc z k
          · rw [List.mem_singleton.mp k]; exact g
      simp [e6]
      refine ⟨fun _ => ?_, fun _ => ⟨fun _ => ⟨by decide, ?_⟩, fun _ => ⟨fun _ => ⟨by decide, ?_⟩, fun _ => ⟨by decide, ?_⟩⟩⟩⟩
      · refine word_ok (by omega) dd.st r1 fun r o7 h7 a b s7 st7 => ?_
        have e7 : h7[h.length]? = some (.lst cs) := s7.get e6 ro1 nofun
        simp [e7, lcs]
        exact ⟨by decide, fin o7 h7 _ (s6.trans s7 (fun _ z => z) (fun _ z => z)) st7 e7 (.wr _ _ _ a b)⟩
      · simp [e6, lcs]
        exact fin o1 h6 _ s6 dd.st e6 (.rd _ _)
      · simp [e6, lcs]
        exact fin o1 h6 _ s6 dd.st e6 (.fk _)
      · simp [e6, lcs]
        exact fin o1 h6 _ s6 dd.st e6 (.cl _)
    have m8 : mulOk 8 (top : Int) = true := mul_ok (by omega)
    refine ⟨fun _ => ⟨m8, ?_⟩, fun _ => ⟨m8, ?_⟩⟩
    · refine between_then (between_ok (by omega)) d5.st (by omega) (by omega) fun r h6 r1 r2 d6 => ?_
      simpa using key r h6 d6
    · refine take_then (take_ok (by omega)) d5.st (by split <;> omega) fun r h6 r1 r2 d6 => ?_
      simpa using key r h6 d6
  · rintro ρ h1 ⟨o1, cs, y4, y5, y6, y7, s1, st1, r1, l1, ro1, e1, lc, gc, rfl⟩
    simp
    exact q o1 h1 _ cs s1 st1 e1 (Nat.le_refl _) ro1 gc
end K04
set_option Elab.async false
set_option linter.all false
set_option maxRecDepth 100000
set_option maxHeartbeats 1000000
namespace K04
open Mp PySem L2
section
variable {o o' : Ow} {h h' : Mem} {Fs : List Nat} {pl : Nat → Pool} {rs rs' : List (Nat × Row)}
theorem used_perm (p : rs.Perm rs') (F f : Nat) : (used rs F).count f = (used rs' F).count f := by
  induction p with
  | nil => rfl
  | cons z _ ih => rw [used_cons, used_cons, List.count_append, List.count_append, ih]
  | swap y z l => simp only [used_cons, List.count_append]; omega
  | trans _ _ a b => exact a.trans b
theorem Inv.perm (I : Inv o h Fs pl rs) (p : rs.Perm rs') : Inv o h Fs pl rs' where
  st := I.st
  r2 := I.r2
  r1 := I.r1
  po := I.po
  iw := I.iw
  ct := fun F hF f c e => by rw [I.ct F hF f c e, used_perm p]
  ro := fun z hz => I.ro z (p.mem_iff.mpr hz)
  fs := fun z hz => I.fs z (p.mem_iff.mpr hz)
  ws := fun z hz => I.ws z (p.mem_iff.mpr hz)
  vl := fun z hz => I.vl z (p.mem_iff.mpr hz)
  ne := p.pairwise I.ne (fun {_ _} q => Ne.symm q)
  one := fun z hz => I.one z (p.mem_iff.mpr hz)
/-- pools without spaces -/
theorem inv0 (st : St h) (r2 : o 2 = .st) (r1 : o 1 = .sc) (po : ∀ F ∈ Fs, PoolAt o h F (pl F)) (z : ∀ F ∈ Fs, ∃ m, (pl F).cs = List.replicate m 0 ∧ (pl F).ws = List.replicate m (List.replicate 8 0)) : Inv o h Fs pl [] where
  st := st
  r2 := r2
  r1 := r1
  po := po
  iw := fun F hF f w hw x hx => by
    obtain ⟨m, _, e⟩ := z F hF
    rw [e] at hw
    have e1 := List.eq_of_mem_replicate (List.mem_of_getElem? hw)
    rw [e1] at hx
    have := List.eq_of_mem_replicate hx
    omega
  ct := fun F hF f c e => by
    obtain ⟨m, e1, _⟩ := z F hF
    rw [e1] at e
    have := List.eq_of_mem_replicate (List.mem_of_getElem? e)
    rw [this]
    rfl
  ro := nofun
  fs := nofun
  ws := nofun
  vl := nofun
  ne := .nil
  one := nofun
theorem free_all {cs : List Int} (hz : ∀ (f : Nat) (c : Int), cs[f]? = some c → c = 0) : freeL cs cs.length = List.range cs.length := by
  unfold freeL
  rw [List.filter_eq_self]
  intro f hf
  have hl : f < cs.length := by simpa using hf
  have := hz f _ (List.getElem?_eq_getElem hl)
  rw [List.getElem?_eq_getElem hl, this]
  rfl
theorem split_at {α : Type} {l : List α} {i : Nat} {z : α} (h : l[i]? = some z) : ∃ l1 l2, l = l1 ++ z :: l2 ∧ l1.length = i := by
  refine ⟨l.take i, l.drop (i + 1), ?_, ?_⟩
  · have hi := (List.getElem?_eq_some_iff.mp h).1
    have e := (List.getElem?_eq_some_iff.mp h).2
    rw [← e, ← List.drop_eq_getElem_cons hi, List.take_append_drop]
  · rw [List.length_take]
    have := (List.getElem?_eq_some_iff.mp h).1
    omega
theorem map_get {l : List (Nat × Row)} {i : Nat} (hi : i < l.length) : ∃ z, l[i]? = some z ∧ (l.map fun z => Val.ref z.1)[i]? = some (.ref z.1) := by
  refine ⟨l[i], List.getElem?_eq_getElem hi, ?_⟩
  rw [List.getElem?_map, List.getElem?_eq_getElem hi]
  rfl
/-- room among forks of one space -/
theorem avail_forks (I : Inv o h Fs pl rs) {z : Nat × Row} (hz : z ∈ rs) (hall : ∀ w ∈ rs, w.2.ps = z.2.ps) (room : z.2.ps.length < (pl z.2.F).cs.length) : ∃ f : Nat, (pl z.2.F).cs[f]? = some 0 := by
  refine free_of (L := z.2.ps.filterMap id) ?_ fun f c e hc => ?_
  · have : (z.2.ps.filterMap id).length ≤ z.2.ps.length := List.length_filterMap_le _ _
    omega
  · have h1 := I.ct _ (I.fs z hz) f c e
    have h2 : f ∈ used rs z.2.F := List.count_pos_iff.mp (by omega)
    unfold used at h2
    rw [List.mem_flatMap] at h2
    obtain ⟨w, hw, h3⟩ := h2
    split at h3
    · rw [hall w hw] at h3
      exact h3
    · simp at h3
end
/-- ahead of turn i of the writes -/
structure MfA (F a L pg i : Nat) (ρ : Mp.Env) (h : Mem) : Prop where
  ex : ∃ o pl x y4, Inv o h [F] pl [(a, x)] ∧ h[L]? = some (.lst [.ref a]) ∧ o L = .ls ∧ x.F = F ∧ x.ps.length = pg ∧ (pl F).cs.length = 2 * pg ∧ ρ = [some (.ref 2), some (.int pg), some (.ref F), some (.ref L), y4, none, none, none]
/-- ahead of turn i of the forks -/
structure MfB (F a L pg i : Nat) (ρ : Mp.Env) (h : Mem) : Prop where
  ex : ∃ o pl x rs y4, Inv o h [F] pl ((a, x) :: rs) ∧ h[L]? = some (.lst (((a, x) :: rs).map fun z => Val.ref z.1)) ∧ o L = .ls ∧ rs.length = i ∧ x.ps.length = pg ∧ (∀ z ∈ rs, z.2.ps = x.ps) ∧ (∀ z ∈ (a, x) :: rs, z.2.F = F) ∧ (pl F).cs.length = 2 * pg ∧ ρ = [some (.ref 2), some (.int pg), some (.ref F), some (.ref L), y4, none, none, none]
/-- ahead of turn i of the closes -/
structure MfC (F L pg : Nat) (r : Nat × Row) (ls : List (Nat × Row)) (v5 : Val) (y4 : Option Val) (i : Nat) (ρ : Mp.Env) (h : Mem) : Prop where
  ex : ∃ o pl y7, Inv o h [F] pl (r :: ls.drop i) ∧ h[L]? = some (.lst (ls.map fun z => Val.ref z.1)) ∧ o L = .ls ∧ (pl F).cs.length = 2 * pg ∧ ρ = [some (.ref 2), some (.int pg), some (.ref F), some (.ref L), y4, some v5, some (.ref r.1), y7]
theorem lmr_pop {h : Mem} (n : Nat) (i : Int) : lmRun .pop n [.int i] h = match h[n]? with
  | some (.lst xs) => (match ixN xs.length i with
    | some k => (match xs[k]? with
      | some y => .ok y (h.set n (.lst (xs.eraseIdx k)))
      | none => .bad)
    | none => .bad)
  | _ => .bad := by
  simp only [lmRun]
  all_goals (rcases h[n]? with _ | o <;> first | rfl | (cases o <;> rfl))
theorem erase_mid {α : Type} (l1 l2 : List α) (z : α) : (l1 ++ z :: l2).eraseIdx l1.length = l1 ++ l2 := by
  rw [List.eraseIdx_append_of_length_le (Nat.le_refl _), Nat.sub_self]
  rfl
def k_law_0 (c : CallT) : MS := (sSet 1 (eCall (c "_law_store") (aCons (eVar 0) (aCons (eC (.int (104))) aNil))))
def k_law_1 (c : CallT) : MS := (sSet 2 (eLst (aCons (eBin .Add (eC (.int (1))) (eCall (c "_law_size") (aCons (eVar 1) (aCons (eC (.int (15))) aNil)))) (aCons (eBin .Add (eC (.int (1))) (eCall (c "_law_size") (aCons (eVar 1) (aCons (eC (.int (15))) aNil)))) aNil))))
def k_law_2 (c : CallT) : MS := (sSet 3 (eIdx (eVar 2) (eC (.int (0)))))
def k_law_3 (c : CallT) : MS := (sIf (tE (eCmp .Gt (eIdx (eVar 2) (eC (.int (1)))) (eVar 3))) (sSet 3 (eIdx (eVar 2) (eC (.int (1))))) sSkip)
def k_law_4 (c : CallT) : MS := (sSet 4 (eMake (c "Frames.__init__") "Frames" [.ps 0, .ps 1] (aCons (eBin .Add (eBin .Mult (eC (.int (4))) (eVar 3)) (eCall (c "_law_take") (aCons (eVar 1) (aCons (eBin .Sub (eC (.int (97))) (eBin .Mult (eC (.int (4))) (eVar 3))) aNil)))) aNil) aNil))
def k_law_5 (c : CallT) : MS := (sSet 5 (eMake (c "Frames.__init__") "Frames" [.ps 0, .ps 1] (aCons (eBin .Mult (eC (.int (4))) (eVar 3)) aNil) aNil))
def k_law_6 (c : CallT) : MS := (sSet 6 (eLst (aCons (eCall (c "_law_new") (aCons (eVar 1) (aCons (eVar 4) (aCons (eIdx (eVar 2) (eC (.int (0)))) aNil)))) (aCons (eCall (c "_law_new") (aCons (eVar 1) (aCons (eVar 4) (aCons (eIdx (eVar 2) (eC (.int (1)))) aNil)))) (aCons (eCall (c "_law_new") (aCons (eVar 1) (aCons (eVar 5) (aCons (eIdx (eVar 2) (eC (.int (0)))) aNil)))) aNil)))))
def k_law_7 (c : CallT) : MS := (sSet 8 (eBin .Mod (eBi .int (aCons (eIdx (eVar 7) (eC (.int (1)))) aNil)) (eBi .len (aCons (eVar 6) aNil))))
def k_law_8 (c : CallT) : MS := (sSet 9 (eIdx (eVar 6) (eVar 8)))
def k_law_9 (c : CallT) : MS := (sSet 10 (eLst (aCons (eAttr Γ c "free" (eVar 4)) (aCons (eAttr Γ c "free" (eVar 5)) aNil))))
def k_law_10 (c : CallT) : MS := (sIf (tE (eCmp .Eq (eIdx (eVar 7) (eC (.int (0)))) (eC (.str "fork")))) (sIf (tE (eCmp .Lt (eBi .len (aCons (eVar 6) aNil)) (eC (.int (4))))) (sExpr (eMeth Γ c "append" 1 [] (eVar 6) (aCons (eLst (aCons (eMeth Γ c "fork" 0 [] (eIdx (eVar 9) (eC (.int (0)))) aNil aNil) (aCons (eBi .list (aCons (eIdx (eVar 9) (eC (.int (1)))) aNil)) aNil))) aNil) aNil)) sSkip) (sIf (tE (eCmp .Eq (eIdx (eVar 7) (eC (.int (0)))) (eC (.str "close")))) (sSeq (sIf (tE (eCmp .IsNot (eMeth Γ c "close" 0 [] (eIdx (eVar 9) (eC (.int (0)))) aNil aNil) (eC (.non)))) (sRet (eC (.bl false))) sSkip) (sSeq (sExpr (eMeth Γ c "pop" 1 [] (eVar 6) (aCons (eVar 8) aNil) aNil)) (sIf (tE (eCmp .Eq (eBi .len (aCons (eVar 6) aNil)) (eC (.int (0))))) (sExpr (eMeth Γ c "append" 1 [] (eVar 6) (aCons (eCall (c "_law_new") (aCons (eVar 1) (aCons (eVar 4) (aCons (eIdx (eVar 2) (eC (.int (1)))) aNil)))) aNil) aNil)) sSkip))) (sIf (tNot (tE (eCall (c "_law_step") (aCons (eVar 9) (aCons (eVar 7) aNil))))) (sRet (eC (.bl false))) sSkip)))
def k_law_11 (c : CallT) : MS := (sIf (tAnd (tE (eCmp .In (eIdx (eVar 7) (eC (.int (0)))) (eTup (aCons (eC (.str "read")) (aCons (eC (.str "fork")) aNil))))) (tNot (tE (eCall (c "_law_alike") (aCons (eVar 10) (aCons (eLst (aCons (eAttr Γ c "free" (eVar 4)) (aCons (eAttr Γ c "free" (eVar 5)) aNil))) aNil)))))) (sRet (eC (.bl false))) sSkip)
def k_law_12 (c : CallT) : MS := (sIf (tNot (tE (eCall (c "_law_alone") (aCons (eVar 6) aNil)))) (sRet (eC (.bl false))) sSkip)
def k_law_13 (c : CallT) : MS := (sSeq (k_law_7 c) (sSeq (k_law_8 c) (sSeq (k_law_9 c) (sSeq (k_law_10 c) (sSeq (k_law_11 c) (k_law_12 c))))))
def k_law_14 (c : CallT) : MS := (sFor (.nm 7) (iVal (eCall (c "_law_space_calls") (aCons (eVar 1) (aCons (eVar 3) (aCons (eC (.int (28))) aNil))))) (k_law_13 c) sSkip)
def k_law_15 (c : CallT) : MS := (sSet 10 (eLst (aCons (eAttr Γ c "free" (eVar 4)) (aCons (eAttr Γ c "free" (eVar 5)) aNil))))
def k_law_16 (c : CallT) : MS := (sIf (tOr (tNot (tE (eCall (c "_law_alone") (aCons (eVar 6) aNil)))) (tNot (tE (eCall (c "_law_alike") (aCons (eVar 10) (aCons (eLst (aCons (eAttr Γ c "free" (eVar 4)) (aCons (eAttr Γ c "free" (eVar 5)) aNil))) aNil)))))) (sRet (eC (.bl false))) sSkip)
def k_law_17 (c : CallT) : MS := (sRet (eOr (eCmp .Gt (eCall (c "_law_take") (aCons (eVar 1) (aCons (eC (.int (8))) aNil))) (eC (.int (0)))) (eCall (c "_law_many_forks") (aCons (eVar 1) (aCons (eIdx (eVar 2) (eC (.int (0)))) aNil)))))
theorem s_law_eq (c : CallT) : s_law c = (sSeq (k_law_0 c) (sSeq (k_law_1 c) (sSeq (k_law_2 c) (sSeq (k_law_3 c) (sSeq (k_law_4 c) (sSeq (k_law_5 c) (sSeq (k_law_6 c) (sSeq (k_law_14 c) (sSeq (k_law_15 c) (sSeq (k_law_16 c) (k_law_17 c))))))))))) := rfl
def k__law_many_forks_0 (c : CallT) : MS := (sSet 2 (eMake (c "Frames.__init__") "Frames" [.ps 0, .ps 1] (aCons (eBin .Mult (eC (.int (2))) (eVar 1)) aNil) aNil))
def k__law_many_forks_1 (c : CallT) : MS := (sSet 3 (eLst (aCons (eCall (c "_law_new") (aCons (eVar 0) (aCons (eVar 2) (aCons (eVar 1) aNil)))) aNil)))
def k__law_many_forks_2 (c : CallT) : MS := (sFor (.nm 4) (iRng1 (eBin .Add (eC (.int (1))) (eCall (c "_law_take") (aCons (eVar 0) (aCons (eC (.int (4))) aNil))))) (sIf (tNot (tE (eCall (c "_law_step") (aCons (eIdx (eVar 3) (eC (.int (0)))) (aCons (eTup (aCons (eC (.str "write")) (aCons (eC (.int (0))) (aCons (eCall (c "_law_take") (aCons (eVar 0) (aCons (eBin .Mult (eC (.int (8))) (eVar 1)) aNil))) (aCons (eCall (c "_law_word") (aCons (eVar 0) aNil)) aNil))))) aNil))))) (sRet (eC (.bl false))) sSkip) sSkip)
def k__law_many_forks_3 (c : CallT) : MS := (sFor (.nm 4) (iRng1 (eCall (c "_law_take") (aCons (eVar 0) (aCons (eC (.int (101))) aNil)))) (sExpr (eMeth Γ c "append" 1 [] (eVar 3) (aCons (eLst (aCons (eMeth Γ c "fork" 0 [] (eIdx (eIdx (eVar 3) (eC (.int (0)))) (eC (.int (0)))) aNil aNil) (aCons (eBi .list (aCons (eIdx (eIdx (eVar 3) (eC (.int (0)))) (eC (.int (1)))) aNil)) aNil))) aNil) aNil)) sSkip)
def k__law_many_forks_4 (c : CallT) : MS := (sSet 5 (eIdx (eVar 3) (eCall (c "_law_take") (aCons (eVar 0) (aCons (eBi .len (aCons (eVar 3) aNil)) aNil)))))
def k__law_many_forks_5 (c : CallT) : MS := (sIf (tNot (tE (eCall (c "_law_step") (aCons (eVar 5) (aCons (eTup (aCons (eC (.str "write")) (aCons (eC (.int (0))) (aCons (eCall (c "_law_take") (aCons (eVar 0) (aCons (eBin .Mult (eC (.int (8))) (eVar 1)) aNil))) (aCons (eCall (c "_law_word") (aCons (eVar 0) aNil)) aNil))))) aNil))))) (sRet (eC (.bl false))) sSkip)
def k__law_many_forks_6 (c : CallT) : MS := (sIf (tNot (tE (eCall (c "_law_alone") (aCons (eBin .Add (eLc [4] (.nm 4) (iRng1 (eC (.int (4)))) tYesM (eIdx (eVar 3) (eCall (c "_law_take") (aCons (eVar 0) (aCons (eBi .len (aCons (eVar 3) aNil)) aNil))))) (eLst (aCons (eVar 5) aNil))) aNil)))) (sRet (eC (.bl false))) sSkip)
def k__law_many_forks_7 (c : CallT) : MS := (sSet 6 (eMeth Γ c "pop" 1 [] (eVar 3) (aCons (eCall (c "_law_take") (aCons (eVar 0) (aCons (eBi .len (aCons (eVar 3) aNil)) aNil))) aNil) aNil))
def k__law_many_forks_8 (c : CallT) : MS := (sFor (.nm 7) (iVal (eVar 3)) (sIf (tE (eCmp .IsNot (eMeth Γ c "close" 0 [] (eIdx (eVar 7) (eC (.int (0)))) aNil aNil) (eC (.non)))) (sRet (eC (.bl false))) sSkip) sSkip)
def k__law_many_forks_9 (c : CallT) : MS := (sRet (eAnd (eCall (c "_law_alone") (aCons (eLst (aCons (eVar 6) aNil)) aNil)) (eAnd (eCmp .Is (eMeth Γ c "close" 0 [] (eIdx (eVar 6) (eC (.int (0)))) aNil aNil) (eC (.non))) (eCall (c "_law_alike") (aCons (eListR1 (eBin .Mult (eC (.int (2))) (eVar 1))) (aCons (eAttr Γ c "free" (eVar 2)) aNil))))))
theorem s__law_many_forks_eq (c : CallT) : s__law_many_forks c = (sSeq (k__law_many_forks_0 c) (sSeq (k__law_many_forks_1 c) (sSeq (k__law_many_forks_2 c) (sSeq (k__law_many_forks_3 c) (sSeq (k__law_many_forks_4 c) (sSeq (k__law_many_forks_5 c) (sSeq (k__law_many_forks_6 c) (sSeq (k__law_many_forks_7 c) (sSeq (k__law_many_forks_8 c) (k__law_many_forks_9 c)))))))))) := rfl
theorem rng_list (h : Mem) (n : Nat) (hn : n ≤ 1000) {ρ : Mp.Env} {a : ME} {Q : Val → Mem → Prop} {X : XQ} (ha : (a ρ h).W (fun v h' => v = .int n ∧ h' = h) X) (q : Q (.ref h.length) (h ++ [Ob.lst ((List.range n).map fun i => Val.int (i : Nat))])) : (eListR1 a ρ h).W Q X := by
  unfold eListR1
  rw [w_e1]
  refine ha.imp (fun v h' ⟨e1, e2⟩ => ?_) fun _ _ _ z => z
  subst e1 e2
  have e : rgL 0 n = (List.range n).map fun i => Val.int (i : Nat) := by
    unfold rgL
    simp
  show (if rgOk 0 n then newL (rgL 0 n) h' else .bad).W Q X
  rw [if_pos (by unfold rgOk small62; simp; omega), e]
  simp
  exact ⟨by rw [sizeLine_eq]; omega, q⟩
abbrev PT (X : XQ) : Po := ⟨fun _ _ => False, fun v _ => v = Val.bl true, fun _ _ => False, fun _ _ => False, fun _ => X⟩
section
variable {o o' : Ow} {h h' : Mem} {Fs : List Nat} {pl : Nat → Pool} {rs rs' : List (Nat × Row)}
theorem ne2 {L : Nat} (I : Inv o h Fs pl rs) {r : Ro} (hr : o L = r) (hn : r ≠ .st := by nofun) : L ≠ 2 := fun e => by
  rw [e, I.r2] at hr
  exact hn hr.symm
end
end K04
set_option Elab.async false
set_option linter.all false
set_option maxRecDepth 100000
set_option maxHeartbeats 1000000
namespace K04
open Mp PySem L2
theorem nh_ls : ¬ HotR .ls := by decide
theorem nh_oth : ¬ HotR .oth := by decide
theorem alk_eq {h : Mem} {a b : Nat} {xs : List Val} (e1 : h[a]? = some (.lst xs)) (e2 : h[b]? = some (.lst xs)) (hx : ∀ x ∈ xs, ∃ i, x = .int i) (hl : xs.length < 2 ^ 62) : Alk h 1 (.ref a) (.ref b) := by
  refine .lst a b _ _ e1 e2 rfl hl fun i x y h1 h2 => ?_
  rw [h1] at h2
  cases h2
  obtain ⟨j, rfl⟩ := hx x (List.mem_of_getElem? h1)
  exact .int j
theorem ints_are {l : List Nat} : ∀ x ∈ l.map (fun j => Val.int (j : Nat)), ∃ i, x = .int i := fun x hx => by
  obtain ⟨j, _, rfl⟩ := List.mem_map.mp hx
  exact ⟨_, rfl⟩
theorem mf_end {d : Nat} (hd : 10 ≤ d) {F L pg : Nat} {o : Ow} {h : Mem} {pl : Nat → Pool} {rs : List (Nat × Row)} {v5 : Val} {y4 y6 y7 : Option Val} {X : XQ} (I : Inv o h [F] pl rs) (hL : h[L]? = some (.lst (rs.map fun z => Val.ref z.1))) (rL : o L = .ls)
    (n1 : 1 ≤ rs.length) (n2 : rs.length ≤ 200) (hc : (pl F).cs.length = 2 * pg) (p2 : pg ≤ 16) (aF : ∀ z ∈ rs, z.2.F = F) :
    Fw ((sSeq (k__law_many_forks_7 (callF Γ d)) (sSeq (k__law_many_forks_8 (callF Γ d)) (k__law_many_forks_9 (callF Γ d)))) [some (.ref 2), some (.int pg), some (.ref F), some (.ref L), y4, some v5, y6, y7] h) (PT X) := by
  simp only [w_sSeq]
  simp only [k__law_many_forks_7]
  simp [hL]
  refine take_then (take_ok (by omega)) I.st (by omega) fun r h1 r1 r2 dr => ?_
  have I1 := I.draw dr
  have hL1 := dr.get hL (ne2 I rL)
  have hr : r.toNat < rs.length := by omega
  obtain ⟨z, g1, g2⟩ := map_get hr
  obtain ⟨l1, l2, el, ll⟩ := split_at g1
  have ei : ixN rs.length r = some r.toNat := ixN_pos r1 (by omega)
  simp [hL1, lmr_pop, ei, g1]
  have ee : ((rs.map fun z => Val.ref z.1).eraseIdx r.toNat) = (l1 ++ l2).map fun z => Val.ref z.1 := by
    rw [el, ← ll, List.map_append, List.map_cons]
    have := erase_mid (l1.map fun z => Val.ref z.1) (l2.map fun z => Val.ref z.1) (Val.ref z.1)
    rw [List.length_map] at this
    rw [this, List.map_append]
  rw [ee]
  -- the list without the rest
  have s2 := Stp.set (o := o) (h := h1) (Ob.lst ((l1 ++ l2).map fun z => Val.ref z.1)) rL
  have I2 : Inv o (h1.set L (Ob.lst ((l1 ++ l2).map fun z => Val.ref z.1))) [F] pl (z :: (l1 ++ l2)) := by
    refine ((I1.stp s2 ben_ls (I1.st.stp s2 I1.r2 I1.r1 nofun nofun)).perm ?_)
    rw [el]
    exact List.perm_middle
  have hL2 : (h1.set L (Ob.lst ((l1 ++ l2).map fun z => Val.ref z.1)))[L]? = some (Ob.lst ((l1 ++ l2).map fun z => Val.ref z.1)) := get_set hL1
  generalize h1.set L (Ob.lst ((l1 ++ l2).map fun z => Val.ref z.1)) = h2 at I2 hL2
  simp only [k__law_many_forks_8]
  simp [hL2]
  have el2 : l1.length + l2.length = ((l1 ++ l2).map fun z => Val.ref z.1).length := by simp
  rw [el2]
  clear ee s2 el el2
  generalize l1 ++ l2 = ls at I2 hL2 ⊢
  refine for_lst (MfC F L pg z ls v5 y4) ⟨o, pl, y7, by simpa using I2, hL2, rL, hc, rfl⟩ (fun i ρ h' _ ⟨o, pl, y7, _, b, _⟩ => b) ?_ ?_
  · rintro i v ρ h3 hx ⟨o3, pl3, y, I3, hL3, rL3, hc3, rfl⟩
    rw [List.getElem?_map] at hx
    cases hu : ls[i]? with
    | none => rw [hu] at hx; cases hx
    | some w =>
      rw [hu] at hx; cases hx
      have hi := (List.getElem?_eq_some_iff.mp hu).1
      have ed : ls.drop i = w :: ls.drop (i + 1) := by
        rw [List.drop_eq_getElem_cons hi, (List.getElem?_eq_some_iff.mp hu).2]
      rw [ed] at I3
      obtain ⟨wa, wx⟩ := w
      have R3 : RowAt o3 h3 wa wx := I3.ro (wa, wx) (by simp)
      simp [R3.ob, R3.sp.ob]
      refine close_inv (l1 := [z]) (a := wa) (x := wx) (l2 := ls.drop (i + 1)) (by omega) I3 fun h4 pl4 s4 I4 ln4 => ?_
      simp
      exact ⟨o3, pl4, _, I4, s4.get hL3 rL3 nh_ls, rL3, (ln4 F).trans hc3, rfl⟩
  · rintro ρ h3 ⟨o3, pl3, y, I3, hL3, rL3, hc3, rfl⟩
    rw [List.length_map, List.drop_length] at I3
    simp only [k__law_many_forks_9]
    simp
    refine ⟨by decide, ?_⟩
    have s4 := Stp.new (fun _ => False) o3 h3 (Ob.lst [.ref z.1]) .oth
    have I4 := I3.no s4
    refine alone_ok (by omega) I4 (as := [z]) (get_new _ _) (by simp) fun o5 h5 s5 => ?_
    have I5 := I4.no s5
    obtain ⟨za, zx⟩ := z
    have R5 : RowAt o5 h5 za zx := I5.ro (za, zx) (by simp)
    simp [R5.ob, R5.sp.ob]
    refine close_inv (l1 := []) (a := za) (x := zx) (l2 := []) (by omega) I5 fun h6 pl6 s6 I6 ln6 => ?_
    simp
    have lF : (pl6 F).cs.length = 2 * pg := (ln6 F).trans hc3
    have fa : freeL (pl6 F).cs (pl6 F).cs.length = List.range (2 * pg) := by
      rw [← lF]
      exact free_all fun f c e => by
        have := I6.ct F (by simp) f c e
        simpa [used_nil] using this
    refine rng_list h6 (2 * pg) (by omega) ?_ ?_
    · simp [mul_ok (show (-(2 ^ 64) < (2 : Int) ∧ (2 : Int) < 2 ^ 64) ∨ (-(2 ^ 64) < (pg : Int) ∧ (pg : Int) < 2 ^ 64) from .inl (by decide))]
    · have I7 := I6.no (Stp.new (fun _ => False) o5 h6 (Ob.lst ((List.range (2 * pg)).map fun i => Val.int (i : Nat))) .oth)
      have P7 := I7.po F (by simp)
      have fr := free_ok (show 1 ≤ d by omega) P7
      rw [fa] at fr
      simp [P7.ob, fr]
      have A := alk_eq (xs := (List.range (2 * pg)).map fun i => Val.int (i : Nat)) (h := h6 ++ [Ob.lst ((List.range (2 * pg)).map fun i => Val.int (i : Nat)), Ob.lst ((List.range (2 * pg)).map fun i => Val.int (i : Nat))]) (a := h6.length) (b := h6.length + 1) (by simp) (by simp) ints_are (by simp; omega)
      have := alike_ok 1 d (by omega) _ _ _ A
      simp [this]
theorem mf_mid {d : Nat} (hd : 12 ≤ d) {F L pg : Nat} {o : Ow} {h : Mem} {pl : Nat → Pool} {rs : List (Nat × Row)} {y4 : Option Val} {X : XQ} (I : Inv o h [F] pl rs) (hL : h[L]? = some (.lst (rs.map fun z => Val.ref z.1))) (rL : o L = .ls)
    (n1 : 1 ≤ rs.length) (n2 : rs.length ≤ 200) (hc : (pl F).cs.length = 2 * pg) (p1 : 1 ≤ pg) (p2 : pg ≤ 16) (aF : ∀ z ∈ rs, z.2.F = F) {ps0 : List (Option Nat)} (aps : ∀ z ∈ rs, z.2.ps = ps0) (hps : ps0.length = pg) :
    Fw ((sSeq (k__law_many_forks_4 (callF Γ d)) (sSeq (k__law_many_forks_5 (callF Γ d)) (sSeq (k__law_many_forks_6 (callF Γ d)) (sSeq (k__law_many_forks_7 (callF Γ d)) (sSeq (k__law_many_forks_8 (callF Γ d)) (k__law_many_forks_9 (callF Γ d))))))) [some (.ref 2), some (.int pg), some (.ref F), some (.ref L), y4, none, none, none] h) (PT X) := by
  have m8 : mulOk 8 (pg : Int) = true := mul_ok (by omega)
  have tail : ∀ (o4 : Ow) (h4 : Mem) (pl4 : Nat → Pool) (rs4 : List (Nat × Row)) (z4 : Nat × Row), z4 ∈ rs4 → Inv o4 h4 [F] pl4 rs4 → h4[L]? = some (.lst (rs4.map fun z => Val.ref z.1)) → o4 L = .ls → 1 ≤ rs4.length → rs4.length ≤ 200 → (pl4 F).cs.length = 2 * pg → (∀ z ∈ rs4, z.2.F = F) →
      Fw ((sSeq (k__law_many_forks_6 (callF Γ d)) (sSeq (k__law_many_forks_7 (callF Γ d)) (sSeq (k__law_many_forks_8 (callF Γ d)) (k__law_many_forks_9 (callF Γ d))))) [some (.ref 2), some (.int pg), some (.ref F), some (.ref L), y4, some (.ref z4.1), none, none] h4) (PT X) := by
    intro o4 h4 pl4 rs4 z4 hz4 I4 hL4 rL4 m1 m2 hc4 aF4
    rw [w_sSeq]
    simp only [k__law_many_forks_6]
    simp [wipeE, small62]
    refine lc_rng (fun i acc h' => Inv o4 h' [F] pl4 rs4 ∧ h'[L]? = some (.lst (rs4.map fun z => Val.ref z.1)) ∧ ∃ as : List (Nat × Row), acc = as.map (fun z => Val.ref z.1) ∧ as.length = i ∧ ∀ w ∈ as, w ∈ rs4) ⟨I4, hL4, [], rfl, rfl, nofun⟩ ?_ ?_
    · rintro i acc h5 hi ⟨I5, hL5, as, rfl, la, ha⟩
      simp [hL5]
      refine take_then (take_ok (by omega)) I5.st (by omega) fun r h6 r1 r2 dr => ?_
      have hr : r.toNat < rs4.length := by omega
      obtain ⟨w, g1, g2⟩ := map_get hr
      have hL6 := dr.get hL5 (ne2 I5 rL4)
      simp [hL6, atI_pos _ r1, g1]
      refine ⟨by rw [sizeLine_eq]; omega, I5.draw dr, as ++ [w], by simp, by simp [la], fun ua ub hu => ?_⟩
      have hu : (ua, ub) ∈ as ++ [w] := hu
      rcases List.mem_append.mp hu with k | k
      · exact ha _ k
      · rw [List.mem_singleton.mp k]; exact List.mem_of_getElem? g1
    · rintro acc h5 ⟨I5, hL5, as, rfl, la, ha⟩
      have q1 : ∀ y, (h5 ++ [y])[h5.length]? = some y := fun y => get_new _ _
      have q2 : ∀ y z, (h5 ++ [y, z])[h5.length + 1]? = some z := fun y z => by simp
      have q3 : ∀ y z, (h5 ++ [y, z])[h5.length]? = some y := fun y z => by simp
      simp [la, q1, q2, q3]
      refine ⟨by decide, by decide, by decide, ?_⟩
      have s6 := Stp.app (fun _ => False) o4 h5 [Ob.lst (as.map fun z => Val.ref z.1), Ob.lst [.ref z4.1], Ob.lst (as.map (fun z => Val.ref z.1) ++ [.ref z4.1])]
      have I6 := I5.no s6
      refine alone_ok (by omega) I6 (as := as ++ [z4]) (by simp) (fun u hu => ?_) fun o7 h7 s7 => ?_
      · rcases List.mem_append.mp hu with k | k
        · exact ha u k
        · rw [List.mem_singleton.mp k]; exact hz4
      · simp
        have s57 := s6.trans s7 (R := fun _ => False) (fun _ z => z) (fun _ z => z)
        have := mf_end (v5 := .ref z4.1) (y4 := y4) (y6 := none) (y7 := none) (X := X) (show 10 ≤ d by omega) (I5.no s57) (s57.get hL5 rL4 (fun z => z)) ((s57.own L (lt_of_get hL5)).trans rL4) m1 m2 hc4 p2 aF4
        simpa only [w_sSeq] using this
  rw [w_sSeq]
  simp only [k__law_many_forks_4]
  simp [hL]
  refine take_then (take_ok (by omega)) I.st (by omega) fun r h1 r1 r2 dr => ?_
  have I1 := I.draw dr
  have hL1 := dr.get hL (ne2 I rL)
  have hr : r.toNat < rs.length := by omega
  obtain ⟨z, g1, g2⟩ := map_get hr
  obtain ⟨l1, l2, el, ll⟩ := split_at g1
  simp [hL1, atI_pos _ r1, g1]
  simp only [k__law_many_forks_5]
  simp [m8]
  refine take_then (take_ok (by omega)) I1.st (by omega) fun ad h2 _ _ d2 => ?_
  try simp
  have I2 := I1.draw d2
  refine word_ok (by omega) d2.st I2.r2 fun v o3 h3 v0 v1 s3 st3 => ?_
  try simp
  refine ⟨by decide, ?_⟩
  have I3 := I2.stp s3 ben_st st3
  have hL2 := d2.get hL1 (ne2 I1 rL)
  have hL3 := s3.get hL2 rL nofun
  have rL3 := s3.role hL2 rL
  have hz : z ∈ rs := List.mem_of_getElem? g1
  obtain ⟨za, zx⟩ := z
  have av := avail_forks I3 hz (fun w hw => (aps w hw).trans (aps _ hz).symm) (by show zx.ps.length < (pl zx.F).cs.length; have e1 : zx.F = F := aF _ hz; have e2 : zx.ps = ps0 := aps _ hz; rw [e1, hc, e2]; omega)
  rw [el] at I3
  refine step_write (l1 := l1) (l2 := l2) (a := za) (x := zx) (by omega) I3 _ v0 v1 (fun k u _ _ => av) fun o4 h4 pl4 y s4 I4 yF yl ln => ?_
  simp
  have em : rs.map (fun z => Val.ref z.1) = (l1 ++ (za, y) :: l2).map fun z => Val.ref z.1 := by rw [el]; simp
  have lm : rs.length = (l1 ++ (za, y) :: l2).length := by rw [el]; simp
  have := tail o4 h4 pl4 (l1 ++ (za, y) :: l2) (za, y) (mem_mid.mpr (.inl rfl)) I4 (by rw [← em]; exact s4.get hL3 rL3 nh_ls) ((s4.own L (lt_of_get hL3)).trans rL3) (by omega) (by omega) ((ln F).trans hc) (fun w hw => by
    rcases mem_mid.mp hw with e | e
    · rw [e]; exact yF.trans (aF _ hz)
    · exact aF w (by rw [el]; exact mem_mid.mpr (.inr e)))
  simpa only [w_sSeq] using this
end K04
set_option Elab.async false
set_option linter.all false
set_option maxRecDepth 100000
set_option maxHeartbeats 1000000
namespace K04
open Mp PySem L2
abbrev mfTail4 (c : CallT) : MS := (sSeq (k__law_many_forks_4 c) (sSeq (k__law_many_forks_5 c) (sSeq (k__law_many_forks_6 c) (sSeq (k__law_many_forks_7 c) (sSeq (k__law_many_forks_8 c) (k__law_many_forks_9 c))))))
theorem mf_fork {d : Nat} (hd : 12 ≤ d) {F a L pg : Nat} {o : Ow} {h : Mem} {pl : Nat → Pool} {x : Row} {y4 : Option Val} {X : XQ} (I : Inv o h [F] pl [(a, x)]) (hL : h[L]? = some (.lst [.ref a])) (rL : o L = .ls)
    (xF : x.F = F) (xp : x.ps.length = pg) (hc : (pl F).cs.length = 2 * pg) (p1 : 1 ≤ pg) (p2 : pg ≤ 16) :
    Fw ((sSeq (k__law_many_forks_3 (callF Γ d)) (mfTail4 (callF Γ d))) [some (.ref 2), some (.int pg), some (.ref F), some (.ref L), y4, none, none, none] h) (PT X) := by
  rw [w_sSeq]
  simp only [k__law_many_forks_3]
  simp
  refine take_then (take_ok (by omega)) I.st (by decide) fun r h1 r1 r2 dr => ?_
  have I1 := I.draw dr
  have hL1 := dr.get hL (ne2 I rL)
  simp
  refine ⟨by unfold small62; simp; omega, ?_⟩
  refine for_rng (MfB F a L pg) ⟨o, pl, x, [], y4, I1, hL1, rL, rfl, xp, nofun, by simpa using xF, hc, rfl⟩ ?_ ?_
  · rintro i ρ h2 hi ⟨o2, pl2, x2, rs2, y, I2, hL2, rL2, li, xp2, ap, aF, hc2, rfl⟩
    have R2 : RowAt o2 h2 a x2 := I2.ro (a, x2) (by simp)
    simp [hL2, R2.ob, R2.sp.ob]
    refine fork_inv (z := (a, x2)) (by omega) I2 (by simp) fun o3 o4 h3 pl3 y s3 s4 I4 yF yps ln zr q1 q2 => ?_
    have hL3 := s3.get hL2 rL2 nh_ls
    have g4 : ∀ m, (h3 ++ m)[L]? = some (.lst (((a, x2) :: rs2).map fun z => Val.ref z.1)) := fun m => get_app _ hL3
    simp only at q1 q2
    have hl : x2.ws.length ≤ sizeLine := by
      have := I2.len8 (z := (a, x2)) (by simp)
      simp only at this
      rw [sizeLine_eq]
      omega
    simp only [List.map_cons] at hL3 g4
    simp [hL3, q1, q2, g4, hl]
    refine ⟨by decide, by rw [sizeLine_eq]; omega, ?_⟩
    have hL4 : (h3 ++ [Ob.lst (x2.ws.map .int), Ob.lst [.ref y.S, .ref h3.length]])[L]? = some (.lst (((a, x2) :: rs2).map fun z => Val.ref z.1)) := g4 _
    have rL4 := s4.role hL2 rL2
    have s5 := Stp.set (o := o4) (h := h3 ++ [Ob.lst (x2.ws.map .int), Ob.lst [.ref y.S, .ref h3.length]]) (Ob.lst (Val.ref a :: ((rs2.map fun z => Val.ref z.1) ++ [.ref (h3.length + 1)]))) rL4
    refine ⟨o4, pl3, x2, rs2 ++ [(h3.length + 1, y)], _, I4.stp s5 ben_ls (I4.st.stp s5 I4.r2 I4.r1 nofun nofun), ?_, rL4, by simp [li], xp2, fun z hz => ?_, fun z hz => ?_, (ln F).trans hc2, rfl⟩
    · rw [get_set hL4]
      simp
    · rcases List.mem_append.mp hz with k | k
      · exact ap z k
      · rw [List.mem_singleton.mp k]; exact yps
    · rcases List.mem_cons.mp hz with k | k
      · rw [k]; exact aF _ (by simp)
      · rcases List.mem_append.mp k with k | k
        · exact aF z (List.mem_cons_of_mem _ k)
        · rw [List.mem_singleton.mp k]; exact yF.trans (aF _ (by simp))
  · rintro ρ h2 ⟨o2, pl2, x2, rs2, y, I2, hL2, rL2, li, xp2, ap, aF, hc2, rfl⟩
    simp only [w_sSkip]
    have := mf_mid (y4 := y) (X := X) hd I2 hL2 rL2 (by simp) (by simp; omega) hc2 p1 p2 aF (ps0 := x2.ps) (fun z hz => by
      rcases List.mem_cons.mp hz with k | k
      · rw [k]
      · exact ap z k) xp2
    simpa only [w_sSeq] using this
theorem mf_write {d : Nat} (hd : 12 ≤ d) {F a L pg : Nat} {o : Ow} {h : Mem} {pl : Nat → Pool} {x : Row} {y4 : Option Val} {X : XQ} (I : Inv o h [F] pl [(a, x)]) (hL : h[L]? = some (.lst [.ref a])) (rL : o L = .ls)
    (xF : x.F = F) (xp : x.ps.length = pg) (hc : (pl F).cs.length = 2 * pg) (p1 : 1 ≤ pg) (p2 : pg ≤ 16) :
    Fw ((sSeq (k__law_many_forks_2 (callF Γ d)) (sSeq (k__law_many_forks_3 (callF Γ d)) (mfTail4 (callF Γ d)))) [some (.ref 2), some (.int pg), some (.ref F), some (.ref L), y4, none, none, none] h) (PT X) := by
  have m8 : mulOk 8 (pg : Int) = true := mul_ok (by omega)
  rw [w_sSeq]
  simp only [k__law_many_forks_2]
  simp
  refine take_then (take_ok (by omega)) I.st (by decide) fun r h1 r1 r2 dr => ?_
  have I1 := I.draw dr
  have hL1 := dr.get hL (ne2 I rL)
  simp
  refine ⟨by unfold small62; simp; omega, ?_⟩
  refine for_rng (MfA F a L pg) ⟨o, pl, x, y4, I1, hL1, rL, xF, xp, hc, rfl⟩ ?_ ?_
  · rintro i ρ h2 hi ⟨o2, pl2, x2, y, I2, hL2, rL2, xF2, xp2, hc2, rfl⟩
    simp [hL2, m8]
    refine take_then (take_ok (by omega)) I2.st (by omega) fun ad h3 _ _ d3 => ?_
    try simp
    have I3 := I2.draw d3
    refine word_ok (by omega) d3.st I3.r2 fun v o4 h4 v0 v1 s4 st4 => ?_
    try simp
    refine ⟨by decide, ?_⟩
    have I4 := I3.stp s4 ben_st st4
    have hL3 := d3.get hL2 (ne2 I2 rL2)
    have hL4 := s4.get hL3 rL2 nofun
    have rL4 := s4.role hL3 rL2
    refine step_write (l1 := []) (l2 := []) (a := a) (x := x2) (by omega) I4 _ v0 v1 (fun k u hk hu => I4.avail (z := (a, x2)) (by simp) (by simp [pagesOf, xF2, hc2, xp2]; omega) hk hu) fun o5 h5 pl5 y s5 I5 yF yl ln => ?_
    simp
    exact ⟨o5, pl5, y, _, I5, s5.get hL4 rL4 nh_ls, s5.role hL4 rL4, yF.trans xF2, yl.trans xp2, (ln F).trans hc2, rfl⟩
  · rintro ρ h2 ⟨o2, pl2, x2, y, I2, hL2, rL2, xF2, xp2, hc2, rfl⟩
    simp only [w_sSkip]
    have := mf_fork (y4 := y) (X := X) hd I2 hL2 rL2 xF2 xp2 hc2 p1 p2
    simpa only [w_sSeq] using this
theorem forks_ok {e : Nat} (he : 13 ≤ e) {o : Ow} {h : Mem} (st : St h) (h2 : o 2 = .st) (h1 : o 1 = .sc) {pg : Nat} (p1 : 1 ≤ pg) (p2 : pg ≤ 16) {X : XQ} : (callF Γ e "_law_many_forks" [.ref 2, .int pg] h).W (fun v _ => v = .bl true) X := by
  obtain ⟨d, rfl⟩ : ∃ d, e = d + 1 := ⟨e - 1, by omega⟩
  rw [c__law_many_forks, W_fin, s__law_many_forks_eq]
  have m2 : mulOk 2 (pg : Int) = true := mul_ok (by omega)
  rw [w_sSeq]
  simp only [k__law_many_forks_0]
  simp [m2]
  have e2 : (2 : Int) * (pg : Int) = ((2 * pg : Nat) : Int) := by omega
  rw [e2]
  refine frames_new (by omega) o (by omega) (by omega) fun o3 h3 p s3 P3 c3 w3 => ?_
  try simp
  have l3 := st.lt
  have I3 : Inv o3 h3 [h.length] (fun _ => p) [] := inv0 (st.stp s3 h2 h1 (fun z => z) (fun z => z)) ((s3.own 2 (by omega)).trans h2) ((s3.own 1 (by omega)).trans h1) (fun F hF => by rw [List.mem_singleton.mp hF]; exact P3) (fun F hF => ⟨2 * pg, c3, w3⟩)
  simp only [k__law_many_forks_1]
  simp
  refine new_ok (by omega) I3 (by simp) p1 p2 fun o4 h4 a x s4 ha I4 xF xps => ?_
  try simp
  refine ⟨by decide, ?_⟩
  have s5 := Stp.new (fun _ => False) o4 h4 (Ob.lst [.ref a]) .ls
  have := mf_write (X := X) (y4 := none) (show 12 ≤ d by omega) (I4.no s5) (get_new _ _) (upO_at _ _ _) xF (by rw [xps]; simp) (by simp [c3]) p1 p2
  simpa using this
end K04
set_option Elab.async false
set_option linter.all false
set_option maxRecDepth 100000
set_option maxHeartbeats 1000000
namespace K04
open Mp PySem L2
def frs (pl : Nat → Pool) (F : Nat) : List Val := (freeL (pl F).cs (pl F).cs.length).map fun j => Val.int (j : Nat)
structure FrA (o : Ow) (h : Mem) (a : Nat) (l1 l2 : List Val) : Prop where
  ex : ∃ b c, h[a]? = some (.lst [.ref b, .ref c]) ∧ h[b]? = some (.lst l1) ∧ h[c]? = some (.lst l2) ∧ o a = .oth ∧ o b = .oth ∧ o c = .oth
section
variable {o o' : Ow} {h h' : Mem} {Fs : List Nat} {pl pl' : Nat → Pool} {rs rs' : List (Nat × Row)}
theorem FrA.stp {R : Ro → Prop} {a : Nat} {l1 l2 : List Val} (f : FrA o h a l1 l2) (s : Stp R o o' h h') (n : ¬ R .oth) : FrA o' h' a l1 l2 := by
  obtain ⟨b, c, e1, e2, e3, r1, r2, r3⟩ := f
  exact ⟨b, c, s.get e1 r1 n, s.get e2 r2 n, s.get e3 r3 n, s.role e1 r1, s.role e2 r2, s.role e3 r3⟩
theorem freeL_len (cs : List Int) (n : Nat) : (freeL cs n).length ≤ n := by
  unfold freeL
  have := List.length_filter_le (fun j => cs[j]? == some 0) (List.range n)
  simpa using this
theorem frees_ok {d : Nat} (hd : 1 ≤ d) (I : Inv o h Fs pl rs) {F1 F2 : Nat} (m1 : F1 ∈ Fs) (m2 : F2 ∈ Fs) {ρ : Mp.Env} (e1 : ρ[4]? = some (some (.ref F1))) (e2 : ρ[5]? = some (some (.ref F2))) {Q : Val → Mem → Prop} {X : XQ}
    (q : ∀ o' h' a, Stp (fun _ => False) o o' h h' → FrA o' h' a (frs pl F1) (frs pl F2) → Q (.ref a) h') : (eLst (aCons (eAttr Γ (callF Γ d) "free" (eVar 4)) (aCons (eAttr Γ (callF Γ d) "free" (eVar 5)) aNil)) ρ h).W Q X := by
  have P1 := I.po F1 m1
  have s1 := Stp.new (fun _ => False) o h (Ob.lst (frs pl F1)) .oth
  have I1 := I.no s1
  have P2 := I1.po F2 m2
  have s2 := Stp.new (fun _ => False) (upO o h.length .oth) (h ++ [Ob.lst (frs pl F1)]) (Ob.lst (frs pl F2)) .oth
  have f1 := free_ok hd P1
  have f2 := free_ok hd P2
  have f1 : callF Γ d "Frames.free" [.ref F1] h = .ok (.ref h.length) (h ++ [Ob.lst (frs pl F1)]) := f1
  have f2 : callF Γ d "Frames.free" [.ref F2] (h ++ [Ob.lst (frs pl F1)]) = .ok (.ref (h ++ [Ob.lst (frs pl F1)]).length) (h ++ [Ob.lst (frs pl F1)] ++ [Ob.lst (frs pl F2)]) := f2
  have s3 := Stp.new (fun _ => False) (upO (upO o h.length .oth) (h ++ [Ob.lst (frs pl F1)]).length .oth) (h ++ [Ob.lst (frs pl F1)] ++ [Ob.lst (frs pl F2)]) (Ob.lst [.ref h.length, .ref (h.length + 1)]) .oth
  simp [e1, e2, P1.ob, f1, P2.ob, f2]
  refine ⟨by decide, ?_⟩
  have s := (s1.trans s2 (R := fun _ => False) (fun _ z => z) (fun _ z => z)).trans s3 (R := fun _ => False) (fun _ z => z) (fun _ z => z)
  have fa : FrA (upO (upO (upO o h.length .oth) (h ++ [Ob.lst (frs pl F1)]).length .oth) (h ++ [Ob.lst (frs pl F1)] ++ [Ob.lst (frs pl F2)]).length .oth) (h ++ [Ob.lst (frs pl F1)] ++ [Ob.lst (frs pl F2)] ++ [Ob.lst [.ref h.length, .ref (h.length + 1)]]) (h.length + 2) (frs pl F1) (frs pl F2) := by
    refine ⟨h.length, h.length + 1, by simp, by simp, by simp, ?_, ?_, ?_⟩
    · unfold upO; simp
    · unfold upO; simp
    · unfold upO; simp
  have := q _ _ (h.length + 2) s fa
  simpa using this
theorem frs_same (I : Inv o h Fs pl rs) (I' : Inv o' h' Fs pl' rs') {F : Nat} (m : F ∈ Fs) (ln : (pl' F).cs.length = (pl F).cs.length) (us : ∀ f, f ∈ used rs F ↔ f ∈ used rs' F) : frs pl F = frs pl' F := by
  unfold frs
  congr 1
  rw [ln]
  unfold freeL
  apply List.filter_congr
  intro j hj
  have hj : j < (pl F).cs.length := by simpa using hj
  have hj' : j < (pl' F).cs.length := by omega
  have e1 := List.getElem?_eq_getElem hj
  have e2 := List.getElem?_eq_getElem hj'
  have c1 := I.ct F m j _ e1
  have c2 := I'.ct F m j _ e2
  rw [e1, e2, c1, c2]
  have k1 : 0 < (used rs F).count j ↔ 0 < (used rs' F).count j := by rw [List.count_pos_iff, List.count_pos_iff]; exact us j
  rcases Nat.eq_zero_or_pos ((used rs F).count j) with z | z
  · have z2 : (used rs' F).count j = 0 := by omega
    rw [z, z2]
  · have z2 := k1.mp z
    have n1 : ((used rs F).count j : Int) ≠ 0 := by omega
    have n2 : ((used rs' F).count j : Int) ≠ 0 := by omega
    rw [beq_eq_false_iff_ne.mpr (fun e => n1 (Option.some.inj e)), beq_eq_false_iff_ne.mpr (fun e => n2 (Option.some.inj e))]
theorem frees_alike {d : Nat} (hd : 3 ≤ d) (I : Inv o h Fs pl rs) {a b : Nat} {F1 F2 : Nat} (m1 : F1 ∈ Fs) (m2 : F2 ∈ Fs) (A : FrA o h a (frs pl F1) (frs pl F2)) (B : FrA o h b (frs pl F1) (frs pl F2)) : callF Γ d "_law_alike" [.ref a, .ref b] h = .ok (.bl true) h := by
  obtain ⟨b1, c1, e1, e2, e3, _⟩ := A
  obtain ⟨b2, c2, u1, u2, u3, _⟩ := B
  have lim : ∀ F ∈ Fs, (frs pl F).length < 2 ^ 62 := fun F hF => by
    unfold frs
    rw [List.length_map]
    have := freeL_len (pl F).cs (pl F).cs.length
    have := (I.po F hF).lim
    omega
  refine alike_ok 2 d (by omega) _ _ h (.lst a b _ _ e1 u1 rfl (by simp) fun i x y hx hy => ?_)
  match i, hx, hy with
  | 0, hx, hy =>
    cases hx
    cases hy
    exact alk_eq e2 u2 ints_are (lim _ m1)
  | 1, hx, hy =>
    cases hx
    cases hy
    exact alk_eq e3 u3 ints_are (lim _ m2)
theorem pages_le {top : Nat} (F : Nat) : ∀ (rs : List (Nat × Row)), (∀ z ∈ rs, z.2.ps.length ≤ top) → pagesOf rs F ≤ rs.length * top
  | [], _ => Nat.zero_le _
  | z :: r, h => by
    have h1 := pages_le F r fun y hy => h y (List.mem_cons_of_mem _ hy)
    have h2 := h z List.mem_cons_self
    simp only [pagesOf, List.map_cons, List.sum_cons, List.length_cons, Nat.succ_mul] at h1 ⊢
    split <;> omega
end
structure LwI (F1 F2 L sz C s0 s1 top : Nat) (cs : List Val) (i : Nat) (ρ : Mp.Env) (h : Mem) : Prop where
  ex : ∃ o pl rs y7 y8 y9 y10, Inv o h [F1, F2] pl rs ∧ h[L]? = some (.lst (rs.map fun z => Val.ref z.1)) ∧ o L = .ls ∧ h[sz]? = some (.lst [.int s0, .int s1]) ∧ o sz = .oth ∧ h[C]? = some (.lst cs) ∧ o C = .oth ∧ 1 ≤ rs.length ∧ rs.length ≤ 4 ∧ (∀ z ∈ rs, z.2.ps.length ≤ top) ∧
    4 * top ≤ (pl F1).cs.length ∧ 4 * top ≤ (pl F2).cs.length ∧ ρ = [some (.ref 0), some (.ref 2), some (.ref sz), some (.int top), some (.ref F1), some (.ref F2), some (.ref L), y7, y8, y9, y10]
abbrev lwEnv (F1 F2 L sz top : Nat) (y7 y8 y9 y10 : Option Val) : Mp.Env := [some (.ref 0), some (.ref 2), some (.ref sz), some (.int top), some (.ref F1), some (.ref F2), some (.ref L), y7, y8, y9, y10]
theorem law_pre {d : Nat} (hd : 1 ≤ d) {F1 F2 L sz top : Nat} {o : Ow} {h : Mem} {pl : Nat → Pool} {rs : List (Nat × Row)} {ts : List Val} {who : Int} (t1 : ts[1]? = some (.int who)) (I : Inv o h [F1, F2] pl rs) (hL : h[L]? = some (.lst (rs.map fun z => Val.ref z.1))) (n1 : 1 ≤ rs.length) {y8 y9 y10 : Option Val} {K : MS} {P : Po}
    (q : ∀ o' h' a i z, rs[i]? = some z → Stp (fun _ => False) o o' h h' → FrA o' h' a (frs pl F1) (frs pl F2) → Fw (K (lwEnv F1 F2 L sz top (some (.tup ts)) (some (.int (i : Nat))) (some (.ref z.1)) (some (.ref a))) h') P) :
    Fw ((sSeq (k_law_7 (callF Γ d)) (sSeq (k_law_8 (callF Γ d)) (sSeq (k_law_9 (callF Γ d)) K))) (lwEnv F1 F2 L sz top (some (.tup ts)) y8 y9 y10) h) P := by
  have m := mod_lt who (b := (rs.length : Int)) (by omega)
  obtain ⟨i, hi, ei⟩ : ∃ i : Nat, i < rs.length ∧ who % (rs.length : Int) = (i : Int) := ⟨(who % (rs.length : Int)).toNat, by omega, by omega⟩
  obtain ⟨z, g1, g2⟩ := map_get hi
  rw [w_sSeq]
  simp only [k_law_7]
  simp [hL, t1, ei]
  refine ⟨by omega, ?_⟩
  simp only [k_law_8]
  simp [hL, Mp.atI_nat, g1]
  simp only [k_law_9, w_sSet]
  refine frees_ok hd I (by simp) (by simp) rfl rfl fun o' h' a s A => ?_
  simpa using q o' h' a i z g1 s A
theorem c_ff (h : Mem) : cmpop .Eq h (.str "fork") (.str "fork") = some true := by rw [cmp_eq_str (by kernel_rfl) (by kernel_rfl)]; kernel_rfl
theorem c_cf (h : Mem) : cmpop .Eq h (.str "close") (.str "fork") = some false := by rw [cmp_eq_str (by kernel_rfl) (by kernel_rfl)]; kernel_rfl
theorem c_rf (h : Mem) : cmpop .Eq h (.str "read") (.str "fork") = some false := by rw [cmp_eq_str (by kernel_rfl) (by kernel_rfl)]; kernel_rfl
theorem c_wf (h : Mem) : cmpop .Eq h (.str "write") (.str "fork") = some false := by rw [cmp_eq_str (by kernel_rfl) (by kernel_rfl)]; kernel_rfl
theorem c_cc (h : Mem) : cmpop .Eq h (.str "close") (.str "close") = some true := by rw [cmp_eq_str (by kernel_rfl) (by kernel_rfl)]; kernel_rfl
theorem c_rc (h : Mem) : cmpop .Eq h (.str "read") (.str "close") = some false := by rw [cmp_eq_str (by kernel_rfl) (by kernel_rfl)]; kernel_rfl
theorem c_wc (h : Mem) : cmpop .Eq h (.str "write") (.str "close") = some false := by rw [cmp_eq_str (by kernel_rfl) (by kernel_rfl)]; kernel_rfl
theorem i_r (h : Mem) : cmpop .In h (.str "read") (.tup [.str "read", .str "fork"]) = some true := by kernel_rfl
theorem i_f (h : Mem) : cmpop .In h (.str "fork") (.tup [.str "read", .str "fork"]) = some true := by kernel_rfl
theorem i_w (h : Mem) : cmpop .In h (.str "write") (.tup [.str "read", .str "fork"]) = some false := by kernel_rfl
theorem i_c (h : Mem) : cmpop .In h (.str "close") (.tup [.str "read", .str "fork"]) = some false := by kernel_rfl
section
variable {d F1 F2 L sz C s0 s1 top i : Nat} {cs : List Val} {o : Ow} {h : Mem} {pl : Nat → Pool} {rs : List (Nat × Row)} {ts : List Val} {y8 y9 : Option Val} {P : Po}
/-- the end of a turn: no question of the free frames -/
theorem law_alone (hd : 8 ≤ d) {y7 y10 : Option Val} (I : Inv o h [F1, F2] pl rs) (hL : h[L]? = some (.lst (rs.map fun z => Val.ref z.1))) (rL : o L = .ls) (hs : h[sz]? = some (.lst [.int s0, .int s1])) (rs0 : o sz = .oth) (hC : h[C]? = some (.lst cs)) (rC : o C = .oth) (n1 : 1 ≤ rs.length) (n4 : rs.length ≤ 4) (tp : ∀ z ∈ rs, z.2.ps.length ≤ top) (l1 : 4 * top ≤ (pl F1).cs.length) (l2 : 4 * top ≤ (pl F2).cs.length)
    (q : ∀ ρ h', LwI F1 F2 L sz C s0 s1 top cs (i + 1) ρ h' → P.nx ρ h') : Fw (k_law_12 (callF Γ d) (lwEnv F1 F2 L sz top y7 y8 y9 y10) h) P := by
  simp only [k_law_12]
  simp
  refine alone_ok (by omega) I hL (fun z hz => hz) fun o' h' s => ?_
  simp
  exact q _ _ ⟨o', pl, rs, _, _, _, _, I.no s, s.get hL rL (fun z => z), s.role hL rL, s.get hs rs0 (fun z => z), s.role hs rs0, s.get hC rC (fun z => z), s.role hC rC, n1, n4, tp, l1, l2, rfl⟩
theorem law_post0 (hd : 8 ≤ d) {a : Nat} (I : Inv o h [F1, F2] pl rs) (hL : h[L]? = some (.lst (rs.map fun z => Val.ref z.1))) (rL : o L = .ls) (hs : h[sz]? = some (.lst [.int s0, .int s1])) (rs0 : o sz = .oth) (hC : h[C]? = some (.lst cs)) (rC : o C = .oth) (n1 : 1 ≤ rs.length) (n4 : rs.length ≤ 4) (tp : ∀ z ∈ rs, z.2.ps.length ≤ top) (l1 : 4 * top ≤ (pl F1).cs.length) (l2 : 4 * top ≤ (pl F2).cs.length)
    {nm : Val} (t0 : ts[0]? = some nm) (hn : cmpop .In h nm (.tup [.str "read", .str "fork"]) = some false)
    (q : ∀ ρ h', LwI F1 F2 L sz C s0 s1 top cs (i + 1) ρ h' → P.nx ρ h') : Fw ((sSeq (k_law_11 (callF Γ d)) (k_law_12 (callF Γ d))) (lwEnv F1 F2 L sz top (some (.tup ts)) y8 y9 (some (.ref a))) h) P := by
  rw [w_sSeq]
  simp only [k_law_11]
  simp [t0, hn]
  exact ⟨by decide, law_alone hd I hL rL hs rs0 hC rC n1 n4 tp l1 l2 q⟩
theorem law_post1 (hd : 8 ≤ d) {a : Nat} (I : Inv o h [F1, F2] pl rs) (hL : h[L]? = some (.lst (rs.map fun z => Val.ref z.1))) (rL : o L = .ls) (hs : h[sz]? = some (.lst [.int s0, .int s1])) (rs0 : o sz = .oth) (hC : h[C]? = some (.lst cs)) (rC : o C = .oth) (n1 : 1 ≤ rs.length) (n4 : rs.length ≤ 4) (tp : ∀ z ∈ rs, z.2.ps.length ≤ top) (l1 : 4 * top ≤ (pl F1).cs.length) (l2 : 4 * top ≤ (pl F2).cs.length)
    {nm : Val} (t0 : ts[0]? = some nm) (hn : cmpop .In h nm (.tup [.str "read", .str "fork"]) = some true) (A : FrA o h a (frs pl F1) (frs pl F2))
    (q : ∀ ρ h', LwI F1 F2 L sz C s0 s1 top cs (i + 1) ρ h' → P.nx ρ h') : Fw ((sSeq (k_law_11 (callF Γ d)) (k_law_12 (callF Γ d))) (lwEnv F1 F2 L sz top (some (.tup ts)) y8 y9 (some (.ref a))) h) P := by
  rw [w_sSeq]
  simp only [k_law_11, w_sIf, w_tAnd, w_tE, w_eCmp, w_eIdx, w_eVar, w_tNot, w_eCall, w_aCons, w_aNil]
  simp [t0, hn, -w_eLst]
  refine ⟨by decide, ?_⟩
  refine frees_ok (by omega) I (by simp) (by simp) rfl rfl fun o' h' b s B => ?_
  have I' := I.no s
  have := frees_alike (show 3 ≤ d by omega) I' (by simp) (by simp) (A.stp s (fun z => z)) B
  simp [this]
  exact law_alone hd I' (s.get hL rL (fun z => z)) (s.role hL rL) (s.get hs rs0 (fun z => z)) (s.role hs rs0) (s.get hC rC (fun z => z)) (s.role hC rC) n1 n4 tp l1 l2 q
end
end K04
set_option Elab.async false
set_option linter.all false
set_option maxRecDepth 100000
set_option maxHeartbeats 1000000
namespace K04
open Mp PySem L2
section
variable {d F1 F2 L sz C q0 q1 top i : Nat} {cs : List Val} {X : XQ}
abbrev PB (X : XQ) (J : Mp.Env → Mem → Prop) (N : Mp.Env → Mem → Prop) : Po := ⟨J, fun v _ => v = Val.bl true, N, J, fun _ => X⟩
theorem room_of {o : Ow} {h : Mem} {pl : Nat → Pool} {rs : List (Nat × Row)} (I : Inv o h [F1, F2] pl rs) (n4 : rs.length ≤ 4) (tp : ∀ z ∈ rs, z.2.ps.length ≤ top) (l1 : 4 * top ≤ (pl F1).cs.length) (l2 : 4 * top ≤ (pl F2).cs.length) {z : Nat × Row} (hz : z ∈ rs) : pagesOf rs z.2.F ≤ (pl z.2.F).cs.length := by
  have h1 := pages_le z.2.F rs tp
  have h2 : rs.length * top ≤ 4 * top := Nat.mul_le_mul_right _ n4
  have h3 := I.fs z hz
  simp only [List.mem_cons, List.not_mem_nil, or_false] at h3
  rcases h3 with e | e <;> rw [e] at h1 ⊢ <;> omega
theorem turn_write (hd : 13 ≤ d) {who ad v : Int} (v0 : 0 ≤ v) (v1 : v ≤ 65535) {ρ : Mp.Env} {h : Mem} {N : Mp.Env → Mem → Prop} (J : LwI F1 F2 L sz C q0 q1 top cs i ρ h) :
    Fw (k_law_13 (callF Γ d) (ρ.set 7 (some (.tup [.str "write", .int who, .int ad, .int v]))) h) (PB X (LwI F1 F2 L sz C q0 q1 top cs (i + 1)) N) := by
  obtain ⟨o, pl, rs, y7, y8, y9, y10, I, hL, rL, hs, rs0, hC, rC, n1, n4, tp, l1, l2, rfl⟩ := J
  simp only [k_law_13]
  refine law_pre (who := who) (by omega) rfl I hL n1 fun o1 h1 a k z gz s1 A => ?_
  have I1 := I.no s1
  have hL1 := s1.get hL rL (fun z => z)
  have rL1 := s1.role hL rL
  rw [w_sSeq]
  simp only [k_law_10]
  simp [c_wf, c_wc]
  obtain ⟨l3, l4, el, ll⟩ := split_at gz
  obtain ⟨za, zx⟩ := z
  have hz : (za, zx) ∈ rs := List.mem_of_getElem? gz
  have av : ∀ (k : Nat) (u : Option Nat), zx.ps[k]? = some u → (∀ g, u = some g → (pl zx.F).cs[g]? ≠ some 1) → ∃ f : Nat, (pl zx.F).cs[f]? = some 0 := fun k u hk hu => I1.avail hz (room_of I1 n4 tp l1 l2 hz) hk hu
  rw [el] at I1
  refine step_write (l1 := l3) (l2 := l4) (a := za) (x := zx) (by omega) I1 _ v0 v1 av fun o2 h2 pl2 y s2 I2 yF yl ln => ?_
  simp
  have em : rs.map (fun z => Val.ref z.1) = (l3 ++ (za, y) :: l4).map fun z => Val.ref z.1 := by rw [el]; simp
  have lm : rs.length = (l3 ++ (za, y) :: l4).length := by rw [el]; simp
  have hs1 := s1.get hs rs0 (fun z => z)
  have rs1 := s1.role hs rs0
  have hC1 := s1.get hC rC (fun z => z)
  have rC1 := s1.role hC rC
  have := law_post0 (P := PB X (LwI F1 F2 L sz C q0 q1 top cs (i + 1)) N) (ts := [.str "write", .int who, .int ad, .int v]) (y8 := some (.int (k : Nat))) (y9 := some (.ref za)) (a := a) (show 8 ≤ d by omega) I2 (by rw [← em]; exact s2.get hL1 rL1 nh_ls) (s2.role hL1 rL1) (s2.get hs1 rs1 nh_oth) (s2.role hs1 rs1) (s2.get hC1 rC1 nh_oth) (s2.role hC1 rC1) (by omega) (by omega) (fun w hw => by
    rcases mem_mid.mp hw with e | e
    · rw [e]; show y.ps.length ≤ top; rw [yl]; exact tp _ hz
    · exact tp w (by rw [el]; exact mem_mid.mpr (.inr e))) (by rw [ln]; exact l1) (by rw [ln]; exact l2) rfl (i_w _) (fun ρ h' j => j)
  simpa using this
theorem turn_read (hd : 13 ≤ d) {who ad : Int} {ρ : Mp.Env} {h : Mem} {N : Mp.Env → Mem → Prop} (J : LwI F1 F2 L sz C q0 q1 top cs i ρ h) :
    Fw (k_law_13 (callF Γ d) (ρ.set 7 (some (.tup [.str "read", .int who, .int ad]))) h) (PB X (LwI F1 F2 L sz C q0 q1 top cs (i + 1)) N) := by
  obtain ⟨o, pl, rs, y7, y8, y9, y10, I, hL, rL, hs, rs0, hC, rC, n1, n4, tp, l1, l2, rfl⟩ := J
  simp only [k_law_13]
  refine law_pre (who := who) (by omega) rfl I hL n1 fun o1 h1 a k z gz s1 A => ?_
  have I1 := I.no s1
  have hL1 := s1.get hL rL (fun z => z)
  have rL1 := s1.role hL rL
  rw [w_sSeq]
  simp only [k_law_10]
  have hz : z ∈ rs := List.mem_of_getElem? gz
  have st := step_read (show 8 ≤ d by omega) I1 hz (ad := ad) (.int who)
  simp [c_rf, c_rc, st]
  have hs1 := s1.get hs rs0 (fun z => z)
  have rs1 := s1.role hs rs0
  have hC1 := s1.get hC rC (fun z => z)
  have rC1 := s1.role hC rC
  have := law_post1 (P := PB X (LwI F1 F2 L sz C q0 q1 top cs (i + 1)) N) (ts := [.str "read", .int who, .int ad]) (y8 := some (.int (k : Nat))) (y9 := some (.ref z.1)) (a := a) (show 8 ≤ d by omega) I1 hL1 rL1 hs1 rs1 hC1 rC1 n1 n4 tp l1 l2 rfl (i_r _) A (fun ρ h' j => j)
  simpa using this
theorem turn_fork (hd : 13 ≤ d) {who : Int} {ρ : Mp.Env} {h : Mem} {N : Mp.Env → Mem → Prop} (J : LwI F1 F2 L sz C q0 q1 top cs i ρ h) :
    Fw (k_law_13 (callF Γ d) (ρ.set 7 (some (.tup [.str "fork", .int who]))) h) (PB X (LwI F1 F2 L sz C q0 q1 top cs (i + 1)) N) := by
  obtain ⟨o, pl, rs, y7, y8, y9, y10, I, hL, rL, hs, rs0, hC, rC, n1, n4, tp, l1, l2, rfl⟩ := J
  simp only [k_law_13]
  refine law_pre (who := who) (by omega) rfl I hL n1 fun o1 h1 a k z gz s1 A => ?_
  have I1 := I.no s1
  have hL1 := s1.get hL rL (fun z => z)
  have rL1 := s1.role hL rL
  have hs1 := s1.get hs rs0 (fun z => z)
  have rs1 := s1.role hs rs0
  have hC1 := s1.get hC rC (fun z => z)
  have rC1 := s1.role hC rC
  have hz : z ∈ rs := List.mem_of_getElem? gz
  have R1 := I1.ro z hz
  rw [w_sSeq]
  simp only [k_law_10]
  simp [c_ff, hL1, R1.ob, R1.sp.ob]
  refine ⟨fun hlt => ?_, fun hge => ?_⟩
  · have hlt : rs.length < 4 := by omega
    refine fork_inv (by omega) I1 hz fun o2 o3 h2 pl2 y s2 s3 I3 yF yps ln zr qa qb => ?_
    have hL2 := s2.get hL1 rL1 nh_ls
    have g4 : ∀ m, (h2 ++ m)[L]? = some (.lst (rs.map fun z => Val.ref z.1)) := fun m => get_app _ hL2
    have hl : z.2.ws.length ≤ sizeLine := by
      have := I1.len8 hz
      have := R1.sp.lim
      rw [sizeLine_eq]
      omega
    have hl4 : rs.length < sizeLine := by rw [sizeLine_eq]; omega
    simp [hL2, qa, qb, g4, hl, hl4]
    refine ⟨by decide, ?_⟩
    generalize em2 : [Ob.lst (z.2.ws.map .int), Ob.lst [.ref y.S, .ref h2.length]] = mm at s3 I3
    have em2' : [Ob.lst (List.map Val.int z.snd.ws), Ob.lst [Val.ref y.S, Val.ref h2.length]] = mm := em2
    have hL3 : (h2 ++ mm)[L]? = some (.lst (rs.map fun z => Val.ref z.1)) := g4 _
    have rL3 := s3.role hL1 rL1
    have s4 := Stp.set (o := o3) (h := h2 ++ mm) (Ob.lst ((rs ++ [(h2.length + 1, y)]).map fun z => Val.ref z.1)) rL3
    have I4 := I3.stp s4 ben_ls (I3.st.stp s4 I3.r2 I3.r1 nofun nofun)
    have hs3 := s3.get hs1 rs1 nh_oth
    have rs3 := s3.role hs1 rs1
    have hC3 := s3.get hC1 rC1 nh_oth
    have rC3 := s3.role hC1 rC1
    have us : ∀ F f, f ∈ used rs F ↔ f ∈ used (rs ++ [(h2.length + 1, y)]) F := fun F f => by
      rw [used_app, used_cons, used_nil, List.append_nil, List.mem_append]
      refine ⟨fun k => .inl k, fun k => ?_⟩
      rcases k with k | k
      · exact k
      · simp only at k
        split at k
        · rename_i eF
          rw [yps] at k
          obtain ⟨u, hu, e⟩ := List.mem_filterMap.mp k
          cases e
          rw [← eF, yF]
          exact mem_used hz hu
        · simp at k
    have A3 := A.stp s3 nh_oth
    have A4 := A3.stp s4 nofun
    rw [frs_same I1 I4 (show F1 ∈ [F1, F2] by simp) (ln F1) (us F1), frs_same I1 I4 (show F2 ∈ [F1, F2] by simp) (ln F2) (us F2)] at A4
    have := law_post1 (P := PB X (LwI F1 F2 L sz C q0 q1 top cs (i + 1)) N) (ts := [.str "fork", .int who]) (y8 := some (.int (k : Nat))) (y9 := some (.ref z.1)) (a := a) (show 8 ≤ d by omega) I4 (get_set hL3) rL3 (s4.get hs3 rs3 nofun) rs3 (s4.get hC3 rC3 nofun) rC3 (by simp) (by simp; omega) (fun w hw => by
      rcases List.mem_append.mp hw with e | e
      · exact tp w e
      · rw [List.mem_singleton.mp e]; show y.ps.length ≤ top; rw [yps]; exact tp _ hz) (by rw [ln]; exact l1) (by rw [ln]; exact l2) rfl (i_f _) A4 (fun ρ h' j => j)
    simpa [em2'] using this
  · have := law_post1 (P := PB X (LwI F1 F2 L sz C q0 q1 top cs (i + 1)) N) (ts := [.str "fork", .int who]) (y8 := some (.int (k : Nat))) (y9 := some (.ref z.1)) (a := a) (show 8 ≤ d by omega) I1 hL1 rL1 hs1 rs1 hC1 rC1 n1 n4 tp l1 l2 rfl (i_f _) A (fun ρ h' j => j)
    simpa using this
theorem turn_close (hd : 13 ≤ d) (t1 : 1 ≤ q1) (t2 : q1 ≤ top) (t3 : top ≤ 16) {who : Int} {ρ : Mp.Env} {h : Mem} {N : Mp.Env → Mem → Prop} (J : LwI F1 F2 L sz C q0 q1 top cs i ρ h) :
    Fw (k_law_13 (callF Γ d) (ρ.set 7 (some (.tup [.str "close", .int who]))) h) (PB X (LwI F1 F2 L sz C q0 q1 top cs (i + 1)) N) := by
  obtain ⟨o, pl, rs, y7, y8, y9, y10, I, hL, rL, hs, rs0, hC, rC, n1, n4, tp, l1, l2, rfl⟩ := J
  simp only [k_law_13]
  refine law_pre (who := who) (by omega) rfl I hL n1 fun o1 h1 a k z gz s1 A => ?_
  have I1 := I.no s1
  have hL1 := s1.get hL rL (fun z => z)
  have rL1 := s1.role hL rL
  have hs1 := s1.get hs rs0 (fun z => z)
  have rs1 := s1.role hs rs0
  have hC1 := s1.get hC rC (fun z => z)
  have rC1 := s1.role hC rC
  have hz : z ∈ rs := List.mem_of_getElem? gz
  have R1 := I1.ro z hz
  obtain ⟨l3, l4, el, ll⟩ := split_at gz
  rw [w_sSeq]
  simp only [k_law_10]
  simp [c_cf, c_cc, R1.ob, R1.sp.ob]
  obtain ⟨za, zx⟩ := z
  rw [el] at I1
  refine close_inv (l1 := l3) (a := za) (x := zx) (l2 := l4) (by omega) I1 fun h2 pl2 s2 I2 ln => ?_
  have hL2 := s2.get hL1 rL1 nh_ls
  have hs2 := s2.get hs1 rs1 nh_oth
  have hC2 := s2.get hC1 rC1 nh_oth
  have hk : k < rs.length := (List.getElem?_eq_some_iff.mp gz).1
  have ei : ixN rs.length (k : Int) = some k := by rw [ixN_lit, if_pos hk]
  have ee : ((rs.map fun z => Val.ref z.1).eraseIdx k) = (l3 ++ l4).map fun z => Val.ref z.1 := by
    rw [el, ← ll, List.map_append, List.map_cons]
    have := erase_mid (l3.map fun z => Val.ref z.1) (l4.map fun z => Val.ref z.1) (Val.ref za)
    rw [List.length_map] at this
    rw [this, List.map_append]
  have s3 := Stp.set (o := o1) (h := h2) (Ob.lst ((l3 ++ l4).map fun z => Val.ref z.1)) rL1
  have I3 := I2.stp s3 ben_ls (I2.st.stp s3 I2.r2 I2.r1 nofun nofun)
  have hL3 : (h2.set L (Ob.lst ((l3 ++ l4).map fun z => Val.ref z.1)))[L]? = some (Ob.lst ((l3 ++ l4).map fun z => Val.ref z.1)) := get_set hL2
  have hs3 := s3.get hs2 rs1 nofun
  have hC3 := s3.get hC2 rC1 nofun
  simp [hL2, lmr_pop, ei, gz, ee]
  have eL : List.map (fun z => Val.ref z.1) l3 ++ List.map (fun z => Val.ref z.1) l4 = (l3 ++ l4).map fun z => Val.ref z.1 := by simp
  simp only [eL]
  generalize h2.set L (Ob.lst ((l3 ++ l4).map fun z => Val.ref z.1)) = h3 at s3 I3 hL3 hs3 hC3
  have ll2 : (l3 ++ l4).length + 1 = rs.length := by rw [el]; simp; omega
  have tp3 : ∀ w ∈ l3 ++ l4, w.2.ps.length ≤ top := fun w hw => tp w (by rw [el]; exact mem_mid.mpr (.inr hw))
  clear eL ee el ll
  generalize l3 ++ l4 = rs3 at I3 hL3 ll2 tp3
  simp [hL3]
  refine ⟨fun h0 => ?_, fun h0 => ?_⟩
  · have h0 : rs3 = [] := h0
    subst h0
    have m1 : F1 ∈ [F1, F2] := by simp
    simp [hs3]
    refine new_ok (by omega) I3 m1 t1 (by omega) fun o4 h4 b y s4 hb I4 yF yps => ?_
    have hL4 := s4.get hL3 rL1 nofun
    have rL4 := s4.role hL3 rL1
    simp [hL4]
    refine ⟨by decide, ?_⟩
    have s5 := Stp.set (o := o4) (h := h4) (Ob.lst [.ref b]) rL4
    have I5 := I4.stp s5 ben_ls (I4.st.stp s5 I4.r2 I4.r1 nofun nofun)
    have hs4 := s4.get hs3 rs1 nofun
    have rs4 := s4.role hs3 rs1
    have hC4 := s4.get hC3 rC1 nofun
    have rC4 := s4.role hC3 rC1
    have := law_post0 (P := PB X (LwI F1 F2 L sz C q0 q1 top cs (i + 1)) N) (ts := [.str "close", .int who]) (y8 := some (.int (k : Nat))) (y9 := some (.ref za)) (a := a) (show 8 ≤ d by omega) I5 (get_set hL4) rL4 (s5.get hs4 rs4 nofun) rs4 (s5.get hC4 rC4 nofun) rC4 (by simp) (by simp) (fun w hw => by
      have hw : w = (b, y) := by simpa using hw
      rw [hw]; show y.ps.length ≤ top; rw [yps]; simpa using t2) (by rw [ln]; exact l1) (by rw [ln]; exact l2) rfl (i_c _) (fun ρ h' j => j)
    simpa using this
  · have : 1 ≤ rs3.length := by
      rcases Nat.eq_zero_or_pos rs3.length with e | e
      · exact absurd (List.eq_nil_of_length_eq_zero e) h0
      · exact e
    have := law_post0 (P := PB X (LwI F1 F2 L sz C q0 q1 top cs (i + 1)) N) (ts := [.str "close", .int who]) (y8 := some (.int (k : Nat))) (y9 := some (.ref za)) (a := a) (show 8 ≤ d by omega) I3 hL3 rL1 hs3 rs1 hC3 rC1 this (by omega) tp3 (by rw [ln]; exact l1) (by rw [ln]; exact l2) rfl (i_c _) (fun ρ h' j => j)
    simpa using this
end
end K04
set_option Elab.async false
set_option linter.all false
set_option maxRecDepth 100000
set_option maxHeartbeats 1000000
namespace K04
open Mp PySem L2
abbrev lwTail (c : CallT) : MS := (sSeq (k_law_15 c) (sSeq (k_law_16 c) (k_law_17 c)))
theorem law_end {d : Nat} (hd : 13 ≤ d) {F1 F2 L sz C q0 q1 top i : Nat} {cs : List Val} {X : XQ} (u1 : 1 ≤ q0) (u2 : q0 ≤ 16) {ρ : Mp.Env} {h : Mem} (J : LwI F1 F2 L sz C q0 q1 top cs i ρ h) : Fw (lwTail (callF Γ d) ρ h) (PT X) := by
  obtain ⟨o, pl, rs, y7, y8, y9, y10, I, hL, rL, hs, rs0, hC, rC, n1, n4, tp, l1, l2, rfl⟩ := J
  unfold lwTail
  rw [w_sSeq]
  simp only [k_law_15, w_sSet]
  refine frees_ok (by omega) I (by simp) (by simp) rfl rfl fun o1 h1 a s1 A => ?_
  have I1 := I.no s1
  have hL1 := s1.get hL rL (fun z => z)
  have hs1 := s1.get hs rs0 (fun z => z)
  have rs1 := s1.role hs rs0
  rw [w_sSeq]
  simp only [k_law_16, w_sIf, w_tOr, w_tE, w_tNot, w_eCall, w_aCons, w_aNil]
  simp [-w_eLst]
  refine alone_ok (by omega) I1 hL1 (fun z hz => hz) fun o2 h2 s2 => ?_
  have I2 := I1.no s2
  simp [-w_eLst]
  refine frees_ok (by omega) I2 (by simp) (by simp) rfl rfl fun o3 h3 b s3 B => ?_
  have I3 := I2.no s3
  have := frees_alike (show 3 ≤ d by omega) I3 (by simp) (by simp) ((A.stp s2 (fun z => z)).stp s3 (fun z => z)) B
  simp [this]
  have hs3 := s3.get (s2.get hs1 rs1 (fun z => z)) (s2.role hs1 rs1) (fun z => z)
  simp only [k_law_17]
  simp
  refine take_then (take_ok (by omega)) I3.st (by decide) fun r h4 r1 r2 dr => ?_
  have hs4 := dr.get hs3 (fun e => by
    have := s3.role (s2.get hs1 rs1 (fun z => z)) (s2.role hs1 rs1)
    rw [e, I3.r2] at this
    cases this)
  simp [hs4]
  intro hr
  exact forks_ok (by omega) dr.st (I3.draw dr).r2 (I3.draw dr).r1 u1 u2
theorem law_rest {d : Nat} (hd : 13 ≤ d) {sz q0 q1 top : Nat} {X : XQ} (u1 : 1 ≤ q0) (u2 : q0 ≤ top) (v1 : 1 ≤ q1) (v2 : q1 ≤ top) (t16 : top ≤ 16) {o : Ow} {h : Mem} (st : St h) (h2 : o 2 = .st) (h1 : o 1 = .sc) (hs : h[sz]? = some (.lst [.int q0, .int q1])) (rs0 : o sz = .oth) :
    Fw ((sSeq (k_law_4 (callF Γ d)) (sSeq (k_law_5 (callF Γ d)) (sSeq (k_law_6 (callF Γ d)) (sSeq (k_law_14 (callF Γ d)) (lwTail (callF Γ d)))))) [some (.ref 0), some (.ref 2), some (.ref sz), some (.int top), none, none, none, none, none, none, none] h) (PT X) := by
  have m4 : mulOk 4 (top : Int) = true := mul_ok (by omega)
  have l0 := st.lt
  rw [w_sSeq]
  simp only [k_law_4]
  simp [m4]
  refine take_then (take_ok (by omega)) st (by omega) fun r h3 r1 r2 d3 => ?_
  try simp
  have l3 := d3.st.lt
  have s3 := Stp.draw d3 h2
  obtain ⟨m, em, m1, m2⟩ : ∃ m : Nat, (4 : Int) * (top : Int) + r = (m : Int) ∧ 4 * top ≤ m ∧ m ≤ 96 := ⟨(4 * (top : Int) + r).toNat, by omega, by omega, by omega⟩
  rw [em]
  refine frames_new (by omega) o (by omega) (by omega) fun o4 h4 p4 s4 P4 c4 w4 => ?_
  try simp
  have st4 := d3.st.stp s4 h2 h1 (fun z => z) (fun z => z)
  have l4 := st4.lt
  have r24 : o4 2 = .st := (s4.own 2 (by omega)).trans h2
  have r14 : o4 1 = .sc := (s4.own 1 (by omega)).trans h1
  have hs3 := s3.get hs rs0 nofun
  have hs4 := s4.get hs3 rs0 (fun z => z)
  have rs4 := s4.role hs3 rs0
  simp only [k_law_5]
  simp [m4]
  have e4 : (4 : Int) * (top : Int) = ((4 * top : Nat) : Int) := by omega
  rw [e4]
  refine frames_new (by omega) o4 (by omega) (by omega) fun o5 h5 p5 s5 P5 c5 w5 => ?_
  try simp
  have st5 := st4.stp s5 r24 r14 (fun z => z) (fun z => z)
  have r25 : o5 2 = .st := (s5.own 2 (by omega)).trans r24
  have r15 : o5 1 = .sc := (s5.own 1 (by omega)).trans r14
  have hs5 := s5.get hs4 rs4 (fun z => z)
  have rs5 := s5.role hs4 rs4
  have P45 := P4.stp s5 (fun z => z) (fun z => z) (fun z => z) (fun _ z => z)
  have nF : h4.length ≠ h3.length := by
    have := lt_of_get P4.ob
    omega
  have I5 : Inv o5 h5 [h3.length, h4.length] (upP (fun _ => p4) h4.length p5) [] := inv0 st5 r25 r15 (fun F hF => by
    simp only [List.mem_cons, List.not_mem_nil, or_false] at hF
    rcases hF with e | e
    · rw [e, upP_ne _ _ nF.symm]; exact P45
    · rw [e, upP_at]; exact P5) (fun F hF => by
    simp only [List.mem_cons, List.not_mem_nil, or_false] at hF
    rcases hF with e | e
    · rw [e, upP_ne _ _ nF.symm]; exact ⟨_, c4, w4⟩
    · rw [e, upP_at]; exact ⟨_, c5, w5⟩)
  have lf1 : 4 * top ≤ (upP (fun _ => p4) h4.length p5 h3.length).cs.length := by rw [upP_ne _ _ nF.symm, c4]; simpa using m1
  have lf2 : 4 * top ≤ (upP (fun _ => p4) h4.length p5 h4.length).cs.length := by rw [upP_at, c5]; simp
  generalize upP (fun _ => p4) h4.length p5 = pl at I5 lf1 lf2
  simp only [k_law_6]
  simp [hs5]
  refine new_ok (by omega) I5 (by simp) u1 (by omega) fun o6 h6 a6 x6 s6 _ I6 f6 ps6 => ?_
  have hs6 := s6.get hs5 rs5 nofun
  have rs6 := s6.role hs5 rs5
  simp [hs6]
  refine new_ok (by omega) I6 (by simp) v1 (by omega) fun o7 h7 a7 x7 s7 _ I7 f7 ps7 => ?_
  have hs7 := s7.get hs6 rs6 nofun
  have rs7 := s7.role hs6 rs6
  simp [hs7]
  refine new_ok (by omega) I7 (by simp) u1 (by omega) fun o8 h8 a8 x8 s8 _ I8 f8 ps8 => ?_
  have hs8 := s8.get hs7 rs7 nofun
  have rs8 := s8.role hs7 rs7
  try simp
  refine ⟨by decide, ?_⟩
  have s9 := Stp.new (fun _ => False) o8 h8 (Ob.lst [.ref a6, .ref a7, .ref a8]) .ls
  have I9 := I8.no s9
  have hs9 := s9.get hs8 rs8 (fun z => z)
  have rs9 := s9.role hs8 rs8
  have rL9 := upO_at o8 h8.length .ls
  have hL9 := get_new h8 (Ob.lst [.ref a6, .ref a7, .ref a8])
  generalize h8 ++ [Ob.lst [.ref a6, .ref a7, .ref a8]] = h9 at s9 I9 hs9 hL9
  generalize upO o8 h8.length .ls = o9 at s9 I9 rs9 rL9
  simp only [k_law_14]
  simp
  refine calls_ok (n := 28) (by omega) I9.st I9.r2 (by omega) t16 (by omega) fun o10 h10 C cs s10 st10 hC hCl rC gc => ?_
  have I10 := I9.stp s10 ben_st st10
  simp [hC]
  refine for_lst (LwI h3.length h4.length h8.length sz C q0 q1 top cs) ⟨o10, pl, [(a6, x6), (a7, x7), (a8, x8)], none, none, none, none, by simpa using I10, by simpa using s10.get hL9 rL9 nofun, s10.role hL9 rL9, s10.get hs9 rs9 nofun, s10.role hs9 rs9, hC, rC, by simp, by simp, ?_, lf1, lf2, rfl⟩ (fun i ρ h' _ ⟨o, pl, rs, y7, y8, y9, y10, I, hL, rL, hs, rs0, hC, rC, n1, n4, tp, l1, l2, er⟩ => hC) ?_ ?_
  · intro z hz
    simp only [List.mem_cons, List.not_mem_nil, or_false] at hz
    rcases hz with e | e | e <;> rw [e]
    · show x6.ps.length ≤ top; rw [ps6]; simpa using u2
    · show x7.ps.length ≤ top; rw [ps7]; simpa using v2
    · show x8.ps.length ≤ top; rw [ps8]; simpa using u2
  · intro i c ρ h' hc J
    cases gc c (List.mem_of_getElem? hc) with
    | wr who ad v v0 v1 => exact turn_write hd v0 v1 J
    | rd who ad => exact turn_read hd J
    | fk who => exact turn_fork hd J
    | cl who => exact turn_close hd v1 v2 t16 J
  · intro ρ h' J
    simp only [w_sSkip]
    have := law_end (X := X) hd u1 (by omega) J
    simpa only [lwTail, w_sSeq] using this
theorem law_ok (ns : List Int) (hn : ns.length ≤ 63) : (callF Γ 30 "law" [.ref 0] (mem0 ns)).W (fun v _ => v = .bl true) nX := by
  rw [c_law, W_fin, s_law_eq, w_sSeq]
  simp only [k_law_0]
  simp
  rw [c__law_store]
  refine sp_store _ ns 104 hn fun h1 l1 st1 _ => ?_
  try simp
  simp only [k_law_1]
  simp
  refine size_then (size_ok (by omega)) st1 (by decide) (by decide) fun r0 h2 a0 b0 d2 => ?_
  try simp
  refine size_then (size_ok (by omega)) d2.st (by decide) (by decide) fun r1 h3 a1 b1 d3 => ?_
  simp
  refine ⟨by decide, ?_⟩
  have l3 : h3.length = 3 := by rw [d3.len, d2.len, l1]
  obtain ⟨q0, e0, p0, p1⟩ : ∃ q0 : Nat, (1 : Int) + r0 = (q0 : Int) ∧ 1 ≤ q0 ∧ q0 ≤ 16 := ⟨(1 + r0).toNat, by omega, by omega, by omega⟩
  obtain ⟨q1, e1, p2, p3⟩ : ∃ q1 : Nat, (1 : Int) + r1 = (q1 : Int) ∧ 1 ≤ q1 ∧ q1 ≤ 16 := ⟨(1 + r1).toNat, by omega, by omega, by omega⟩
  rw [e0, e1]
  have hs := get_new h3 (Ob.lst [.int q0, .int q1])
  have st4 := d3.st.app [Ob.lst [.int q0, .int q1]]
  generalize h3 ++ [Ob.lst [.int q0, .int q1]] = h4 at hs st4
  let o : Ow := fun y => if y = 2 then .st else if y = 1 then .sc else .oth
  have rs0 : o h3.length = .oth := by rw [l3]; rfl
  simp only [k_law_2]
  simp [hs]
  simp only [k_law_3]
  simp [hs]
  refine ⟨fun hlt => ?_, fun hge => ?_⟩
  · have := law_rest (d := 29) (X := nX) (by omega) p0 (by omega) p2 (Nat.le_refl _) p3 st4 rfl rfl hs rs0
    simpa using this
  · have := law_rest (d := 29) (X := nX) (top := q0) (by omega) p0 (Nat.le_refl _) p2 (by omega) p1 st4 rfl rfl hs rs0
    simpa using this
theorem main (ns : List Int) (hn : ns.length ≤ 63) : ∃ h', callF T.pg 30 "law" [.ref 0] (mem0 ns) = .ok (.bl true) h' := by
  have := law_ok ns hn
  cases e : callF Γ 30 "law" [.ref 0] (mem0 ns) with
  | ok v h' =>
    rw [e] at this
    have this : v = .bl true := this
    exact ⟨h', by rw [← this]⟩
  | exc c fs h' => rw [e] at this; exact this.elim
  | bad => rw [e] at this; exact this.elim
end K04
namespace K04
open PySem PySem.Spec PyProof.Rows L2 Mp
abbrev R : PySem.W.OpenRow := PySem.W.OpenLaw.row PySem.Challenge.rw_wardwork_k04_spaces_as_if_alone
abbrev hk : PySem.W.Hook := T.hook
def ob (s : PySem.W.SharedT) : AlM := T.obsG (HandSHeadRun.getT s)
theorem ob_eq (s : PySem.W.SharedT) : ob s = hk.obs s.abs := obsG_eq (HandSHeadRun.getT_eq s)
def loose0 : List PySem.Str := ["_wall", "__name__", "WORD_MOST", "WardError", "BadArgument", "Unknown", "WrongState", "Full", "copy_of", "whole", "all_words", "check_whole", "check_words", "PAGE_WORDS", "MOST_FRAMES", "Frames", "MOST_PAGES", "Space", "_law_mixed", "_law_store", "_law_take", "_law_between", "_law_size", "_law_word", "_law_pick", "_law_alike", "_law_space_calls", "_law_new", "_law_alone", "_law_step"]
def loose1 : List PySem.Str := ["_law_many_forks"]
def loose : List PySem.Str := loose0 ++ loose1
abbrev qv : Program := PySem.W.view R.prog [34]
set_option maxHeartbeats 0 in
theorem run (w : World) : HandSHeadRun.RunEq R qv hk ob 8000 loose w := by
  intro os
  kernel_rfl
theorem bl : BindOk d_law 1 [] [.ps 0] := b0
end K04
open PySem PySem.W PySem.Calls PyProof.Rows in
theorem PySem.Challenge.cw_wardwork_k04_spaces_as_if_alone_holds : PySem.Challenge.rw_wardwork_k04_spaces_as_if_alone.Holds := by
  w_on; o_law
  refine HandSHeadRun.head_any (r := OpenLaw.row PySem.Challenge.rw_wardwork_k04_spaces_as_if_alone) (q := K04.qv) (H := K04.hk) (ob := K04.ob) (M := 8000) (loose := K04.loose) (d := HandSHeadRun.topDef (OpenLaw.row PySem.Challenge.rw_wardwork_k04_spaces_as_if_alone).prog 34) (kwd := []) K04.ob_eq
    (by kernel_rfl) (fun s => by kernel_rfl) K04.run (by kernel_rfl) (by kernel_rfl) (by kernel_rfl) (by rfl) (by first | assumption | decide +kernel) (by decide +kernel) ⟨rfl, rfl, rfl, rfl, rfl, by decide +kernel⟩ ?hw ?hc
  case hw => w_witness2
  case hc => exact Mp.law_walk K04.txtOk (l := PySem.Challenge.rw_wardwork_k04_spaces_as_if_alone) (n := 63) (dq := 29) (x := "_law_script") (dl := K04.d_law) rfl (by decide) (by kernel_rfl) ⟨rfl, by decide, by decide⟩ (by kernel_rfl) (by simp [K04.T]) rfl rfl (by decide +kernel) rfl rfl rfl K04.bl K04.main
