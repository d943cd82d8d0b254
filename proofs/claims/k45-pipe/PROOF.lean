import PyProof.Rows.All
import Wide.All
import OpenK.AllK
import Wide.FinOn
import HandS.ForMost
import HandS.Exc
import HandS.WordsExc
import HandS.CallSlots
import HandS.Deep
import HandS.Wide
import HandS.IsInst
import HandS.TupAny
import HandS.Flow
import HandS.Walk
import HandS.Defaults
import HandS.Property
import HandS.Style
import HandS.Conv
import HandS.SortInts
import HandS.ExcOwn
import HandS.Codes
import HandS.Remove
import HandS.More
import HandS.SetFor
import HandS.DictComp
import HandS.ExcCtx
import HandS.HotCalls
import HandS.ExcInit
import HandS.ExcField
import HandS.ExcIs
import HandS.Nested
import HandS.FStr
import KE.KExcSuper
import KE.GoesEnum
import KE.SortData
import HandS.Flt
import HandS.StrMore
import HandS.Strs
import KE.KOpsOwn
import OpenK.KMeth
import KE.KExcIs
import HandS.Zip
import HandS.Star
import HandS.IterVal
import HandS.OwnIter
import KE.KStateDown
import HandS.Ends
import HandS.Head0
import HandS.Head1
import HandS.Head2
import HandS.HeadEnd
import HandS.HeadHook4
import PySem.Challenge.RW_wardwork_k45_pipe_in_order
set_option Elab.async false
set_option maxRecDepth 100000
/-! Mp: a small deterministic machine for plain Python, read off the same syntax trees. Memory is a list of objects, an address is a place in it. -/
namespace Mp
open PySem L2
inductive Val where
  | non | bl (b : Bool) | int (i : Int) | str (x : Str) | tup (ts : List Val) | ref (n : Nat) | fn (g : Str) | exn (c : Str) (fs : List (Str × Val))
  deriving Inhabited
inductive Ob where
  | lst (xs : List Val)
  | ins (c : Str) (fs : List (Str × Val))
  | rol (xs : List Val)
  | dic (kvs : List (Key × Val))
  | frd (kvs : List (Key × Val))
  deriving Inhabited
/-! ### dicts: keys are ints and texts -/
def keyOf : Val → Option Key
  | .int i => some (.inl i)
  | .str x => some (.inr x)
  | _ => none
def keyV : Key → Val
  | .inl i => .int i
  | .inr x => .str x
def dGet {α : Type} (kvs : List (Key × α)) (k : Key) : Option α := (kvs.find? fun kv => decide (kv.1 = k)).map (·.2)
def dPut {α : Type} (kvs : List (Key × α)) (k : Key) (v : α) : List (Key × α) := if (kvs.any fun kv => decide (kv.1 = k)) = true then kvs.map (fun kv => if kv.1 = k then (kv.1, v) else kv) else kvs ++ [(k, v)]
def dDrop {α : Type} (kvs : List (Key × α)) (k : Key) : List (Key × α) := kvs.filter fun kv => decide (kv.1 ≠ k)
abbrev Mem := List Ob
abbrev Env := List (Option Val)
inductive Res (α : Type) where
  | ok (a : α) (h : Mem)
  | exc (c : Str) (fs : List (Str × Val)) (h : Mem)
  | bad
namespace Res
def bind {α β : Type} (r : Res α) (k : α → Mem → Res β) : Res β := match r with
  | .ok a h => k a h
  | .exc c fs h => .exc c fs h
  | .bad => .bad
@[simp] theorem bind_ok {α β : Type} (a : α) (h : Mem) (k : α → Mem → Res β) : (Res.ok a h).bind k = k a h := rfl
@[simp] theorem bind_bad {α β : Type} (k : α → Mem → Res β) : (Res.bad : Res α).bind k = .bad := rfl
@[simp] theorem bind_exc {α β : Type} (c : Str) (fs : List (Str × Val)) (h : Mem) (k : α → Mem → Res β) : (Res.exc c fs h : Res α).bind k = .exc c fs h := rfl
/-- an option as a result -/
def opt {α : Type} (o : Option α) (h : Mem) : Res α := match o with
  | some a => .ok a h
  | none => .bad
@[simp] theorem opt_some {α : Type} (a : α) (h : Mem) : opt (some a) h = .ok a h := rfl
@[simp] theorem opt_none {α : Type} (h : Mem) : opt (none : Option α) h = .bad := rfl
/-- no exception goes out -/
def shut {α : Type} (r : Res α) : Res α := match r with
  | .ok a h => .ok a h
  | _ => .bad
@[simp] theorem shut_ok {α : Type} (a : α) (h : Mem) : (Res.ok a h).shut = .ok a h := rfl
end Res
abbrev ME := Env → Mem → Res Val
abbrev MT := Env → Mem → Res Bool
abbrev MA := Env → Mem → Res (List Val)
/-! ### reading -/
/-- the items of a list, a tuple -/
def seqOf (h : Mem) : Val → Option (List Val)
  | .tup ts => some ts
  | .ref n => match h[n]? with
    | some (.lst xs) => some xs
    | some (.rol xs) => some xs
    | _ => none
  | _ => none
def lstOf (h : Mem) : Val → Option (List Val)
  | .ref n => match h[n]? with
    | some (.lst xs) => some xs
    | some (.rol xs) => some xs
    | _ => none
  | _ => none
mutual
/-- a value read to its depth -/
def rd (h : Mem) : Nat → Val → Option PyData
  | 0, _ => none
  | _ + 1, .non => some .none
  | _ + 1, .bl b => some (.bool b)
  | _ + 1, .int i => some (.int i)
  | _ + 1, .str x => some (.str x)
  | _ + 1, .fn _ => none
  | _ + 1, .exn _ _ => none
  | n + 1, .tup ts => (rds h n ts).map .tuple
  | n + 1, .ref a => match h[a]? with
    | some (.lst xs) => (rds h n xs).map .list
    | some (.rol xs) => (rds h n xs).map .list
    | _ => none
def rds (h : Mem) : Nat → List Val → Option (List PyData)
  | 0, _ => none
  | _ + 1, [] => some []
  | n + 1, v :: vs => match rd h n v, rds h n vs with
    | some d, some ds => some (d :: ds)
    | _, _ => none
end
/-- read, and of a shape that == takes -/
def rdS (h : Mem) (v : Val) : Option PyData := match rd h 20000 v with
  | some d => if SeqAt.shaped d then some d else none
  | none => none
def truthy (h : Mem) : Val → Option Bool
  | .non => some false
  | .bl b => some b
  | .int i => some (i != 0)
  | .str y => if y.length ≤ sizeLine then some ((y.length : Int) != 0) else none
  | .tup ts => some (!ts.isEmpty)
  | .ref n => match h[n]? with
    | some (.lst xs) => some (!xs.isEmpty)
    | some (.rol xs) => some (!xs.isEmpty)
    | _ => none
  | .fn _ => none
  | .exn _ _ => none
/-! ### operators -/
def newL (xs : List Val) (h : Mem) : Res Val := if xs.length ≤ sizeLine then .ok (.ref h.length) (h ++ [.lst xs]) else .bad
def mulOk (i j : Int) : Bool := decide (-(2 ^ 64) < i ∧ i < 2 ^ 64) || decide (-(2 ^ 64) < j ∧ j < 2 ^ 64)
def binop (op : Operator) (x y : Val) (h : Mem) : Res Val := match op, x, y with
  | .Add, .int i, .int j => .ok (.int (i + j)) h
  | .Add, .str i, .str j => if i.length + j.length ≤ sizeLine then .ok (.str (i ++ j)) h else .bad
  | .Add, .tup xs, .tup ys => if xs.length + ys.length ≤ sizeLine then .ok (.tup (xs ++ ys)) h else .bad
  | .Add, .ref n, .ref m => match h[n]?, h[m]? with
    | some (.lst xs), some (.lst ys) => newL (xs ++ ys) h
    | _, _ => .bad
  | .Sub, .int i, .int j => .ok (.int (i - j)) h
  | .Mult, .int i, .int j => if mulOk i j then .ok (.int (i * j)) h else .bad
  | .Mult, .ref n, .int k => match h[n]? with
    | some (.lst xs) => if -(2 ^ 63) ≤ k ∧ k < 2 ^ 63 ∧ xs.length * k.toNat ≤ sizeLine then newL (List.replicate k.toNat xs).flatten h else .bad
    | _ => .bad
  | .FloorDiv, .int i, .int j => if 0 < j ∧ j < 2 ^ 64 then .ok (.int (i / j)) h else .bad
  | .Mod, .int i, .int j => if 0 < j then .ok (.int (i % j)) h else .bad
  | .Pow, .int i, .int j => if 0 ≤ j ∧ j ≤ 1000000 ∧ i.natAbs < 2 ^ 64 then .ok (.int (i ^ j.toNat)) h else .bad
  | _, _, _ => .bad
/-- flat == -/
def eqF : Val → Val → Bool
  | .non, .non => true
  | .bl a, .bl b => a == b
  | .bl a, .int b => (if a then 1 else 0) == b
  | .int a, .bl b => a == (if b then 1 else 0)
  | .int a, .int b => a == b
  | .str a, .str b => a == b
  | _, _ => false
def flat : Val → Bool
  | .non => true
  | .bl _ => true
  | .int _ => true
  | .str _ => true
  | _ => false
/-- x in y -/
def inOp (h : Mem) (x y : Val) : Option Bool := match x, y with
  | .str i, .str j => some (!(Builtin.Str.occurrences j i 0 j.length 1).isEmpty)
  | x, .tup ts => if flat x && ts.all flat then some (ts.any fun y => eqF y x) else none
  | x, .ref n => match h[n]? with
    | some (.dic kvs) => (keyOf x).map fun k => (dGet kvs k).isSome
    | some (.frd kvs) => (keyOf x).map fun k => (dGet kvs k).isSome
    | _ => match rdS h x, rdS h (.ref n) with
      | some d, some (.list ds) => some (ds.any fun z => PyData.eqv z d)
      | _, _ => none
  | _, _ => none
def isNon : Val → Bool
  | .non => true
  | _ => false
def cmpop (op : CmpOp) (h : Mem) (x y : Val) : Option Bool := match op, x, y with
  | .Eq, x, y => match rdS h x, rdS h y with
    | some d, some e => some (PyData.eqv d e)
    | _, _ => none
  | .NotEq, x, y => match rdS h x, rdS h y with
    | some d, some e => some (!PyData.eqv d e)
    | _, _ => none
  | .Lt, .int i, .int j => some (decide (i < j))
  | .LtE, .int i, .int j => some (decide (i ≤ j))
  | .Gt, .int i, .int j => some (decide (j < i))
  | .GtE, .int i, .int j => some (decide (j ≤ i))
  | .Is, x, .non => some (isNon x)
  | .IsNot, x, .non => some (!isNon x)
  | .In, x, y => inOp h x y
  | .NotIn, x, y => (inOp h x y).map (!·)
  | _, _, _ => none
def cmpR (op : CmpOp) (x y : Val) (h : Mem) : Res Val := (Res.opt (cmpop op h x y) h).bind fun b h => .ok (.bl b) h
/-! ### expressions -/
def eC (v : Val) : ME := fun _ h => .ok v h
def eVar (i : Nat) : ME := fun ρ h => match ρ[i]? with
  | some (some v) => .ok v h
  | _ => .bad
def eBad : ME := fun _ _ => .bad
def e1 (f : Val → Mem → Res Val) (a : ME) : ME := fun ρ h => (a ρ h).bind f
def e2 (f : Val → Val → Mem → Res Val) (a b : ME) : ME := fun ρ h => (a ρ h).bind fun x h => (b ρ h).bind fun y h => f x y h
def eBin (op : Operator) (a b : ME) : ME := e2 (binop op) a b
def eCmp (op : CmpOp) (a b : ME) : ME := e2 (cmpR op) a b
/-- a op b op' c -/
def eChain (op op' : CmpOp) (a b c : ME) : ME := fun ρ h => (a ρ h).bind fun x h => (b ρ h).bind fun y h => (cmpR op x y h).bind fun z h => match z with
  | .bl true => (c ρ h).bind fun w h => cmpR op' y w h
  | .bl false => .ok (.bl false) h
  | _ => .bad
def negV (x : Val) (h : Mem) : Res Val := match x with
  | .int i => .ok (.int (-i)) h
  | _ => .bad
def eNeg (a : ME) : ME := e1 negV a
def eNot (a : ME) : ME := e1 (fun x h => (Res.opt (truthy h x) h).bind fun b h => .ok (.bl (!b)) h) a
def eAnd (a b : ME) : ME := fun ρ h => (a ρ h).bind fun x h => (Res.opt (truthy h x) h).bind fun k h => if k = true then b ρ h else .ok x h
def eOr (a b : ME) : ME := fun ρ h => (a ρ h).bind fun x h => (Res.opt (truthy h x) h).bind fun k h => if k = true then .ok x h else b ρ h
def eIf (c : MT) (a b : ME) : ME := fun ρ h => (c ρ h).bind fun k h => if k = true then a ρ h else b ρ h
def aNil : MA := fun _ h => .ok [] h
def aCons (a : ME) (r : MA) : MA := fun ρ h => (a ρ h).bind fun x h => (r ρ h).bind fun xs h => .ok (x :: xs) h
def eTup (as : MA) : ME := fun ρ h => (as ρ h).bind fun xs h => if xs.length ≤ sizeLine then .ok (.tup xs) h else .bad
def eLst (as : MA) : ME := fun ρ h => (as ρ h).bind newL
def idx (h : Mem) (x y : Val) : Option Val := match x, y with
  | .tup ts, .int i => atI ts i
  | .str z, .int i => if z.length ≤ sizeLine then (atI z.cps.toList i).map fun c => .str ⟨#[c]⟩ else none
  | .ref n, .int i => match h[n]? with
    | some (.lst xs) => atI xs i
    | some (.rol xs) => atI xs i
    | some (.dic kvs) => dGet kvs (.inl i)
    | some (.frd kvs) => dGet kvs (.inl i)
    | _ => none
  | .ref n, .str z => match h[n]? with
    | some (.dic kvs) => dGet kvs (.inr z)
    | some (.frd kvs) => dGet kvs (.inr z)
    | _ => none
  | _, _ => none
def eIdx (a b : ME) : ME := e2 (fun x y h => Res.opt (idx h x y) h) a b
/-- tests -/
def tE (a : ME) : MT := fun ρ h => (a ρ h).bind fun x h => Res.opt (truthy h x) h
def tNot (a : MT) : MT := fun ρ h => (a ρ h).bind fun k h => .ok (!k) h
def tAnd (a b : MT) : MT := fun ρ h => (a ρ h).bind fun k h => if k = true then b ρ h else .ok false h
def tOr (a b : MT) : MT := fun ρ h => (a ρ h).bind fun k h => if k = true then .ok true h else b ρ h
end Mp
set_option Elab.async false
set_option linter.all false
set_option maxRecDepth 100000
set_option maxHeartbeats 1000000
namespace Mp
open PySem PySem.Spec PyProof.Rows L2
abbrev Nm := Nat → Option Addr
/-- where classes and defs lie -/
structure Lk where
  C : Str → Addr
  F : Str → Addr
  p : Addr × Obj
  xs : List Nat
section
variable (L : Lk) (K : PySem.W.Frag)
mutual
def RV (f : Nm) (H : Hp) : Val → V → Prop
  | .non, v => v = .non
  | .bl b, v => v = .bl b
  | .int i, v => v = .int i
  | .str x, v => v = .str x
  | .ref n, v => ∃ a, f n = some a ∧ v = .ref a
  | .fn g, v => v = .ref (L.F g)
  | .exn _ _, _ => False
  | .tup ts, v => ∃ a vs, v = .ref a ∧ SqT K H a vs ∧ RVs f H ts vs
def RVs (f : Nm) (H : Hp) : List Val → List V → Prop
  | [], vs => vs = []
  | t :: ts, vs => ∃ v r, vs = v :: r ∧ RV f H t v ∧ RVs f H ts r
end
def RFs {κ : Type} (f : Nm) (H : Hp) (fs : List (κ × Val)) (gs : List (κ × V)) : Prop := fs.map (·.1) = gs.map (·.1) ∧ RVs L K f H (fs.map (·.2)) (gs.map (·.2))
def RO (f : Nm) (H : Hp) (a : Addr) : Ob → Prop
  | .lst xs => ∃ vs, H a = some (.lst vs) ∧ RVs L K f H xs vs
  | .ins c fs => ∃ dx gs, H a = some (.ins (L.C c) dx gs) ∧ RFs L K f H fs gs
  | .rol xs => ∃ o vs, H a = some (.frz o (.lst vs)) ∧ RVs L K f H xs vs
  | .dic kvs => ∃ gs, H a = some (.dK gs) ∧ RFs L K f H kvs gs
  | .frd kvs => ∃ o gs, H a = some (.frz o (.dK gs)) ∧ RFs L K f H kvs gs
structure Sim (f : Nm) (h : Mem) (H : Hp) : Prop where
  inj : ∀ n m a, f n = some a → f m = some a → n = m
  has : ∀ n, n < h.length → ∃ a, f n = some a
  at_ : ∀ n a, f n = some a → ∃ o, h[n]? = some o ∧ RO L K f H a o
/-- an exception: its class and attributes -/
def RX (f : Nm) (H : Hp) (c : Str) (fs : List (Str × Val)) (cls : Value) (d : Option Addr) : Prop :=
  cls = .ref (L.C c) ∧ ((fs = [] ∧ d = none) ∨ ∃ a gs, d = some a ∧ H a = some (.xd gs) ∧ RFs L K f H fs gs)
/-- a slot: a value, or (in the slots L.xs) the exception that is handled -/
def RVx (f : Nm) (H : Hp) (i : Nat) (v : Val) (v' : V) : Prop := RV L K f H v v' ∨ (i ∈ L.xs ∧ ∃ c fs, v = .exn c fs ∧ v' = .ref L.p.1 ∧ RX L K f H c fs L.p.2.cls L.p.2.dict)
structure EnvR (f : Nm) (H : Hp) (ρ : Env) (σ : L2.St) : Prop where
  len : ρ.length = σ.length
  at_ : ∀ (i : Nat) v, ρ[i]? = some (some v) → ∃ v', σ[i]? = some (some v') ∧ RVx L K f H i v v'
end
structure Ext (f f' : Nm) (H H' : Hp) : Prop where
  le : ∀ n a, f n = some a → f' n = some a
  new : ∀ n a, f' n = some a → f n = some a ∨ H a = none
  keep : ∀ a o, H a = some o → (∀ n, f n ≠ some a) → H' a = some o
  trk : ∀ a o, H a = some o → ∃ o', H' a = some o'
  frz : ∀ a o u, H a = some (.frz o u) → H' a = some (.frz o u)
theorem Ext.refl (f : Nm) (H : Hp) : Ext f f H H := ⟨fun _ _ e => e, fun _ _ e => .inl e, fun _ _ e _ => e, fun _ o e => ⟨o, e⟩, fun _ _ _ e => e⟩
theorem Ext.trans {f f1 f2 : Nm} {H H1 H2 : Hp} (a : Ext f f1 H H1) (b : Ext f1 f2 H1 H2) : Ext f f2 H H2 where
  le := fun n x e => b.le n x (a.le n x e)
  new := fun n x e => by
    rcases b.new n x e with q | q
    · exact a.new n x q
    · cases z : H x with
      | none => exact .inr rfl
      | some o =>
        obtain ⟨o', z'⟩ := a.trk x o z
        rw [q] at z'; cases z'
  keep := fun x o e n => b.keep x o (a.keep x o e n) fun m z => by
    rcases a.new m x z with q | q
    · exact n m q
    · rw [e] at q; cases q
  trk := fun x o e => by
    obtain ⟨o', e'⟩ := a.trk x o e
    exact b.trk x o' e'
  frz := fun x o u e => b.frz x o u (a.frz x o u e)
section
variable {L : Lk} {K : PySem.W.Frag} {f f' : Nm} {h h' : Mem} {H H' : Hp} {W : WX} {σ : L2.St} {ρ : Env}
theorem Sim.lt (S : Sim L K f h H) {n : Nat} {a : Addr} (e : f n = some a) : n < h.length := by
  obtain ⟨o, q, _⟩ := S.at_ n a e
  exact (List.getElem?_eq_some_iff.mp q).1
theorem Sim.not_tup (S : Sim L K f h H) {a : Addr} {vs : List V} (e : Rd H a (.tup vs)) (n : Nat) : f n ≠ some a := fun z => by
  obtain ⟨o, _, r⟩ := S.at_ n a z
  cases o with
  | lst xs =>
    obtain ⟨ws, q, _⟩ := r
    rcases e with e | ⟨o, e⟩ <;> rw [q] at e <;> cases e
  | ins c fs =>
    obtain ⟨dx, gs, q, _⟩ := r
    rcases e with e | ⟨o, e⟩ <;> rw [q] at e <;> cases e
  | rol xs =>
    obtain ⟨o', ws, q, _⟩ := r
    rcases e with e | ⟨o, e⟩ <;> rw [q] at e <;> cases e
  | dic kvs =>
    obtain ⟨gs, q, _⟩ := r
    rcases e with e | ⟨o, e⟩ <;> rw [q] at e <;> cases e
  | frd kvs =>
    obtain ⟨o', gs, q, _⟩ := r
    rcases e with e | ⟨o, e⟩ <;> rw [q] at e <;> cases e
theorem Sim.tupK (S : Sim L K f h H) (x : Ext f f' H H') {a : Addr} {vs : List V} (e : SqT K H a vs) : SqT K H' a vs := by
  rcases e with e | e
  · refine .inl ?_
    rcases id e with q | ⟨o, q⟩
    · exact .inl (x.keep _ _ q (S.not_tup e))
    · exact .inr ⟨o, x.keep _ _ q (S.not_tup e)⟩
  · exact .inr e
mutual
theorem RV.mono2 (le : ∀ n a, f n = some a → f' n = some a) (tk : ∀ a vs, SqT K H a vs → SqT K H' a vs) : ∀ (t : Val) (v : V), RV L K f H t v → RV L K f' H' t v
  | .non, _, e => e
  | .bl _, _, e => e
  | .int _, _, e => e
  | .str _, _, e => e
  | .fn _, _, e => e
  | .exn _ _, _, e => e
  | .ref n, v, e => by
    unfold RV at e ⊢
    obtain ⟨a, q, r⟩ := e
    exact ⟨a, le n a q, r⟩
  | .tup ts, v, e => by
    unfold RV at e ⊢
    obtain ⟨a, vs, q, r, z⟩ := e
    exact ⟨a, vs, q, tk a vs r, RVs.mono2 le tk ts vs z⟩
theorem RVs.mono2 (le : ∀ n a, f n = some a → f' n = some a) (tk : ∀ a vs, SqT K H a vs → SqT K H' a vs) : ∀ (ts : List Val) (vs : List V), RVs L K f H ts vs → RVs L K f' H' ts vs
  | [], _, e => e
  | t :: ts, vs, e => by
    unfold RVs at e ⊢
    obtain ⟨v, r, q, z1, z2⟩ := e
    exact ⟨v, r, q, RV.mono2 le tk t v z1, RVs.mono2 le tk ts r z2⟩
end
theorem RV.mono {t : Val} {v : V} (r : RV L K f H t v) (S : Sim L K f h H) (x : Ext f f' H H') : RV L K f' H' t v := RV.mono2 x.le (fun _ _ => S.tupK x) t v r
theorem RVs.mono {ts : List Val} {vs : List V} (r : RVs L K f H ts vs) (S : Sim L K f h H) (x : Ext f f' H H') : RVs L K f' H' ts vs := RVs.mono2 x.le (fun _ _ => S.tupK x) ts vs r
theorem RX.mono {c : Str} {fs : List (Str × Val)} {cls : Value} {d : Option Addr} (r : RX L K f H c fs cls d) (S : Sim L K f h H) (x : Ext f f' H H') : RX L K f' H' c fs cls d := by
  obtain ⟨e, q⟩ := r
  refine ⟨e, ?_⟩
  rcases q with q | ⟨a, gs, ed, ea, r1, r2⟩
  · exact .inl q
  · refine .inr ⟨a, gs, ed, x.keep _ _ ea fun n z => ?_, r1, r2.mono S x⟩
    obtain ⟨o, _, ro⟩ := S.at_ n a z
    cases o with
    | lst xs => obtain ⟨ws, q, _⟩ := ro; rw [q] at ea; cases ea
    | ins c fs => obtain ⟨dx, gs, q, _⟩ := ro; rw [q] at ea; cases ea
    | rol xs => obtain ⟨o', ws, q, _⟩ := ro; rw [q] at ea; cases ea
    | dic kvs => obtain ⟨gs, q, _⟩ := ro; rw [q] at ea; cases ea
    | frd kvs => obtain ⟨o, gs, q, _⟩ := ro; rw [q] at ea; cases ea
theorem RVx.mono {i : Nat} {v : Val} {v' : V} (r : RVx L K f H i v v') (S : Sim L K f h H) (x : Ext f f' H H') : RVx L K f' H' i v v' := by
  rcases r with r | ⟨hi, c, fs, e1, e2, rx⟩
  · exact .inl (r.mono S x)
  · exact .inr ⟨hi, c, fs, e1, e2, rx.mono S x⟩
theorem RVx.out {i : Nat} {v : Val} {v' : V} (r : RVx L K f H i v v') (hi : i ∉ L.xs) : RV L K f H v v' := by
  rcases r with r | ⟨h, _⟩
  · exact r
  · exact absurd h hi
theorem RVx.ref_ {i : Nat} {n : Nat} {v' : V} (r : RVx L K f H i (.ref n) v') : RV L K f H (.ref n) v' := by
  rcases r with r | ⟨_, _, _, e, _⟩
  · exact r
  · cases e
theorem EnvR.mono (E : EnvR L K f H ρ σ) (S : Sim L K f h H) (x : Ext f f' H H') : EnvR L K f' H' ρ σ :=
  ⟨E.len, fun i v e => by
    obtain ⟨v', q, r⟩ := E.at_ i v e
    exact ⟨v', q, r.mono S x⟩⟩
theorem EnvR.set (E : EnvR L K f H ρ σ) {v : Val} {v' : V} (r : RV L K f H v v') (i : Nat) : EnvR L K f H (ρ.set i (some v)) (σ.set i (some v')) := by
  refine ⟨by rw [List.length_set, List.length_set, E.len], fun j w e => ?_⟩
  by_cases hj : i = j
  · subst hj
    have hi : i < ρ.length := by
      have := (List.getElem?_eq_some_iff.mp e).1
      rwa [List.length_set] at this
    rw [List.getElem?_set_self hi] at e
    cases e
    exact ⟨v', by rw [List.getElem?_set_self (by rw [← E.len]; exact hi)], .inl r⟩
  · rw [List.getElem?_set_ne hj] at e
    obtain ⟨w', q, z⟩ := E.at_ j w e
    exact ⟨w', by rw [List.getElem?_set_ne hj]; exact q, z⟩
/-! ### lists of values -/
theorem RVs.length : ∀ {ts : List Val} {vs : List V}, RVs L K f H ts vs → ts.length = vs.length
  | [], vs, e => by unfold RVs at e; rw [e]; rfl
  | t :: ts, vs, e => by
    unfold RVs at e
    obtain ⟨v, r, rfl, _, z⟩ := e
    rw [List.length_cons, List.length_cons, RVs.length z]
theorem RVs.get : ∀ {ts : List Val} {vs : List V}, RVs L K f H ts vs → ∀ {i : Nat} {t : Val}, ts[i]? = some t → ∃ v, vs[i]? = some v ∧ RV L K f H t v
  | [], _, _, i, t, q => by simp at q
  | t :: ts, vs, e, i, t', q => by
    unfold RVs at e
    obtain ⟨v, r, rfl, z1, z2⟩ := e
    cases i with
    | zero =>
      simp at q
      subst q
      exact ⟨v, by simp, z1⟩
    | succ i =>
      obtain ⟨w, q1, q2⟩ := RVs.get z2 (i := i) (t := t') (by simpa using q)
      exact ⟨w, by simpa using q1, q2⟩
theorem RVs.append : ∀ {ts us : List Val} {vs ws : List V}, RVs L K f H ts vs → RVs L K f H us ws → RVs L K f H (ts ++ us) (vs ++ ws)
  | [], us, vs, ws, e, e' => by unfold RVs at e; subst e; exact e'
  | t :: ts, us, vs, ws, e, e' => by
    unfold RVs at e
    obtain ⟨v, r, rfl, z1, z2⟩ := e
    show RVs L K f H (t :: (ts ++ us)) (v :: (r ++ ws))
    unfold RVs
    exact ⟨v, _, rfl, z1, RVs.append z2 e'⟩
theorem RVs.cons {t : Val} {ts : List Val} {v : V} {vs : List V} (a : RV L K f H t v) (b : RVs L K f H ts vs) : RVs L K f H (t :: ts) (v :: vs) := by
  unfold RVs
  exact ⟨v, vs, rfl, a, b⟩
theorem RVs.nil : RVs L K f H [] [] := by unfold RVs; rfl
theorem RVs.set : ∀ {ts : List Val} {vs : List V}, RVs L K f H ts vs → ∀ {t : Val} {v : V}, RV L K f H t v → ∀ i, RVs L K f H (ts.set i t) (vs.set i v)
  | [], vs, e, t, v, r, i => by unfold RVs at e; subst e; exact RVs.nil
  | a :: ts, vs, e, t, v, r, i => by
    unfold RVs at e
    obtain ⟨w, q, rfl, z1, z2⟩ := e
    cases i with
    | zero => exact RVs.cons r z2
    | succ i => exact RVs.cons z1 (RVs.set z2 r i)
theorem RVs.drop : ∀ {ts : List Val} {vs : List V} (n : Nat), RVs L K f H ts vs → RVs L K f H (ts.drop n) (vs.drop n)
  | ts, vs, 0, e => e
  | [], vs, n + 1, e => by unfold RVs at e; subst e; exact RVs.nil
  | t :: ts, vs, n + 1, e => by
    unfold RVs at e
    obtain ⟨v, r, rfl, z1, z2⟩ := e
    exact RVs.drop n z2
theorem RVs.take : ∀ {ts : List Val} {vs : List V} (n : Nat), RVs L K f H ts vs → RVs L K f H (ts.take n) (vs.take n)
  | ts, vs, 0, e => by simpa using RVs.nil
  | [], vs, n + 1, e => by unfold RVs at e; subst e; exact RVs.nil
  | t :: ts, vs, n + 1, e => by
    unfold RVs at e
    obtain ⟨v, r, rfl, z1, z2⟩ := e
    exact RVs.cons z1 (RVs.take n z2)
theorem RVs.eraseIdx : ∀ {ts : List Val} {vs : List V} (n : Nat), RVs L K f H ts vs → RVs L K f H (ts.eraseIdx n) (vs.eraseIdx n)
  | [], vs, n, e => by unfold RVs at e; subst e; exact RVs.nil
  | t :: ts, vs, n, e => by
    unfold RVs at e
    obtain ⟨v, r, rfl, z1, z2⟩ := e
    cases n with
    | zero => exact z2
    | succ n => exact RVs.cons z1 (RVs.eraseIdx n z2)
theorem RVs.rep {ts : List Val} {vs : List V} (e : RVs L K f H ts vs) : ∀ n, RVs L K f H (List.replicate n ts).flatten (List.replicate n vs).flatten
  | 0 => RVs.nil
  | n + 1 => by
    rw [List.replicate_succ, List.replicate_succ, List.flatten_cons, List.flatten_cons]
    exact RVs.append e (RVs.rep e n)
theorem RVs.reverse : ∀ {ts : List Val} {vs : List V}, RVs L K f H ts vs → RVs L K f H ts.reverse vs.reverse
  | [], vs, e => by unfold RVs at e; subst e; exact RVs.nil
  | t :: ts, vs, e => by
    unfold RVs at e
    obtain ⟨v, r, rfl, z1, z2⟩ := e
    rw [List.reverse_cons, List.reverse_cons]
    exact RVs.append (RVs.reverse z2) (RVs.cons z1 RVs.nil)
theorem RVs.dropLast {ts : List Val} {vs : List V} (e : RVs L K f H ts vs) : RVs L K f H ts.dropLast vs.dropLast := by
  rw [List.dropLast_eq_take, List.dropLast_eq_take, e.length]
  exact e.take _
/-! ### steps of the memory -/
theorem updNe {H : Hp} {a b : Addr} {o o' : HO} (hb : H b = none) (e : H a = some o) : upd H b o' a = some o := by
  rw [upd_ne (ne_of_none e hb)]; exact e
theorem ext_new {p : Addr} {o : HO} (hp : H p = none) : Ext f f H (upd H p o) :=
  ⟨fun _ _ e => e, fun _ _ e => .inl e, fun a o' e _ => updNe hp e, fun a o' e => ⟨o', updNe hp e⟩, fun a o' u e => updNe hp e⟩
theorem RO.mono (S : Sim L K f h H) (x : Ext f f' H H') {a : Addr} {o : Ob} (r : RO L K f H a o) (e : ∀ q, H a = some q → H' a = some q) : RO L K f' H' a o := by
  cases o with
  | lst xs =>
    obtain ⟨vs, q, z⟩ := r
    exact ⟨vs, e _ q, z.mono S x⟩
  | ins c fs =>
    obtain ⟨dx, gs, q, z1, z2⟩ := r
    exact ⟨dx, gs, e _ q, z1, z2.mono S x⟩
  | rol xs =>
    obtain ⟨o, vs, q, z⟩ := r
    exact ⟨o, vs, e _ q, z.mono S x⟩
  | dic kvs =>
    obtain ⟨gs, q, z1, z2⟩ := r
    exact ⟨gs, e _ q, z1, z2.mono S x⟩
  | frd kvs =>
    obtain ⟨o, gs, q, z1, z2⟩ := r
    exact ⟨o, gs, e _ q, z1, z2.mono S x⟩
theorem RO.some {a : Addr} {o : Ob} (r : RO L K f H a o) : ∃ q, H a = some q := by
  cases o with
  | lst xs => obtain ⟨vs, q, z⟩ := r; exact ⟨_, q⟩
  | ins c fs => obtain ⟨dx, gs, q, z⟩ := r; exact ⟨_, q⟩
  | rol xs => obtain ⟨o, vs, q, z⟩ := r; exact ⟨_, q⟩
  | dic kvs => obtain ⟨gs, q, z⟩ := r; exact ⟨_, q⟩
  | frd kvs => obtain ⟨o, gs, q, z⟩ := r; exact ⟨_, q⟩
/-- a new tracked thing outside of the memory -/
theorem Sim.out (S : Sim L K f h H) {p : Addr} {o : HO} (hp : H p = none) : Sim L K f h (upd H p o) :=
  ⟨S.inj, S.has, fun n a e => by
    obtain ⟨ob, q, r⟩ := S.at_ n a e
    exact ⟨ob, q, r.mono S (ext_new hp) fun z ez => updNe hp ez⟩⟩
/-- a new object -/
def put (f : Nm) (n : Nat) (p : Addr) : Nm := fun m => if m = n then some p else f m
theorem put_same {f : Nm} {n : Nat} {p : Addr} : put f n p n = some p := by unfold put; rw [if_pos rfl]
theorem Sim.fresh (S : Sim L K f h H) : f h.length = none := by
  cases e : f h.length with
  | none => rfl
  | some a => exact absurd (S.lt e) (Nat.lt_irrefl _)
theorem ext_put (S : Sim L K f h H) {p : Addr} {o : HO} (hp : H p = none) : Ext f (put f h.length p) H (upd H p o) where
  le := fun n a e => by
    unfold put
    rw [if_neg (fun z => by rw [z, S.fresh] at e; cases e)]
    exact e
  new := fun n a e => by
    unfold put at e
    split at e
    · cases e; exact .inr hp
    · exact .inl e
  keep := fun a o' e _ => updNe hp e
  trk := fun a o' e => ⟨o', updNe hp e⟩
  frz := fun a o' u e => updNe hp e
theorem Sim.alloc (S : Sim L K f h H) {p : Addr} {o : HO} {ob : Ob} (hp : H p = none) (r : RO L K (put f h.length p) (upd H p o) p ob) : Sim L K (put f h.length p) (h ++ [ob]) (upd H p o) where
  inj := fun n m a e1 e2 => by
    have tr : ∀ k, f k = some a → a ≠ p := fun k z w => by
      obtain ⟨_, _, r'⟩ := S.at_ k a z
      obtain ⟨q, e⟩ := r'.some
      rw [w, hp] at e; cases e
    unfold put at e1 e2
    split at e1 <;> split at e2
    · rename_i a1 a2; rw [a1, a2]
    · cases e1; exact absurd rfl (tr m e2)
    · cases e2; exact absurd rfl (tr n e1)
    · exact S.inj n m a e1 e2
  has := fun n hn => by
    unfold put
    by_cases z : n = h.length
    · exact ⟨p, by rw [if_pos z]⟩
    · rw [if_neg z]
      exact S.has n (by rw [List.length_append, List.length_singleton] at hn; omega)
  at_ := fun n a e => by
    by_cases z : n = h.length
    · subst z
      rw [put_same] at e
      cases e
      exact ⟨ob, by simp, r⟩
    · have e' : f n = some a := by unfold put at e; rwa [if_neg z] at e
      obtain ⟨o', q, r'⟩ := S.at_ n a e'
      exact ⟨o', by rw [List.getElem?_append_left (S.lt e')]; exact q, r'.mono S (ext_put S hp) fun q' ez => updNe hp ez⟩
/-- an object of the memory is changed in place -/
theorem ext_upd {a : Addr} {n : Nat} {q o : HO} (e : f n = some a) (hq : H a = some q) (nf : ∀ o u, q ≠ .frz o u := by intro _ _ z; cases z) : Ext f f H (upd H a o) where
  le := fun _ _ z => z
  new := fun _ _ z => .inl z
  keep := fun b o' z nz => by rw [upd_ne (fun w => nz n (by rw [w]; exact e))]; exact z
  trk := fun b o' z => by
    by_cases w : b = a
    · exact ⟨o, by rw [w, upd_same]⟩
    · exact ⟨o', by rw [upd_ne w]; exact z⟩
  frz := fun b o' u z => by
    rw [upd_ne (fun w => by rw [w, hq] at z; exact nf o' u (Option.some.inj z))]
    exact z
theorem Sim.wr (S : Sim L K f h H) {a : Addr} {n : Nat} {q o : HO} {ob : Ob} (e : f n = some a) (hq : H a = some q) (r : RO L K f (upd H a o) a ob) (nf : ∀ o u, q ≠ .frz o u := by intro _ _ z; cases z) : Sim L K f (h.set n ob) (upd H a o) where
  inj := S.inj
  has := fun m hm => S.has m (by rwa [List.length_set] at hm)
  at_ := fun m b z => by
    by_cases w : m = n
    · subst w
      rw [e] at z; cases z
      exact ⟨ob, by rw [List.getElem?_set_self (S.lt e)], r⟩
    · have nb : b ≠ a := fun y => w (S.inj m n a (y ▸ z) e)
      obtain ⟨o', q', r'⟩ := S.at_ m b z
      exact ⟨o', by rw [List.getElem?_set_ne (Ne.symm w)]; exact q', r'.mono S (ext_upd e hq nf) fun y ey => by rw [upd_ne nb]; exact ey⟩
/-- a tracked list outside of the memory is written -/
theorem tupOut {a : Addr} {xs : List V} {o : HO} (ha : H a = some (.lst xs)) : ∀ b vs, SqT K H b vs → SqT K (upd H a o) b vs := fun b vs e => by
  rcases e with e | e
  · have nb : b ≠ a := fun z => by
      rw [z] at e
      rcases e with e | ⟨q, e⟩ <;> rw [ha] at e <;> cases e
    refine .inl ?_
    rcases e with e | ⟨q, e⟩
    · exact .inl (by rw [upd_ne nb]; exact e)
    · exact .inr ⟨q, by rw [upd_ne nb]; exact e⟩
  · exact .inr e
theorem Sim.outUpd (S : Sim L K f h H) {a : Addr} {xs : List V} {o : HO} (ha : H a = some (.lst xs)) (no : ∀ n, f n ≠ some a) : Sim L K f h (upd H a o) :=
  ⟨S.inj, S.has, fun n b e => by
    have nb : b ≠ a := fun z => no n (z ▸ e)
    obtain ⟨ob, q, r⟩ := S.at_ n b e
    refine ⟨ob, q, ?_⟩
    cases ob with
    | lst xs =>
      obtain ⟨vs, q, z⟩ := r
      exact ⟨vs, by rw [upd_ne nb]; exact q, RVs.mono2 (fun _ _ e => e) (tupOut ha) _ _ z⟩
    | ins c fs =>
      obtain ⟨dx, gs, q, z1, z2⟩ := r
      exact ⟨dx, gs, by rw [upd_ne nb]; exact q, z1, RVs.mono2 (fun _ _ e => e) (tupOut ha) _ _ z2⟩
    | rol xs =>
      obtain ⟨o, vs, q, z⟩ := r
      exact ⟨o, vs, by rw [upd_ne nb]; exact q, RVs.mono2 (fun _ _ e => e) (tupOut ha) _ _ z⟩
    | dic kvs =>
      obtain ⟨gs, q, z1, z2⟩ := r
      exact ⟨gs, by rw [upd_ne nb]; exact q, z1, RVs.mono2 (fun _ _ e => e) (tupOut ha) _ _ z2⟩
    | frd kvs =>
      obtain ⟨o, gs, q, z1, z2⟩ := r
      exact ⟨o, gs, by rw [upd_ne nb]; exact q, z1, RVs.mono2 (fun _ _ e => e) (tupOut ha) _ _ z2⟩⟩
/-! ### dicts -/
theorem dGet_cons {α : Type} (q : Key) (v : α) (kvs : List (Key × α)) (k : Key) : dGet ((q, v) :: kvs) k = if q = k then some v else dGet kvs k := by
  unfold dGet
  rw [List.find?_cons]
  by_cases h : q = k
  · simp [h]
  · simp [h]
theorem df_inv {q : Key} {v : Val} {kvs : List (Key × Val)} {gs : List (Key × V)} (r : RFs L K f H ((q, v) :: kvs) gs) : ∃ w gs', gs = (q, w) :: gs' ∧ RV L K f H v w ∧ RFs L K f H kvs gs' := by
  obtain ⟨h1, h2⟩ := r
  cases gs with
  | nil => simp at h1
  | cons g gs =>
    obtain ⟨g1, g2⟩ := g
    simp only [List.map_cons, List.cons.injEq] at h1
    have h2' : RVs L K f H (v :: kvs.map (·.2)) (g2 :: gs.map (·.2)) := h2
    unfold RVs at h2'
    obtain ⟨w, r', e, z1, z2⟩ := h2'
    cases e
    exact ⟨g2, gs, by rw [h1.1], z1, h1.2, z2⟩
theorem df_nil {gs : List (Key × V)} (r : RFs L K f H ([] : List (Key × Val)) gs) : gs = [] := by
  have := r.1
  cases gs with
  | nil => rfl
  | cons _ _ => simp at this
theorem df_cons {q : Key} {v : Val} {w : V} {kvs : List (Key × Val)} {gs : List (Key × V)} (a : RV L K f H v w) (r : RFs L K f H kvs gs) : RFs L K f H ((q, v) :: kvs) ((q, w) :: gs) :=
  ⟨by simp [r.1], RVs.cons a r.2⟩
theorem df_get : ∀ {kvs : List (Key × Val)} {gs : List (Key × V)}, RFs L K f H kvs gs → ∀ k, (∀ v, dGet kvs k = some v → ∃ w, dGet gs k = some w ∧ RV L K f H v w) ∧ (dGet kvs k = none → dGet gs k = none)
  | [], gs, r, k => by
    rw [df_nil r]
    exact ⟨fun v e => by simp [dGet] at e, fun _ => rfl⟩
  | (q, v) :: kvs, gs, r, k => by
    obtain ⟨w, gs', rfl, z1, z2⟩ := df_inv r
    obtain ⟨i1, i2⟩ := df_get z2 k
    rw [dGet_cons, dGet_cons]
    by_cases h : q = k
    · simp only [h, if_true]
      exact ⟨fun v' e => by cases e; exact ⟨w, rfl, z1⟩, fun e => by cases e⟩
    · simp only [h, if_false]
      exact ⟨i1, i2⟩
theorem df_some {kvs : List (Key × Val)} {gs : List (Key × V)} (r : RFs L K f H kvs gs) (k : Key) : (dGet kvs k).isSome = (dGet gs k).isSome := by
  cases e : dGet kvs k with
  | none => rw [(df_get r k).2 e]; rfl
  | some v =>
    obtain ⟨w, e2, _⟩ := (df_get r k).1 v e
    rw [e2]; rfl
theorem df_any : ∀ {kvs : List (Key × Val)} {gs : List (Key × V)}, RFs L K f H kvs gs → ∀ k, (kvs.any fun kv => decide (kv.1 = k)) = gs.any fun kv => decide (kv.1 = k)
  | [], gs, r, k => by rw [df_nil r]; rfl
  | (q, v) :: kvs, gs, r, k => by
    obtain ⟨w, gs', rfl, z1, z2⟩ := df_inv r
    rw [List.any_cons, List.any_cons, df_any z2 k]
theorem df_map {v : Val} {w : V} (a : RV L K f H v w) (k : Key) : ∀ {kvs : List (Key × Val)} {gs : List (Key × V)}, RFs L K f H kvs gs → RFs L K f H (kvs.map fun kv => if kv.1 = k then (kv.1, v) else kv) (gs.map fun kv => if kv.1 = k then (kv.1, w) else kv)
  | [], gs, r => by rw [df_nil r]; exact ⟨rfl, RVs.nil⟩
  | (q, u) :: kvs, gs, r => by
    obtain ⟨x, gs', rfl, z1, z2⟩ := df_inv r
    rw [List.map_cons, List.map_cons]
    by_cases h : q = k
    · simp only [h, if_true]
      exact df_cons a (df_map a k z2)
    · simp only [h, if_false]
      exact df_cons z1 (df_map a k z2)
theorem df_app {v : Val} {w : V} (a : RV L K f H v w) (k : Key) : ∀ {kvs : List (Key × Val)} {gs : List (Key × V)}, RFs L K f H kvs gs → RFs L K f H (kvs ++ [(k, v)]) (gs ++ [(k, w)])
  | [], gs, r => by rw [df_nil r]; exact df_cons a ⟨rfl, RVs.nil⟩
  | (q, u) :: kvs, gs, r => by
    obtain ⟨x, gs', rfl, z1, z2⟩ := df_inv r
    exact df_cons z1 (df_app a k z2)
theorem df_put {v : Val} {w : V} (a : RV L K f H v w) (k : Key) {kvs : List (Key × Val)} {gs : List (Key × V)} (r : RFs L K f H kvs gs) : RFs L K f H (dPut kvs k v) (dPut gs k w) := by
  unfold dPut
  rw [df_any r k]
  split
  · exact df_map a k r
  · exact df_app a k r
theorem df_drop (k : Key) : ∀ {kvs : List (Key × Val)} {gs : List (Key × V)}, RFs L K f H kvs gs → RFs L K f H (dDrop kvs k) (dDrop gs k)
  | [], gs, r => by rw [df_nil r]; exact ⟨rfl, RVs.nil⟩
  | (q, u) :: kvs, gs, r => by
    obtain ⟨x, gs', rfl, z1, z2⟩ := df_inv r
    unfold dDrop
    rw [List.filter_cons, List.filter_cons]
    have ih := df_drop k z2
    unfold dDrop at ih
    by_cases h : q = k
    · simpa [h] using ih
    · simp only [h, ne_eq, not_false_eq_true, decide_true, if_true]
      exact df_cons z1 ih
theorem df_len {κ : Type} {kvs : List (κ × Val)} {gs : List (κ × V)} (r : RFs L K f H kvs gs) : kvs.length = gs.length := by
  have := congrArg List.length r.1
  simpa using this
theorem Sim.dic (S : Sim L K f h H) {n : Nat} {a : Addr} {kvs : List (Key × Val)} (e : f n = some a) (q : h[n]? = some (.dic kvs)) : ∃ gs, H a = some (.dK gs) ∧ RFs L K f H kvs gs := by
  obtain ⟨o, q', r⟩ := S.at_ n a e
  rw [q] at q'; cases q'
  exact r
theorem Sim.frd (S : Sim L K f h H) {n : Nat} {a : Addr} {kvs : List (Key × Val)} (e : f n = some a) (q : h[n]? = some (.frd kvs)) : ∃ o gs, H a = some (.frz o (.dK gs)) ∧ RFs L K f H kvs gs := by
  obtain ⟨o, q', r⟩ := S.at_ n a e
  rw [q] at q'; cases q'
  exact r
theorem key_rel {v : Val} {k : Key} {v' : V} (r : RV L K f H v v') (e : keyOf v = some k) : v' = kV k := by
  cases v with
  | int i => unfold RV at r; cases e; exact r
  | str x => unfold RV at r; cases e; exact r
  | _ => cases e
/-! ### what is wanted behind a run -/
def PostG {α β : Type} (L : Lk) (K : PySem.W.Frag) (R : Nm → Hp → α → β → Prop) (W : WX) (f : Nm) (σ : L2.St) (H : Hp) (Q : β → Hp → Prop) (r : Res α) : Prop := match r with
  | .ok v h' => ∀ f' H' v', Ext f f' H H' → Sim L K f' h' H' → R f' H' v v' → Q v' H'
  | .exc c fs h' => ∀ f' H' cls d, Ext f f' H H' → Sim L K f' h' H' → RX L K f' H' c fs cls d → W cls d σ H'
  | .bad => False
def RB : Nm → Hp → Bool → Bool → Prop := fun _ _ a b => a = b
section
variable {α β γ δ : Type} {R : Nm → Hp → α → β → Prop} {R2 : Nm → Hp → γ → δ → Prop}
theorem PostG.imp {Q Q' : β → Hp → Prop} {r : Res α} (p : PostG L K R W f σ H Q r) (i : ∀ v H', Q v H' → Q' v H') : PostG L K R W f σ H Q' r := by
  cases r with
  | ok v h' => exact fun f' H' v' x S rv => i _ _ (p f' H' v' x S rv)
  | exc c fs h' => exact p
  | bad => exact p
theorem PostG.ext {f1 : Nm} {H1 : Hp} {Q : β → Hp → Prop} {r : Res α} (p : PostG L K R W f σ H Q r) (x : Ext f f1 H H1) : PostG L K R W f1 σ H1 Q r := by
  cases r with
  | ok v h' => exact fun f' H' v' y S rv => p f' H' v' (x.trans y) S rv
  | exc c fs h' => exact fun f' H' cls d y S rx => p f' H' cls d (x.trans y) S rx
  | bad => exact p
theorem PostG.bind {Q : δ → Hp → Prop} {r : Res α} {k : α → Mem → Res γ} (p : PostG L K R2 W f σ H Q (r.bind k)) :
    PostG L K R W f σ H (fun b H1 => ∃ f1 a h1, r = .ok a h1 ∧ Ext f f1 H H1 ∧ Sim L K f1 h1 H1 ∧ R f1 H1 a b ∧ PostG L K R2 W f1 σ H1 Q (k a h1)) r := by
  cases r with
  | ok a h1 => exact fun f1 H1 b x S rb => ⟨f1, a, h1, rfl, x, S, rb, PostG.ext (r := k a h1) p x⟩
  | exc c fs h' => exact p
  | bad => exact p
end
def GoodE (L : Lk) (K : PySem.W.Frag) (W : WX) (m : ME) : TE := fun σ H Q => ∃ f ρ h, Sim L K f h H ∧ EnvR L K f H ρ σ ∧ PostG L K (RV L K) W f σ H Q (m ρ h)
def GoodT (L : Lk) (K : PySem.W.Frag) (W : WX) (m : MT) : TT := fun σ H Q => ∃ f ρ h, Sim L K f h H ∧ EnvR L K f H ρ σ ∧ PostG L K RB W f σ H Q (m ρ h)
def GoodA (L : Lk) (K : PySem.W.Frag) (W : WX) (m : MA) : TA := fun σ H Q => ∃ f ρ h, Sim L K f h H ∧ EnvR L K f H ρ σ ∧ PostG L K (RVs L K) W f σ H Q (m ρ h)
end
end Mp
set_option Elab.async false
set_option linter.all false
set_option maxRecDepth 100000
set_option maxHeartbeats 1000000
namespace Mp
open PySem PySem.Spec PyProof.Rows L2
theorem peImp {X : Cx} {e : Expr} {t t' : TE} (h : PE X e t) (i : ∀ σ H Q, t' σ H Q → t σ H Q) : PE X e t' := ⟨fun pins s σ H Q I q => h.run pins s σ H Q I (i σ H Q q)⟩
theorem ptImp {X : Cx} {e : Expr} {t t' : TT} (h : PT X e t) (i : ∀ σ H Q, t' σ H Q → t σ H Q) : PT X e t' := ⟨fun pins s σ H Q I q => h.run pins s σ H Q I (i σ H Q q)⟩
theorem pwImp {X : Cx} {e : Expr} {t t' : TT} (h : PW X e t) (i : ∀ σ H Q, t' σ H Q → t σ H Q) : PW X e t' := ⟨fun w pins s σ H Q I q => h.run w pins s σ H Q I (i σ H Q q)⟩
theorem paImp {X : Cx} {e : List Expr} {t t' : TA} (h : PA X e t) (i : ∀ σ H Q, t' σ H Q → t σ H Q) : PA X e t' := ⟨fun pos pins s σ H Q I q => h.run pos pins s σ H Q I (i σ H Q q)⟩
theorem psImp {X : Cx} {e : Stmt} {t t' : TS} (h : PS X e t) (i : ∀ D σ H, t' D σ H → t D σ H) : PS X e t' := ⟨fun pins s σ H D I q => h.run pins s σ H D I (i D σ H q)⟩
theorem pssImp {X : Cx} {e : List Stmt} {t t' : TS} (h : PSs X e t) (i : ∀ D σ H, t' D σ H → t D σ H) : PSs X e t' := ⟨fun pins s σ H D I q => h.run pins s σ H D I (i D σ H q)⟩
theorem peNo {X : Cx} {e : Expr} {t : TE} (h : ∀ σ H Q, ¬ t σ H Q) : PE X e t := ⟨fun pins s σ H Q I q => absurd q (h σ H Q)⟩
theorem ptNo {X : Cx} {e : Expr} {t : TT} (h : ∀ σ H Q, ¬ t σ H Q) : PT X e t := ⟨fun pins s σ H Q I q => absurd q (h σ H Q)⟩
theorem psNo {X : Cx} {e : Stmt} {t : TS} (h : ∀ D σ H, ¬ t D σ H) : PS X e t := ⟨fun pins s σ H D I q => absurd q (h D σ H)⟩
/-- no exception -/
def NoX {α : Type} (r : Res α) : Prop := match r with
  | .exc _ _ _ => False
  | _ => True
abbrev WF : WX := fun _ _ _ _ => False
section
variable {L : Lk} {K : PySem.W.Frag} {f f' : Nm} {h h' : Mem} {H H' : Hp} {W : WX} {σ : L2.St} {ρ : Env}
theorem PostG.nox {α β : Type} {R : Nm → Hp → α → β → Prop} {W' : WX} {σ' : L2.St} {Q : β → Hp → Prop} {r : Res α} (nx : NoX r) (p : PostG L K R W f σ H Q r) : PostG L K R W' f σ' H Q r := by
  cases r with
  | ok v h' => exact p
  | exc c fs h' => exact absurd nx id
  | bad => exact p
theorem good_no {m : ME} (e : ∀ ρ h, m ρ h = .bad) : ∀ σ H Q, ¬ GoodE L K W m σ H Q := fun σ H Q ⟨f, ρ, h, _, _, p⟩ => by rw [e] at p; exact p
theorem good_noT {m : MT} (e : ∀ ρ h, m ρ h = .bad) : ∀ σ H Q, ¬ GoodT L K W m σ H Q := fun σ H Q ⟨f, ρ, h, _, _, p⟩ => by rw [e] at p; exact p
/-! ### shapes -/
theorem rv_int {i : Int} {v : V} (r : RV L K f H (.int i) v) : v = .int i := by unfold RV at r; exact r
theorem rv_str {i : Str} {v : V} (r : RV L K f H (.str i) v) : v = .str i := by unfold RV at r; exact r
theorem rv_bl {i : Bool} {v : V} (r : RV L K f H (.bl i) v) : v = .bl i := by unfold RV at r; exact r
theorem rv_non {v : V} (r : RV L K f H .non v) : v = .non := by unfold RV at r; exact r
theorem rv_fn {g : Str} {v : V} (r : RV L K f H (.fn g) v) : v = .ref (L.F g) := by unfold RV at r; exact r
theorem rv_ref {n : Nat} {v : V} (r : RV L K f H (.ref n) v) : ∃ a, f n = some a ∧ v = .ref a := by unfold RV at r; exact r
theorem rv_tup {ts : List Val} {v : V} (r : RV L K f H (.tup ts) v) : ∃ a vs, v = .ref a ∧ SqT K H a vs ∧ RVs L K f H ts vs := by unfold RV at r; exact r
theorem mk_int (i : Int) : RV L K f H (.int i) (.int i) := by unfold RV; rfl
theorem mk_str (i : Str) : RV L K f H (.str i) (.str i) := by unfold RV; rfl
theorem mk_bl (i : Bool) : RV L K f H (.bl i) (.bl i) := by unfold RV; rfl
theorem mk_non : RV L K f H .non .non := by unfold RV; rfl
theorem mk_ref {n : Nat} {a : Addr} (e : f n = some a) : RV L K f H (.ref n) (.ref a) := by unfold RV; exact ⟨a, e, rfl⟩
theorem mk_tup {ts : List Val} {a : Addr} {vs : List V} (e : SqT K H a vs) (r : RVs L K f H ts vs) : RV L K f H (.tup ts) (.ref a) := by unfold RV; exact ⟨a, vs, rfl, e, r⟩
theorem Sim.lst (S : Sim L K f h H) {n : Nat} {a : Addr} {xs : List Val} (e : f n = some a) (q : h[n]? = some (.lst xs)) : ∃ vs, H a = some (.lst vs) ∧ RVs L K f H xs vs := by
  obtain ⟨o, q', r⟩ := S.at_ n a e
  rw [q] at q'; cases q'
  exact r
theorem Sim.seq (S : Sim L K f h H) {n : Nat} {a : Addr} {xs : List Val} (e : f n = some a) (q : h[n]? = some (.lst xs) ∨ h[n]? = some (.rol xs)) : ∃ vs, SqL K H a vs ∧ RVs L K f H xs vs := by
  obtain ⟨o, q', r⟩ := S.at_ n a e
  rcases q with q | q <;> rw [q] at q' <;> cases q'
  · obtain ⟨vs, z, y⟩ := r
    exact ⟨vs, SqL.of z, y⟩
  · obtain ⟨o, vs, z, y⟩ := r
    exact ⟨vs, .inl (.inr ⟨o, z⟩), y⟩
theorem Sim.tyL (S : Sim L K f h H) {n : Nat} {a : Addr} {xs : List Val} (e : f n = some a) (q : h[n]? = some (.lst xs) ∨ h[n]? = some (.rol xs)) : TyX K H (.ref a) (.type "list") := by
  obtain ⟨o, q', r⟩ := S.at_ n a e
  rcases q with q | q <;> rw [q] at q' <;> cases q'
  · obtain ⟨vs, z, y⟩ := r
    exact .base (.lst z)
  · obtain ⟨o, vs, z, y⟩ := r
    exact .base (.frz z)
/-! ### new lists, new tuples -/
theorem newL_nox (xs : List Val) (h : Mem) : NoX (newL xs h) := by unfold newL; split <;> exact True.intro
theorem newL_ok {xs : List Val} {vs : List V} {Q : VK} (S : Sim L K f h H) (r : RVs L K f H xs vs) (p : PostG L K (RV L K) W f σ H Q (newL xs h)) : vs.length ≤ sizeLine ∧ ∀ q, H q = none → Q (.ref q) (upd H q (.lst vs)) := by
  unfold newL at p
  split at p
  · rename_i hz
    refine ⟨by rw [← r.length]; exact hz, fun q hq => ?_⟩
    exact p (put f h.length q) _ _ (ext_put S hq) (S.alloc hq ⟨vs, upd_same, r.mono S (ext_put S hq)⟩) (mk_ref put_same)
  · exact absurd p id
theorem newT_ok {xs : List Val} {vs : List V} {Q : VK} (S : Sim L K f h H) (r : RVs L K f H xs vs) (p : PostG L K (RV L K) W f σ H Q (.ok (.tup xs) h)) : ∀ q, H q = none → Q (.ref q) (upd H q (.tup vs)) := fun q hq =>
  p f _ _ (ext_new hq) (S.out hq) (mk_tup (SqT.of upd_same) (r.mono S (ext_new hq)))
theorem now {v : Val} {v' : V} {Q : VK} (S : Sim L K f h H) (r : RV L K f H v v') (p : PostG L K (RV L K) W f σ H Q (.ok v h)) : Q v' H := p f H v' (Ext.refl f H) S r
/-! ### operators by values -/
def rOpV (L : Lk) (K : PySem.W.Frag) (g : Val → Val → Mem → Res Val) : R2 := fun x' y' H Q => ∃ f h x y, Sim L K f h H ∧ RV L K f H x x' ∧ RV L K f H y y' ∧ PostG L K (RV L K) WF f [] H Q (g x y h)
theorem good_e2 {g : Val → Val → Mem → Res Val} (nx : ∀ x y h, NoX (g x y h)) {da db : ME} {Q : VK} (G : GoodE L K W (e2 g da db) σ H Q) : tOp (rOpV L K g) (GoodE L K W da) (GoodE L K W db) σ H Q := by
  obtain ⟨f, ρ, h, S, E, p⟩ := G
  refine ⟨f, ρ, h, S, E, (PostG.bind (R := RV L K) p).imp fun x' H1 ⟨f1, x, h1, e1, X1, S1, R1, p1⟩ => ?_⟩
  refine ⟨f1, ρ, h1, S1, E.mono S X1, (PostG.bind (R := RV L K) p1).imp fun y' H2 ⟨f2, y, h2, e2, X2, S2, R2, p2⟩ => ?_⟩
  exact ⟨f2, h2, x, y, S2, R1.mono S1 X2, R2, p2.nox (nx x y h2)⟩
theorem mulOk_of {i j : Int} (h : mulOk i j = true) : CMul i j := by
  unfold mulOk at h
  rw [Bool.or_eq_true] at h
  rcases h with h | h
  · exact .inl (of_decide_eq_true h)
  · exact .inr (of_decide_eq_true h)
theorem binop_nox (op : Operator) (x y : Val) (h : Mem) : NoX (binop op x y h) := by
  unfold binop
  split <;> (try split) <;> (try split) <;> first | exact True.intro | exact newL_nox _ _
end
section
variable {L : Lk} {X : Cx}
theorem sbin (op : Operator) : OpR X (binaryOp op) (rOpV L X.K (binop op)) := by
  intro pins s σ H x' y' v u Q I rx ry ⟨f, h, x, y, S, Rx, Ry, p⟩
  unfold binop at p
  split at p
  · obtain rfl := rv_int Rx
    obtain rfl := rv_int Ry
    rename_i i j
    exact op_add pins s σ H _ _ v u Q I rx ry ⟨i, j, rfl, rfl, now S (mk_int _) p⟩
  · obtain rfl := rv_str Rx
    obtain rfl := rv_str Ry
    rename_i i j
    split at p
    · rename_i hz
      exact op_add_str pins s σ H _ _ v u Q I rx ry ⟨i, j, rfl, rfl, hz, now S (mk_str _) p⟩
    · exact absurd p id
  · split at p
    · rename_i xs ys hz
      obtain ⟨a, vs, rfl, sa, ra⟩ := rv_tup Rx
      obtain ⟨b, ws, rfl, sb, rb⟩ := rv_tup Ry
      refine op_catA pins s σ H _ _ v u Q I rx ry ⟨a, b, vs, ws, rfl, rfl, sa, sb, by rw [← ra.length, ← rb.length]; exact hz, fun e => ?_, fun ne e => ?_, fun ne ne' q hq => ?_⟩
      · subst e
        have ex : xs = [] := List.eq_nil_of_length_eq_zero (by rw [ra.length]; rfl)
        subst ex
        exact now S (mk_tup sb rb) p
      · subst e
        have ey : ys = [] := List.eq_nil_of_length_eq_zero (by rw [rb.length]; rfl)
        subst ey
        rw [List.append_nil] at p
        exact now S (mk_tup sa ra) p
      · exact newT_ok S (ra.append rb) p q hq
    · exact absurd p id
  · split at p
    · rename_i n m xs ys e1 e2
      obtain ⟨a, ea, rfl⟩ := rv_ref Rx
      obtain ⟨b, eb, rfl⟩ := rv_ref Ry
      obtain ⟨vs, ha, ra⟩ := S.lst ea e1
      obtain ⟨ws, hb, rb⟩ := S.lst eb e2
      obtain ⟨hz, k⟩ := newL_ok S (ra.append rb) p
      rw [List.length_append] at hz
      exact op_cat pins s σ H _ _ v u Q I rx ry ⟨a, b, vs, ws, rfl, rfl, ha, hb, hz, k⟩
    · exact absurd p id
  · obtain rfl := rv_int Rx
    obtain rfl := rv_int Ry
    rename_i i j
    exact op_sub pins s σ H _ _ v u Q I rx ry ⟨i, j, rfl, rfl, now S (mk_int _) p⟩
  · obtain rfl := rv_int Rx
    obtain rfl := rv_int Ry
    rename_i i j
    split at p
    · rename_i hz
      exact op_mul pins s σ H _ _ v u Q I rx ry ⟨i, j, rfl, rfl, mulOk_of hz, now S (mk_int _) p⟩
    · exact absurd p id
  · split at p
    · rename_i n k _ xs e1
      split at p
      · rename_i hz
        obtain ⟨a, ea, rfl⟩ := rv_ref Rx
        obtain rfl := rv_int Ry
        obtain ⟨vs, ha, ra⟩ := S.lst ea e1
        obtain ⟨_, kk⟩ := newL_ok S (ra.rep k.toNat) p
        exact op_rep pins s σ H _ _ v u Q I rx ry ⟨a, k, vs, rfl, rfl, ha, hz.1, hz.2.1, by rw [← ra.length]; exact hz.2.2, kk⟩
      · exact absurd p id
    · exact absurd p id
  · obtain rfl := rv_int Rx
    obtain rfl := rv_int Ry
    rename_i i j
    split at p
    · rename_i hz
      refine op_fdivW pins s σ H _ _ v u Q I rx ry ⟨i, j, rfl, rfl, wide_div (b := 64) hz.1 (by have := hz.2; omega) (by decide) (by decide), now S (mk_int _) p⟩
    · exact absurd p id
  · obtain rfl := rv_int Rx
    obtain rfl := rv_int Ry
    rename_i i j
    split at p
    · rename_i hz
      exact op_mod pins s σ H _ _ v u Q I rx ry ⟨i, j, rfl, rfl, hz, now S (mk_int _) p⟩
    · exact absurd p id
  · obtain rfl := rv_int Rx
    obtain rfl := rv_int Ry
    rename_i i j
    split at p
    · rename_i hz
      exact op_pow pins s σ H _ _ v u Q I rx ry ⟨i, j, rfl, rfl, hz, now S (mk_int _) p⟩
    · exact absurd p id
  · exact absurd p id
end
section
variable {L : Lk} {K : PySem.W.Frag} {f f' : Nm} {h h' : Mem} {H H' : Hp} {W : WX} {σ : L2.St} {ρ : Env}
/-! ### deep reading -/
mutual
theorem rd_dp (S : Sim L K f h H) : ∀ (n : Nat) (v : Val) (d : PyData) (v' : V), rd h n v = some d → RV L K f H v v' → Dp K H v' d
  | 0, _, _, _, e, _ => by simp [rd] at e
  | n + 1, v, d, v', e, r => by
    cases v with
    | non => rw [rv_non r]; simp [rd] at e; subst e; exact .non
    | bl b => rw [rv_bl r]; simp [rd] at e; subst e; exact .bl b
    | int i => rw [rv_int r]; simp [rd] at e; subst e; exact .int i
    | str x => rw [rv_str r]; simp [rd] at e; subst e; exact .str x
    | fn g => simp [rd] at e
    | exn c fs => simp [rd] at e
    | tup ts =>
      obtain ⟨a, vs, rfl, sa, ra⟩ := rv_tup r
      simp only [rd] at e
      obtain ⟨ds, e1, rfl⟩ := Option.map_eq_some_iff.mp e
      exact .tup sa (rds_dp S n ts ds vs e1 ra)
    | ref m =>
      obtain ⟨a, ea, rfl⟩ := rv_ref r
      simp only [rd] at e
      split at e
      · rename_i xs q
        obtain ⟨ds, e1, rfl⟩ := Option.map_eq_some_iff.mp e
        obtain ⟨vs, sv, rv⟩ := S.seq ea (.inl q)
        exact .lst sv (rds_dp S n xs ds vs e1 rv)
      · rename_i xs q
        obtain ⟨ds, e1, rfl⟩ := Option.map_eq_some_iff.mp e
        obtain ⟨vs, sv, rv⟩ := S.seq ea (.inr q)
        exact .lst sv (rds_dp S n xs ds vs e1 rv)
      · cases e
theorem rds_dp (S : Sim L K f h H) : ∀ (n : Nat) (vs : List Val) (ds : List PyData) (vs' : List V), rds h n vs = some ds → RVs L K f H vs vs' → DpAll K H vs' ds
  | 0, _, _, _, e, _ => by simp [rds] at e
  | n + 1, [], ds, vs', e, r => by
    unfold RVs at r; subst r
    simp [rds] at e; subst e
    exact .nil
  | n + 1, v :: vs, ds, vs', e, r => by
    unfold RVs at r
    obtain ⟨w, ws, rfl, r1, r2⟩ := r
    simp only [rds] at e
    split at e
    · rename_i d ds' e1 e2
      cases e
      exact .cons (rd_dp S n v d w e1 r1) (rds_dp S n vs ds' ws e2 r2)
    · cases e
end
theorem rdS_dp (S : Sim L K f h H) {v : Val} {d : PyData} {v' : V} (e : rdS h v = some d) (r : RV L K f H v v') : Dp K H v' d ∧ SeqAt.shaped d = true := by
  unfold rdS at e
  split at e
  · rename_i d' q
    split at e
    · rename_i hz
      cases e
      exact ⟨rd_dp S _ _ _ _ q r, hz⟩
    · cases e
  · cases e
theorem flat_of {v : Val} {v' : V} (r : RV L K f H v v') (e : flat v = true) : flatV v' = true := by
  cases v <;> simp [flat] at e
  · rw [rv_non r]; rfl
  · rw [rv_bl r]; rfl
  · rw [rv_int r]; rfl
  · rw [rv_str r]; rfl
theorem eqF_of {v w : Val} {v' w' : V} (r : RV L K f H v v') (r' : RV L K f H w w') (e : flat v = true) (e' : flat w = true) : eqF v w = eqV v' w' := by
  cases v <;> simp [flat] at e <;> cases w <;> simp [flat] at e'
  all_goals
    first
    | rw [rv_non r] | rw [rv_bl r] | rw [rv_int r] | rw [rv_str r]
  all_goals
    first
    | rw [rv_non r'] | rw [rv_bl r'] | rw [rv_int r'] | rw [rv_str r']
  all_goals rfl
theorem any_of {w : Val} {w' : V} (r' : RV L K f H w w') (e' : flat w = true) : ∀ {ts : List Val} {vs : List V}, RVs L K f H ts vs → ts.all flat = true → vs.all flatV = true ∧ (ts.any fun y => eqF y w) = vs.any fun y => eqV y w'
  | [], vs, r, _ => by unfold RVs at r; subst r; exact ⟨rfl, rfl⟩
  | t :: ts, vs, r, a => by
    unfold RVs at r
    obtain ⟨v, q, rfl, r1, r2⟩ := r
    simp only [List.all_cons, Bool.and_eq_true] at a
    obtain ⟨i1, i2⟩ := any_of r' e' r2 a.2
    refine ⟨?_, ?_⟩
    · rw [List.all_cons, i1, flat_of r1 a.1]; rfl
    · rw [List.any_cons, List.any_cons, i2, eqF_of r1 r' a.1 e']
theorem isNon_of {v : Val} {v' : V} (r : RV L K f H v v') : isNon v = decide (v' = .non) := by
  cases v
  · rw [rv_non r]; rfl
  · rw [rv_bl r]; rfl
  · rw [rv_int r]; rfl
  · rw [rv_str r]; rfl
  · obtain ⟨a, vs, rfl, _⟩ := rv_tup r; rfl
  · obtain ⟨a, _, rfl⟩ := rv_ref r; rfl
  · rw [rv_fn r]; rfl
  · unfold RV at r; exact r.elim
end
section
variable {L : Lk} {X : Cx}
theorem cmpR_nox (op : CmpOp) (x y : Val) (h : Mem) : NoX (cmpR op x y h) := by
  unfold cmpR
  cases cmpop op h x y <;> exact True.intro
theorem scmp (hu : X.A.units + 65 < cLine) (op : CmpOp) : OpR X (compareOp op) (rOpV L X.K (cmpR op)) := by
  intro pins s σ H x' y' v u Q I rx ry ⟨f, h, x, y, S, Rx, Ry, p⟩
  unfold cmpR at p
  cases ec : cmpop op h x y with
  | none => rw [ec] at p; exact absurd p id
  | some b =>
    rw [ec] at p
    have q : Q (.bl b) H := now S (mk_bl _) p
    unfold cmpop at ec
    split at ec
    · split at ec
      · rename_i d e e1 e2
        cases ec
        obtain ⟨d1, s1⟩ := rdS_dp S e1 Rx
        obtain ⟨d2, s2⟩ := rdS_dp S e2 Ry
        exact op_eqD (by omega) pins s σ H _ _ v u Q I rx ry ⟨d, e, d1, d2, s1, s2, q⟩
      · cases ec
    · split at ec
      · rename_i d e e1 e2
        cases ec
        obtain ⟨d1, s1⟩ := rdS_dp S e1 Rx
        obtain ⟨d2, s2⟩ := rdS_dp S e2 Ry
        exact op_neD (by omega) pins s σ H _ _ v u Q I rx ry ⟨d, e, d1, d2, s1, s2, q⟩
      · cases ec
    · obtain rfl := rv_int Rx
      obtain rfl := rv_int Ry
      rename_i i j
      cases ec
      exact op_lt pins s σ H _ _ v u Q I rx ry ⟨i, j, rfl, rfl, q⟩
    · obtain rfl := rv_int Rx
      obtain rfl := rv_int Ry
      rename_i i j
      cases ec
      exact op_le pins s σ H _ _ v u Q I rx ry ⟨i, j, rfl, rfl, q⟩
    · obtain rfl := rv_int Rx
      obtain rfl := rv_int Ry
      rename_i i j
      cases ec
      exact op_gt pins s σ H _ _ v u Q I rx ry ⟨i, j, rfl, rfl, q⟩
    · obtain rfl := rv_int Rx
      obtain rfl := rv_int Ry
      rename_i i j
      cases ec
      exact op_ge pins s σ H _ _ v u Q I rx ry ⟨i, j, rfl, rfl, q⟩
    · cases ec
      obtain rfl := rv_non Ry
      exact op_isN pins s σ H _ _ v u Q I rx ry ⟨rfl, by rw [← isNon_of Rx]; exact q⟩
    · cases ec
      obtain rfl := rv_non Ry
      exact op_notN pins s σ H _ _ v u Q I rx ry ⟨rfl, by rw [← isNon_of Rx]; exact q⟩
    · unfold inOp at ec
      split at ec
      · cases ec
        obtain rfl := rv_str Rx
        obtain rfl := rv_str Ry
        exact op_in_str pins s σ H _ _ v u Q I rx ry ⟨_, _, rfl, rfl, q⟩
      · split at ec
        · rename_i hz
          cases ec
          rw [Bool.and_eq_true] at hz
          obtain ⟨a, vs, rfl, sa, ra⟩ := rv_tup Ry
          obtain ⟨z1, z2⟩ := any_of Rx hz.1 ra hz.2
          rw [z2] at q
          exact op_in_seq pins s σ H _ _ v u Q I rx ry ⟨a, vs, rfl, .inr sa, flat_of Rx hz.1, z1, q⟩
        · cases ec
      · split at ec
        · rename_i n kvs en
          obtain ⟨k, ek, eb⟩ := Option.map_eq_some_iff.mp ec
          obtain ⟨a, ea, rfl⟩ := rv_ref Ry
          obtain ⟨gs, hg, rg⟩ := S.dic ea en
          obtain rfl := key_rel Rx ek
          obtain rfl : u = Value.ref a := ry
          have q' : Q (.bl (dGet gs k).isSome) H := by rw [← df_some rg k, eb]; exact q
          exact d_in (by omega) I (DGet.k hg) rx fun s3 I3 => ⟨.bl (dGet gs k).isSome, H, I3, rfl, q'⟩
        · rename_i n kvs en
          obtain ⟨k, ek, eb⟩ := Option.map_eq_some_iff.mp ec
          obtain ⟨a, ea, rfl⟩ := rv_ref Ry
          obtain ⟨o, gs, hg, rg⟩ := S.frd ea en
          obtain rfl := key_rel Rx ek
          obtain rfl : u = Value.ref a := ry
          have q' : Q (.bl (dGet gs k).isSome) H := by rw [← df_some rg k, eb]; exact q
          exact d_in (by omega) I (.inl ⟨gs, k, .inr ⟨o, hg⟩, rfl, rfl⟩) rx fun s3 I3 => ⟨.bl (dGet gs k).isSome, H, I3, rfl, q'⟩
        · split at ec
          · rename_i d ds e1 e2
            cases ec
            obtain ⟨d1, s1⟩ := rdS_dp S e1 Rx
            obtain ⟨d2, s2⟩ := rdS_dp S e2 Ry
            exact op_inD hu pins s σ H _ _ v u Q I rx ry ⟨d, ds, d1, d2, s1, s2, q⟩
          · cases ec
      · cases ec
    · obtain ⟨b', ec2, rfl⟩ := Option.map_eq_some_iff.mp ec
      clear ec
      unfold inOp at ec2
      split at ec2
      · obtain rfl := Option.some.inj ec2
        obtain rfl := rv_str Rx
        obtain rfl := rv_str Ry
        exact op_notin_str pins s σ H _ _ v u Q I rx ry ⟨_, _, rfl, rfl, q⟩
      · split at ec2
        · rename_i hz
          obtain rfl := Option.some.inj ec2
          rw [Bool.and_eq_true] at hz
          obtain ⟨a, vs, rfl, sa, ra⟩ := rv_tup Ry
          obtain ⟨z1, z2⟩ := any_of Rx hz.1 ra hz.2
          rw [z2] at q
          exact op_notIn_seq pins s σ H _ _ v u Q I rx ry ⟨a, vs, rfl, .inr sa, flat_of Rx hz.1, z1, q⟩
        · cases ec2
      · split at ec2
        · rename_i n kvs en
          obtain ⟨k, ek, eb⟩ := Option.map_eq_some_iff.mp ec2
          obtain ⟨a, ea, rfl⟩ := rv_ref Ry
          obtain ⟨gs, hg, rg⟩ := S.dic ea en
          obtain rfl := key_rel Rx ek
          obtain rfl : u = Value.ref a := ry
          have q' : Q (.bl (!(dGet gs k).isSome)) H := by rw [← df_some rg k, eb]; exact q
          exact d_notIn (by omega) I (DGet.k hg) rx fun s3 I3 => ⟨.bl (!(dGet gs k).isSome), H, I3, rfl, q'⟩
        · rename_i n kvs en
          obtain ⟨k, ek, eb⟩ := Option.map_eq_some_iff.mp ec2
          obtain ⟨a, ea, rfl⟩ := rv_ref Ry
          obtain ⟨o, gs, hg, rg⟩ := S.frd ea en
          obtain rfl := key_rel Rx ek
          obtain rfl : u = Value.ref a := ry
          have q' : Q (.bl (!(dGet gs k).isSome)) H := by rw [← df_some rg k, eb]; exact q
          exact d_notIn (by omega) I (.inl ⟨gs, k, .inr ⟨o, hg⟩, rfl, rfl⟩) rx fun s3 I3 => ⟨.bl (!(dGet gs k).isSome), H, I3, rfl, q'⟩
        · split at ec2
          · rename_i d ds e1 e2
            obtain rfl := Option.some.inj ec2
            obtain ⟨d1, s1⟩ := rdS_dp S e1 Rx
            obtain ⟨d2, s2⟩ := rdS_dp S e2 Ry
            exact op_notInD hu pins s σ H _ _ v u Q I rx ry ⟨d, ds, d1, d2, s1, s2, q⟩
          · cases ec2
      · cases ec2
    · cases ec
end
end Mp
set_option Elab.async false
set_option linter.all false
set_option maxRecDepth 100000
set_option maxHeartbeats 1000000
namespace Mp
open PySem PySem.Spec PyProof.Rows L2
section
variable {L : Lk} {X : Cx} {W : WX} {a b c : Expr} {da db dc : ME} {pos : Pos}
/-! ### names, constants -/
theorem s_var {i : Nat} {x : Str} (hx : i ∉ L.xs) (hN : X.N[i]? = some x) (hv : Vis X.env.scope x) (hd : (x == ("__debug__" : Str)) = false) (hcd : (x == ("__classdict__" : Str)) = false) : PE X (.Name x pos) (GoodE L X.K W (eVar i)) := by
  refine peImp (pe_var hN hv hd hcd) fun σ H Q ⟨f, ρ, h, S, E, p⟩ => ?_
  unfold eVar at p
  split at p
  · rename_i v e
    obtain ⟨v', q, r⟩ := E.at_ i v e
    exact ⟨v', q, now S (r.out hx) p⟩
  · exact absurd p id
theorem s_glob {x : Str} {v : Val} {v' : V} {u : Value} (hg : Gl X x) (hm : X.mg x = some u) (r : RelV v' u) (hv : ∀ f H, RV L X.K f H v v') (hd : (x == ("__debug__" : Str)) = false) : PE X (.Name x pos) (GoodE L X.K W (eC v)) :=
  peImp (pe_glob hg hm r hd) fun σ H Q ⟨f, ρ, h, S, E, p⟩ => now S (hv f H) p
theorem s_int {i : Int} {j : Nat} : PE X (.Constant (.int i) j pos) (GoodE L X.K W (eC (.int i))) := peImp pe_int fun σ H Q ⟨f, ρ, h, S, E, p⟩ => now S (mk_int i) p
theorem s_bl {i : Bool} {j : Nat} : PE X (.Constant (.bool i) j pos) (GoodE L X.K W (eC (.bl i))) := peImp pe_bl fun σ H Q ⟨f, ρ, h, S, E, p⟩ => now S (mk_bl i) p
theorem s_str {i : Str} {j : Nat} : PE X (.Constant (.str i) j pos) (GoodE L X.K W (eC (.str i))) := peImp pe_str fun σ H Q ⟨f, ρ, h, S, E, p⟩ => now S (mk_str i) p
theorem s_non {j : Nat} : PE X (.Constant .none j pos) (GoodE L X.K W (eC .non)) := peImp pe_non fun σ H Q ⟨f, ρ, h, S, E, p⟩ => now S mk_non p
/-! ### operators -/
theorem s_bin {op : Operator} (ha : PE X a (GoodE L X.K W da)) (hb : PE X b (GoodE L X.K W db)) : PE X (.BinOp a op b pos) (GoodE L X.K W (eBin op da db)) :=
  peImp (pe_op (sbin (L := L) op) ha hb) fun σ H Q G => good_e2 (binop_nox op) G
theorem s_cmp {op : CmpOp} (hu : X.A.units + 65 < cLine) (ha : PE X a (GoodE L X.K W da)) (hb : PE X b (GoodE L X.K W db)) (hm : behindInMarks op b = false) : PE X (.Compare a [op] [b] pos) (GoodE L X.K W (eCmp op da db)) :=
  peImp (pe_cmpR (scmp (L := L) hu op) ha hb hm) fun σ H Q G => good_e2 (cmpR_nox op) G
theorem cmpR_bl {op : CmpOp} {x y : Val} {h : Mem} {z : Val} {h' : Mem} (e : cmpR op x y h = .ok z h') : ∃ k, z = .bl k := by
  unfold cmpR at e
  cases q : cmpop op h x y with
  | none => rw [q] at e; cases e
  | some b => rw [q] at e; cases e; exact ⟨b, rfl⟩
theorem s_chain {op op' : CmpOp} (hu : X.A.units + 65 < cLine) (ha : PE X a (GoodE L X.K W da)) (hb : PE X b (GoodE L X.K W db)) (hc : PE X c (GoodE L X.K W dc)) (hm : lastMarks [op, op'] [b, c] = false) :
    PE X (.Compare a [op, op'] [b, c] pos) (GoodE L X.K W (eChain op op' da db dc)) := by
  refine peImp (pe_chain (scmp (L := L) hu op) (scmp (L := L) hu op') ha hb hc hm) fun σ H Q ⟨f, ρ, h, S, E, p⟩ => ?_
  refine ⟨f, ρ, h, S, E, (PostG.bind (R := RV L X.K) p).imp fun x' H1 ⟨f1, x, h1, e1, X1, S1, R1, p1⟩ => ?_⟩
  refine ⟨f1, ρ, h1, S1, E.mono S X1, (PostG.bind (R := RV L X.K) p1).imp fun y' H2 ⟨f2, y, h2, e2, X2, S2, R2, p2⟩ => ?_⟩
  refine ⟨f2, h2, x, y, S2, R1.mono S1 X2, R2, ((PostG.bind (R := RV L X.K) p2).nox (cmpR_nox _ _ _ _)).imp fun z' H3 ⟨f3, z, h3, e3, X3, S3, R3, p3⟩ => ?_⟩
  obtain ⟨k, rfl⟩ := cmpR_bl e3
  obtain rfl := rv_bl R3
  refine ⟨k, rfl, ?_⟩
  cases k with
  | true =>
    rw [if_pos rfl]
    refine ⟨f3, ρ, h3, S3, ((E.mono S X1).mono S1 X2).mono S2 X3, (PostG.bind (R := RV L X.K) p3).imp fun w' H4 ⟨f4, w, h4, e4, X4, S4, R4, p4⟩ => ?_⟩
    exact ⟨f4, h4, y, w, S4, (R2.mono S2 X3).mono S3 X4, R4, p4.nox (cmpR_nox _ _ _ _)⟩
  | false =>
    rw [if_neg Bool.false_ne_true]
    exact now S3 (mk_bl _) p3
theorem s_neg (ha : PE X a (GoodE L X.K W da)) : PE X (.UnaryOp .USub a pos) (GoodE L X.K W (eNeg da)) := by
  refine peImp (pe_un un_neg ha) fun σ H Q ⟨f, ρ, h, S, E, p⟩ => ?_
  refine ⟨f, ρ, h, S, E, (PostG.bind (R := RV L X.K) p).imp fun x' H1 ⟨f1, x, h1, e1, X1, S1, R1, p1⟩ => ?_⟩
  unfold negV at p1
  split at p1
  · rename_i i
    exact ⟨i, rv_int R1, now S1 (mk_int _) p1⟩
  · exact absurd p1 id
/-! ### truth -/
theorem truthy_ok {K : PySem.W.Frag} {f : Nm} {h : Mem} {H : Hp} (S : Sim L K f h H) {x : Val} {x' : V} {k : Bool} (r : RV L K f H x x') (e : truthy h x = some k) : TruV K x' H k := by
  cases x with
  | non => obtain rfl := rv_non r; unfold truthy at e; cases e; rfl
  | bl b => obtain rfl := rv_bl r; unfold truthy at e; cases e; rfl
  | int i => obtain rfl := rv_int r; unfold truthy at e; cases e; rfl
  | str y =>
    obtain rfl := rv_str r
    simp only [truthy] at e
    split at e
    · rename_i hz; cases e; exact ⟨hz, rfl⟩
    · cases e
  | tup ts =>
    obtain ⟨a, vs, rfl, sa, ra⟩ := rv_tup r
    unfold truthy at e
    cases e
    refine .inr (.inl ⟨vs, sa, ?_⟩)
    have := ra.length
    cases ts <;> cases vs <;> first | rfl | simp at this
  | ref n =>
    obtain ⟨a, ea, rfl⟩ := rv_ref r
    unfold truthy at e
    have fin : ∀ {xs : List Val}, (h[n]? = some (.lst xs) ∨ h[n]? = some (.rol xs)) → k = !xs.isEmpty → TruV K (.ref a) H k := fun {xs} q ek => by
      obtain ⟨vs, sv, rv⟩ := S.seq ea q
      refine .inl ⟨vs, sv, ?_⟩
      rw [ek]
      have := rv.length
      cases xs <;> cases vs <;> first | rfl | simp at this
    dsimp only at e
    split at e
    · rename_i xs q; cases e; exact fin (.inl q) rfl
    · rename_i xs q; cases e; exact fin (.inr q) rfl
    · cases e
  | fn g => unfold truthy at e; cases e
  | exn c fs => unfold truthy at e; cases e
theorem tru_post {K : PySem.W.Frag} {f : Nm} {h : Mem} {H : Hp} {σ : L2.St} {x : Val} {x' : V} {β δ : Type} {R : Nm → Hp → β → δ → Prop} {Q : δ → Hp → Prop} {k : Bool → Mem → Res β} (S : Sim L K f h H) (r : RV L K f H x x')
    (p : PostG L K R W f σ H Q ((Res.opt (truthy h x) h).bind k)) : ∃ b, TruV K x' H b ∧ PostG L K R W f σ H Q (k b h) := by
  cases e : truthy h x with
  | none => rw [e] at p; exact absurd p id
  | some b => rw [e] at p; exact ⟨b, truthy_ok S r e, p⟩
theorem s_not (ha : PE X a (GoodE L X.K W da)) : PE X (.UnaryOp .Not a pos) (GoodE L X.K W (eNot da)) := by
  refine peImp (pe_notT ha) fun σ H Q ⟨f, ρ, h, S, E, p⟩ => ?_
  refine ⟨f, ρ, h, S, E, (PostG.bind (R := RV L X.K) p).imp fun x' H1 ⟨f1, x, h1, e1, X1, S1, R1, p1⟩ => ?_⟩
  obtain ⟨b, tb, p2⟩ := tru_post S1 R1 p1
  exact ⟨b, tb, now S1 (mk_bl _) p2⟩
theorem s_and {rest : List Expr} (ha : PE X a (GoodE L X.K W da)) (hb : PE X (.BoolOp .And (b :: rest) pos) (GoodE L X.K W db)) : PE X (.BoolOp .And (a :: b :: rest) pos) (GoodE L X.K W (eAnd da db)) := by
  refine peImp (pe_andT ha hb) fun σ H Q ⟨f, ρ, h, S, E, p⟩ => ?_
  refine ⟨f, ρ, h, S, E, (PostG.bind (R := RV L X.K) p).imp fun x' H1 ⟨f1, x, h1, e1, X1, S1, R1, p1⟩ => ?_⟩
  obtain ⟨k, tb, p2⟩ := tru_post S1 R1 p1
  refine ⟨k, tb, ?_⟩
  cases k with
  | true => rw [if_pos rfl]; rw [if_pos rfl] at p2; exact ⟨f1, ρ, h1, S1, E.mono S X1, p2⟩
  | false => rw [if_neg Bool.false_ne_true]; rw [if_neg Bool.false_ne_true] at p2; exact now S1 R1 p2
theorem s_or {rest : List Expr} (ha : PE X a (GoodE L X.K W da)) (hb : PE X (.BoolOp .Or (b :: rest) pos) (GoodE L X.K W db)) : PE X (.BoolOp .Or (a :: b :: rest) pos) (GoodE L X.K W (eOr da db)) := by
  refine peImp (pe_orT ha hb) fun σ H Q ⟨f, ρ, h, S, E, p⟩ => ?_
  refine ⟨f, ρ, h, S, E, (PostG.bind (R := RV L X.K) p).imp fun x' H1 ⟨f1, x, h1, e1, X1, S1, R1, p1⟩ => ?_⟩
  obtain ⟨k, tb, p2⟩ := tru_post S1 R1 p1
  refine ⟨k, tb, ?_⟩
  cases k with
  | true => rw [if_pos rfl]; rw [if_pos rfl] at p2; exact now S1 R1 p2
  | false => rw [if_neg Bool.false_ne_true]; rw [if_neg Bool.false_ne_true] at p2; exact ⟨f1, ρ, h1, S1, E.mono S X1, p2⟩
/-! ### tests -/
variable {ta tb : MT}
theorem t_val (ha : PE X a (GoodE L X.K W da)) (he : ∀ whole, isTrue a X.env whole = (do let v ← whole; standAt a.pos; holding [v] (PySem.truthy v))) : PT X a (GoodT L X.K W (tE da)) := by
  refine ptImp (pt_truth ha he) fun σ H Q ⟨f, ρ, h, S, E, p⟩ => ?_
  refine ⟨f, ρ, h, S, E, (PostG.bind (R := RV L X.K) p).imp fun x' H1 ⟨f1, x, h1, e1, X1, S1, R1, p1⟩ => ?_⟩
  cases e : truthy h1 x with
  | none => rw [e] at p1; exact absurd p1 id
  | some k =>
    rw [e] at p1
    exact ⟨k, truthy_ok S1 R1 e, p1 f1 H1 k (Ext.refl _ _) S1 rfl⟩
theorem t_cmp {op : CmpOp} (hu : X.A.units + 65 < cLine) (ha : PE X a (GoodE L X.K W da)) (hb : PE X b (GoodE L X.K W db)) (hm : behindInMarks op b = false) : PT X (.Compare a [op] [b] pos) (GoodT L X.K W (tE (eCmp op da db))) := by
  refine ptImp (pt_cmpR (scmp (L := L) hu op) ha hb hm) fun σ H Q ⟨f, ρ, h, S, E, p⟩ => ?_
  refine good_e2 (cmpR_nox op) ⟨f, ρ, h, S, E, (PostG.bind (R := RV L X.K) p).imp fun x' H1 ⟨f1, x, h1, e1, X1, S1, R1, p1⟩ => ?_⟩
  have ⟨k, ek⟩ : ∃ k, x = .bl k := by
    unfold eCmp e2 at e1
    cases q : da ρ h with
    | ok y h2 =>
      rw [q] at e1
      cases q2 : db ρ h2 with
      | ok z h3 => rw [Res.bind_ok, q2] at e1; exact cmpR_bl e1
      | exc _ _ _ => rw [Res.bind_ok, q2] at e1; cases e1
      | bad => rw [Res.bind_ok, q2] at e1; cases e1
    | exc _ _ _ => rw [q] at e1; cases e1
    | bad => rw [q] at e1; cases e1
  subst ek
  obtain rfl := rv_bl R1
  exact ⟨k, rfl, p1 f1 H1 k (Ext.refl _ _) S1 rfl⟩
theorem chain_bl {op op' : CmpOp} {ρ : Env} {h : Mem} {x : Val} {h1 : Mem} (e : eChain op op' da db dc ρ h = .ok x h1) : ∃ k, x = .bl k := by
  unfold eChain at e
  cases q : da ρ h with
  | ok y h2 =>
    rw [q, Res.bind_ok] at e
    cases q2 : db ρ h2 with
    | ok z h3 =>
      rw [q2, Res.bind_ok] at e
      cases q3 : cmpR op y z h3 with
      | ok w h4 =>
        rw [q3, Res.bind_ok] at e
        obtain ⟨k, rfl⟩ := cmpR_bl q3
        cases k with
        | true =>
          dsimp only at e
          cases q5 : dc ρ h4 with
          | ok u h5 => rw [q5, Res.bind_ok] at e; exact cmpR_bl e
          | exc _ _ _ => rw [q5] at e; cases e
          | bad => rw [q5] at e; cases e
        | false => cases e; exact ⟨false, rfl⟩
      | exc _ _ _ => rw [q3] at e; cases e
      | bad => rw [q3] at e; cases e
    | exc _ _ _ => rw [q2] at e; cases e
    | bad => rw [q2] at e; cases e
  | exc _ _ _ => rw [q] at e; cases e
  | bad => rw [q] at e; cases e
/-- a test by the value, where it is a truth value -/
theorem t_of_val {t : TE} (hp : PT X a (tTest t)) (hv : ∀ σ H Q, GoodE L X.K W da σ H Q → t σ H Q) (hb : ∀ ρ h x h1, da ρ h = .ok x h1 → ∃ k, x = .bl k) : PT X a (GoodT L X.K W (tE da)) := by
  refine ptImp hp fun σ H Q ⟨f, ρ, h, S, E, p⟩ => ?_
  refine hv σ H _ ⟨f, ρ, h, S, E, (PostG.bind (R := RV L X.K) p).imp fun x' H1 ⟨f1, x, h1, e1, X1, S1, R1, p1⟩ => ?_⟩
  obtain ⟨k, rfl⟩ := hb _ _ _ _ e1
  obtain rfl := rv_bl R1
  exact ⟨k, rfl, p1 f1 H1 k (Ext.refl _ _) S1 rfl⟩
theorem t_not (ha : PT X a (GoodT L X.K W ta)) : PT X (.UnaryOp .Not a pos) (GoodT L X.K W (tNot ta)) := by
  refine ptImp (pt_not ha) fun σ H Q ⟨f, ρ, h, S, E, p⟩ => ?_
  refine ⟨f, ρ, h, S, E, (PostG.bind (R := RB) p).imp fun x' H1 ⟨f1, x, h1, e1, X1, S1, R1, p1⟩ => ?_⟩
  obtain rfl : x = x' := R1
  exact p1 f1 H1 _ (Ext.refl _ _) S1 rfl
theorem t_and {rest : List Expr} (ha : PT X a (GoodT L X.K W ta)) (hb : PW X (.BoolOp .And (b :: rest) pos) (GoodT L X.K W tb)) : PW X (.BoolOp .And (a :: b :: rest) pos) (GoodT L X.K W (tAnd ta tb)) := by
  refine pwImp (pw_and ha hb) fun σ H Q ⟨f, ρ, h, S, E, p⟩ => ?_
  refine ⟨f, ρ, h, S, E, (PostG.bind (R := RB) p).imp fun x' H1 ⟨f1, x, h1, e1, X1, S1, R1, p1⟩ => ?_⟩
  obtain rfl : x = x' := R1
  cases x with
  | true => rw [if_pos rfl]; rw [if_pos rfl] at p1; exact ⟨f1, ρ, h1, S1, E.mono S X1, p1⟩
  | false => rw [if_neg Bool.false_ne_true]; rw [if_neg Bool.false_ne_true] at p1; exact p1 f1 H1 _ (Ext.refl _ _) S1 rfl
theorem t_or {rest : List Expr} (ha : PT X a (GoodT L X.K W ta)) (hb : PW X (.BoolOp .Or (b :: rest) pos) (GoodT L X.K W tb)) : PW X (.BoolOp .Or (a :: b :: rest) pos) (GoodT L X.K W (tOr ta tb)) := by
  refine pwImp (pw_or ha hb) fun σ H Q ⟨f, ρ, h, S, E, p⟩ => ?_
  refine ⟨f, ρ, h, S, E, (PostG.bind (R := RB) p).imp fun x' H1 ⟨f1, x, h1, e1, X1, S1, R1, p1⟩ => ?_⟩
  obtain rfl : x = x' := R1
  cases x with
  | true => rw [if_pos rfl]; rw [if_pos rfl] at p1; exact p1 f1 H1 _ (Ext.refl _ _) S1 rfl
  | false => rw [if_neg Bool.false_ne_true]; rw [if_neg Bool.false_ne_true] at p1; exact ⟨f1, ρ, h1, S1, E.mono S X1, p1⟩
theorem s_if (hc : PT X c (GoodT L X.K W ta)) (ha : PE X a (GoodE L X.K W da)) (hb : PE X b (GoodE L X.K W db)) : PE X (.IfExp c a b pos) (GoodE L X.K W (eIf ta da db)) := by
  refine peImp (pe_ifExp hc ha hb) fun σ H Q ⟨f, ρ, h, S, E, p⟩ => ?_
  refine ⟨f, ρ, h, S, E, (PostG.bind (R := RB) p).imp fun x' H1 ⟨f1, x, h1, e1, X1, S1, R1, p1⟩ => ?_⟩
  obtain rfl : x = x' := R1
  cases x with
  | true => rw [if_pos rfl]; rw [if_pos rfl] at p1; exact ⟨f1, ρ, h1, S1, E.mono S X1, p1⟩
  | false => rw [if_neg Bool.false_ne_true]; rw [if_neg Bool.false_ne_true] at p1; exact ⟨f1, ρ, h1, S1, E.mono S X1, p1⟩
/-! ### argument lists, displays, subscripts -/
variable {es : List Expr} {das : MA}
theorem a_nil : PA X [] (GoodA L X.K W aNil) := paImp pa_nil fun σ H Q ⟨f, ρ, h, S, E, p⟩ => p f H [] (Ext.refl _ _) S RVs.nil
theorem a_cons (ha : PE X a (GoodE L X.K W da)) (hr : PA X es (GoodA L X.K W das)) (hs : starEach (a :: es) X.env = (false, eval a X.env) :: starEach es X.env) : PA X (a :: es) (GoodA L X.K W (aCons da das)) := by
  refine paImp (pa_cons ha hr hs) fun σ H Q ⟨f, ρ, h, S, E, p⟩ => ?_
  refine ⟨f, ρ, h, S, E, (PostG.bind (R := RV L X.K) p).imp fun x' H1 ⟨f1, x, h1, e1, X1, S1, R1, p1⟩ => ?_⟩
  refine ⟨f1, ρ, h1, S1, E.mono S X1, (PostG.bind (R := RVs L X.K) p1).imp fun xs' H2 ⟨f2, xs, h2, e2, X2, S2, R2, p2⟩ => ?_⟩
  exact p2 f2 H2 _ (Ext.refl _ _) S2 (RVs.cons (R1.mono S1 X2) R2)
theorem s_tup {k : Nat} (ha : PA X es (GoodA L X.K W das)) : PE X (.Tuple es k pos) (GoodE L X.K W (eTup das)) := by
  refine peImp (pe_tup ha) fun σ H Q ⟨f, ρ, h, S, E, p⟩ => ?_
  refine ⟨f, ρ, h, S, E, (PostG.bind (R := RVs L X.K) p).imp fun xs' H1 ⟨f1, xs, h1, e1, X1, S1, R1, p1⟩ => ?_⟩
  split at p1
  · rename_i hz
    exact ⟨by rw [← R1.length]; exact hz, newT_ok S1 R1 p1⟩
  · exact absurd p1 id
theorem s_lst (ha : PA X es (GoodA L X.K W das)) : PE X (.List es pos) (GoodE L X.K W (eLst das)) := by
  refine peImp (pe_lst ha) fun σ H Q ⟨f, ρ, h, S, E, p⟩ => ?_
  refine ⟨f, ρ, h, S, E, (PostG.bind (R := RVs L X.K) p).imp fun xs' H1 ⟨f1, xs, h1, e1, X1, S1, R1, p1⟩ => ?_⟩
  exact newL_ok S1 R1 p1
theorem atI_rel {K : PySem.W.Frag} {f : Nm} {H : Hp} {ts : List Val} {vs : List V} (r : RVs L K f H ts vs) {i : Int} {t : Val} (e : atI ts i = some t) : ∃ v, atI vs i = some v ∧ RV L K f H t v := by
  unfold atI at e ⊢
  rw [← r.length]
  cases q : ixN ts.length i with
  | none => rw [q] at e; cases e
  | some j =>
    rw [q] at e
    exact r.get e
/-- an item of a sequence, of a dict -/
def rIxB (K : PySem.W.Frag) : V → V → Hp → VK → Prop := fun x y H Q => rIx K x y H Q ∨ ∃ a v, x = .ref a ∧ DGet H a y (some v) ∧ Q v H
theorem ix_any (hu : X.A.units + 65 < cLine) : IxR X (rIxB X.K) := by
  intro value slice pins s σ H x y v u Q I rx ry h hs
  rcases h with h | ⟨a, w, rfl, g, q⟩
  · exact ix_seq value slice pins s σ H x y v u Q I rx ry h hs
  · obtain rfl : v = Value.ref a := rx
    exact tail_any (dict_typeIs I g) PySem.F.slot_dict_getitem.lookup (d_getItem (by omega) I g ry fun w' s3 I3 rw' => ⟨w, H, I3, rw', q⟩) hs
theorem idx_ok {K : PySem.W.Frag} {f : Nm} {h : Mem} {H : Hp} {Q : VK} {σ : L2.St} (S : Sim L K f h H) {x y : Val} {x' y' : V} (rx : RV L K f H x x') (ry : RV L K f H y y') (p : PostG L K (RV L K) W f σ H Q (Res.opt (idx h x y) h)) : rIxB K x' y' H Q := by
  cases e : idx h x y with
  | none => rw [e] at p; exact absurd p id
  | some v =>
    rw [e] at p
    unfold idx at e
    split at e
    · rename_i ts i
      obtain ⟨a, vs, rfl, sa, ra⟩ := rv_tup rx
      obtain rfl := rv_int ry
      obtain ⟨w, q1, q2⟩ := atI_rel ra e
      exact .inl (.inr (.inl ⟨a, vs, i, w, rfl, rfl, sa, q1, now S q2 p⟩))
    · rename_i z i
      obtain rfl := rv_str rx
      obtain rfl := rv_int ry
      split at e
      · rename_i hz
        obtain ⟨c, q, rfl⟩ := Option.map_eq_some_iff.mp e
        exact .inl (.inr (.inr ⟨z, i, c, rfl, rfl, hz, q, now S (mk_str _) p⟩))
      · cases e
    · rename_i n i
      obtain ⟨a, ea, rfl⟩ := rv_ref rx
      obtain rfl := rv_int ry
      split at e
      · rename_i xs q
        obtain ⟨vs, sv, rv⟩ := S.seq ea (.inl q)
        obtain ⟨w, q1, q2⟩ := atI_rel rv e
        exact .inl (.inl ⟨a, vs, i, w, rfl, rfl, sv, q1, now S q2 p⟩)
      · rename_i xs q
        obtain ⟨vs, sv, rv⟩ := S.seq ea (.inr q)
        obtain ⟨w, q1, q2⟩ := atI_rel rv e
        exact .inl (.inl ⟨a, vs, i, w, rfl, rfl, sv, q1, now S q2 p⟩)
      · rename_i kvs q
        obtain ⟨gs, hg, rg⟩ := S.dic ea q
        obtain ⟨w, q1, q2⟩ := (df_get rg _).1 _ e
        exact .inr ⟨a, w, rfl, by rw [← show valV gs (.inl i) = some w from q1]; exact DGet.k (k := .inl i) hg, now S q2 p⟩
      · rename_i kvs q
        obtain ⟨o, gs, hg, rg⟩ := S.frd ea q
        obtain ⟨w, q1, q2⟩ := (df_get rg _).1 _ e
        exact .inr ⟨a, w, rfl, .inl ⟨gs, .inl i, .inr ⟨o, hg⟩, rfl, q1.symm⟩, now S q2 p⟩
      · cases e
    · rename_i n z
      obtain ⟨a, ea, rfl⟩ := rv_ref rx
      obtain rfl := rv_str ry
      split at e
      · rename_i kvs q
        obtain ⟨gs, hg, rg⟩ := S.dic ea q
        obtain ⟨w, q1, q2⟩ := (df_get rg _).1 _ e
        exact .inr ⟨a, w, rfl, by rw [← show valV gs (.inr z) = some w from q1]; exact DGet.k (k := .inr z) hg, now S q2 p⟩
      · rename_i kvs q
        obtain ⟨o, gs, hg, rg⟩ := S.frd ea q
        obtain ⟨w, q1, q2⟩ := (df_get rg _).1 _ e
        exact .inr ⟨a, w, rfl, .inl ⟨gs, .inr z, .inr ⟨o, hg⟩, rfl, q1.symm⟩, now S q2 p⟩
      · cases e
    · cases e
theorem s_idx (hu : X.A.units + 65 < cLine) (ha : PE X a (GoodE L X.K W da)) (hb : PE X b (GoodE L X.K W db)) (hs : PlainIx b) : PE X (.Subscript a b pos) (GoodE L X.K W (eIdx da db)) := by
  refine peImp (pe_ix (ix_any hu) ha hb hs) fun σ H Q ⟨f, ρ, h, S, E, p⟩ => ?_
  refine ⟨f, ρ, h, S, E, (PostG.bind (R := RV L X.K) p).imp fun x' H1 ⟨f1, x, h1, e1, X1, S1, R1, p1⟩ => ?_⟩
  refine ⟨f1, ρ, h1, S1, E.mono S X1, (PostG.bind (R := RV L X.K) p1).imp fun y' H2 ⟨f2, y, h2, e2, X2, S2, R2, p2⟩ => ?_⟩
  exact idx_ok S2 (R1.mono S1 X2) R2 p2
end
end Mp
set_option Elab.async false
set_option linter.all false
set_option maxRecDepth 100000
set_option maxHeartbeats 1000000
namespace Mp
open PySem PySem.Spec PyProof.Rows L2
/-! ### statements: the machine -/
inductive Fl where
  | nx (ρ : Env) | rt (v : Val) | bk (ρ : Env) | ct (ρ : Env) | xc (ρ : Env) (c : Str) (fs : List (Str × Val))
abbrev MS := Env → Mem → Res Fl
def onE {α : Type} (r : Res α) (ρ : Env) (k : α → Mem → Res Fl) : Res Fl := match r with
  | .ok v h => k v h
  | .exc c fs h => .ok (.xc ρ c fs) h
  | .bad => .bad
@[simp] theorem onE_ok {α : Type} (v : α) (h : Mem) (ρ : Env) (k : α → Mem → Res Fl) : onE (.ok v h) ρ k = k v h := rfl
def thenF (r : Res Fl) (k : Env → Mem → Res Fl) : Res Fl := match r with
  | .ok (.nx ρ) h => k ρ h
  | r => r
@[simp] theorem thenF_nx (ρ : Env) (h : Mem) (k : Env → Mem → Res Fl) : thenF (.ok (.nx ρ) h) k = k ρ h := rfl
@[simp] theorem thenF_rt (v : Val) (h : Mem) (k : Env → Mem → Res Fl) : thenF (.ok (.rt v) h) k = .ok (.rt v) h := rfl
@[simp] theorem thenF_bk (ρ : Env) (h : Mem) (k : Env → Mem → Res Fl) : thenF (.ok (.bk ρ) h) k = .ok (.bk ρ) h := rfl
@[simp] theorem thenF_ct (ρ : Env) (h : Mem) (k : Env → Mem → Res Fl) : thenF (.ok (.ct ρ) h) k = .ok (.ct ρ) h := rfl
@[simp] theorem thenF_xc (ρ : Env) (c : Str) (fs : List (Str × Val)) (h : Mem) (k : Env → Mem → Res Fl) : thenF (.ok (.xc ρ c fs) h) k = .ok (.xc ρ c fs) h := rfl
@[simp] theorem thenF_bad (k : Env → Mem → Res Fl) : thenF .bad k = .bad := rfl
def sSkip : MS := fun ρ h => .ok (.nx ρ) h
def sBad : MS := fun _ _ => .bad
def sSeq (a b : MS) : MS := fun ρ h => thenF (a ρ h) b
def sExpr (e : ME) : MS := fun ρ h => onE (e ρ h) ρ fun _ h => .ok (.nx ρ) h
def sRet (e : ME) : MS := fun ρ h => onE (e ρ h) ρ fun v h => .ok (.rt v) h
def sRetN : MS := fun _ h => .ok (.rt .non) h
def sBrk : MS := fun ρ h => .ok (.bk ρ) h
def sCnt : MS := fun ρ h => .ok (.ct ρ) h
def sIf (t : MT) (a b : MS) : MS := fun ρ h => onE (t ρ h) ρ fun k h => if k = true then a ρ h else b ρ h
/-- targets -/
inductive Tg where
  | nm (i : Nat)
  | tp (ts : List Tg)
mutual
def put1 : Tg → Val → Env → Option Env
  | .nm i, v, ρ => some (ρ.set i (some v))
  | .tp ts, .tup vs, ρ => puts ts vs ρ
  | .tp _, _, _ => none
def puts : List Tg → List Val → Env → Option Env
  | [], [], ρ => some ρ
  | t :: ts, v :: vs, ρ => match put1 t v ρ with
    | some ρ' => puts ts vs ρ'
    | none => none
  | _, _, _ => none
end
def sAsg (t : Tg) (e : ME) : MS := fun ρ h => onE (e ρ h) ρ fun v h => match put1 t v ρ with
  | some ρ' => .ok (.nx ρ') h
  | none => .bad
def sSet (i : Nat) (e : ME) : MS := fun ρ h => onE (e ρ h) ρ fun v h => .ok (.nx (ρ.set i (some v))) h
/-- o[i] = v -/
def setIdx (o i v : Val) (h : Mem) : Res Val := match o, i with
  | .ref n, .int k => match h[n]? with
    | some (.lst xs) => match ixN xs.length k with
      | some j => .ok .non (h.set n (.lst (xs.set j v)))
      | none => .bad
    | some (.dic kvs) => if kvs.length < sizeLine then .ok .non (h.set n (.dic (dPut kvs (.inl k) v))) else .bad
    | _ => .bad
  | .ref n, .str z => match h[n]? with
    | some (.dic kvs) => if kvs.length < sizeLine then .ok .non (h.set n (.dic (dPut kvs (.inr z) v))) else .bad
    | _ => .bad
  | _, _ => .bad
/-- del o[i] -/
def delIdx (o i : Val) (h : Mem) : Res Val := match o with
  | .ref n => match h[n]? with
    | some (.dic kvs) => match keyOf i with
      | some k => if (dGet kvs k).isSome then .ok .non (h.set n (.dic (dDrop kvs k))) else .bad
      | none => .bad
    | _ => .bad
  | _ => .bad
def sDelIdx (o i : ME) : MS := fun ρ h => onE (o ρ h) ρ fun ov h => onE (i ρ h) ρ fun iv h => onE (delIdx ov iv h) ρ fun _ h => .ok (.nx ρ) h
/-- {} -/
def eDic0 : ME := fun _ h => .ok (.ref h.length) (h ++ [.dic []])
def sSetIdx (o i e : ME) : MS := fun ρ h => onE (e ρ h) ρ fun v h => onE (o ρ h) ρ fun ov h => onE (i ρ h) ρ fun iv h => onE (setIdx ov iv v h) ρ fun _ h => .ok (.nx ρ) h
/-- the in-place operators: ints, texts; a list grows -/
def augop (op : Operator) (x y : Val) (h : Mem) : Res Val := match op, x, y with
  | .Add, .int i, .int j => .ok (.int (i + j)) h
  | .Add, .str i, .str j => if i.length + j.length ≤ sizeLine then .ok (.str (i ++ j)) h else .bad
  | .Add, .ref n, .ref m => match h[n]?, h[m]? with
    | some (.lst xs), some (.lst ys) => if xs.length + ys.length ≤ sizeLine then .ok (.ref n) (h.set n (.lst (xs ++ ys))) else .bad
    | _, _ => .bad
  | .Sub, .int i, .int j => .ok (.int (i - j)) h
  | _, _, _ => .bad
def sAug (i : Nat) (op : Operator) (e : ME) : MS := fun ρ h => match ρ[i]? with
  | some (some x) => onE (e ρ h) ρ fun y h => onE (augop op x y h) ρ fun z h => .ok (.nx (ρ.set i (some z))) h
  | _ => .bad
def idxL (h : Mem) (x y : Val) : Option Val := match x, y with
  | .ref n, .int i => match h[n]? with
    | some (.lst xs) => atI xs i
    | some (.dic kvs) => dGet kvs (.inl i)
    | _ => none
  | .ref n, .str z => match h[n]? with
    | some (.dic kvs) => dGet kvs (.inr z)
    | _ => none
  | _, _ => none
def sAugIdx (o i : ME) (op : Operator) (e : ME) : MS := fun ρ h => onE (o ρ h) ρ fun ov h => onE (i ρ h) ρ fun iv h => onE (Res.opt (idxL h ov iv) h) ρ fun x h =>
  onE (e ρ h) ρ fun y h => onE (augop op x y h) ρ fun z h => onE (setIdx ov iv z h) ρ fun _ h => .ok (.nx ρ) h
/-- what is walked: at a turn, in a memory: nothing known | the end | an item; how many turns at most -/
structure Wk where
  fuel : Nat
  at_ : Nat → Mem → Option (Option Val)
abbrev MI := Env → Mem → Res Wk
def wkT (ts : List Val) : Wk := ⟨ts.length, fun i _ => some ts[i]?⟩
def wkL (n : Nat) (k : Nat) : Wk := ⟨k, fun i h => match h[n]? with
  | some (.lst xs) => some xs[i]?
  | some (.rol xs) => some xs[i]?
  | _ => none⟩
def wkR (lo : Int) (n : Nat) : Wk := ⟨n, fun i _ => some (if i < n then some (.int (lo + i)) else none)⟩
def wkS (z : Str) : Wk := ⟨z.cps.size, fun i _ => some (z.cps[i]?.map fun c => .str ⟨#[c]⟩)⟩
def wkE (w : Wk) : Wk := ⟨w.fuel, fun i h => (w.at_ i h).map fun o => o.map fun v => .tup [.int i, v]⟩
def wkZ (v w : Wk) : Wk := ⟨min v.fuel w.fuel, fun i h => match v.at_ i h, w.at_ i h with
  | some (some x), some (some y) => some (some (.tup [x, y]))
  | some none, some _ => some none
  | some _, some none => some none
  | _, _ => none⟩
/-- a value as it is walked -/
def wkV (h : Mem) : Val → Option Wk
  | .tup ts => some (wkT ts)
  | .str z => some (wkS z)
  | .ref n => match h[n]? with
    | some (.lst xs) => some (wkL n xs.length)
    | some (.rol xs) => some (wkL n xs.length)
    | _ => none
  | _ => none
def iVal (e : ME) : MI := fun ρ h => (e ρ h).bind fun v h => Res.opt (wkV h v) h
def small62 (i : Int) : Bool := decide (-(2 ^ 62) ≤ i) && decide (i < 2 ^ 62)
def iRng1 (e : ME) : MI := fun ρ h => (e ρ h).bind fun v h => match v with
  | .int j => if small62 j = true then .ok (wkR 0 j.toNat) h else .bad
  | _ => .bad
def iRng2 (a b : ME) : MI := fun ρ h => (a ρ h).bind fun v h => (b ρ h).bind fun u h => match v, u with
  | .int i, .int j => if (small62 i && small62 j) = true then .ok (wkR i (j - i).toNat) h else .bad
  | _, _ => .bad
def lstB (h : Mem) : Val → Option Wk
  | .ref n => match h[n]? with
    | some (.lst xs) => some (wkL n xs.length)
    | some (.rol xs) => some (wkL n xs.length)
    | _ => none
  | _ => none
def iEnum (e : ME) : MI := fun ρ h => (e ρ h).bind fun v h => Res.opt ((wkV h v).map wkE) h
def iZip (a b : ME) : MI := fun ρ h => (a ρ h).bind fun v h => (b ρ h).bind fun u h => match lstB h v, lstB h u with
  | some w, some z => .ok (wkZ w z) h
  | _, _ => .bad
/-- the turns of a for; i: the turn; fuel: turns at most -/
def forF (w : Wk) (t : Tg) (body els : MS) : Nat → Nat → Env → Mem → Res Fl
  | fuel, i, ρ, h => match w.at_ i h with
    | none => .bad
    | some none => els ρ h
    | some (some v) => match fuel with
      | 0 => .bad
      | fuel + 1 => match put1 t v ρ with
        | none => .bad
        | some ρ1 => match body ρ1 h with
          | .ok (.nx ρ2) h2 => forF w t body els fuel (i + 1) ρ2 h2
          | .ok (.ct ρ2) h2 => forF w t body els fuel (i + 1) ρ2 h2
          | .ok (.bk ρ2) h2 => .ok (.nx ρ2) h2
          | r => r
def sFor (t : Tg) (it : MI) (body els : MS) : MS := fun ρ h => onE (it ρ h) ρ fun w h => forF w t body els w.fuel 0 ρ h
def whileF (t : MT) (body els : MS) : Nat → Env → Mem → Res Fl
  | fuel, ρ, h => onE (t ρ h) ρ fun k h => if k = true then (match fuel with
    | 0 => .bad
    | fuel + 1 => match body ρ h with
      | .ok (.nx ρ2) h2 => whileF t body els fuel ρ2 h2
      | .ok (.ct ρ2) h2 => whileF t body els fuel ρ2 h2
      | .ok (.bk ρ2) h2 => .ok (.nx ρ2) h2
      | r => r) else els ρ h
def sWhile (fuel : Nat) (t : MT) (body els : MS) : MS := whileF t body els fuel
/-- comprehensions: the places vs are the block's own -/
def wipeE (ρ : Env) : List Nat → Env
  | [] => ρ
  | v :: vs => (wipeE ρ vs).set v none
def lcF (w : Wk) (t : Tg) (c : MT) (elt : ME) (ρ : Env) : Nat → Nat → List Val → Mem → Res (List Val)
  | fuel, i, acc, h => match w.at_ i h with
    | none => .bad
    | some none => .ok acc h
    | some (some v) => match fuel with
      | 0 => .bad
      | fuel + 1 => match put1 t v ρ with
        | none => .bad
        | some ρ1 => match c ρ1 h with
          | .ok true h2 => (match elt ρ1 h2 with
            | .ok y h3 => if acc.length < sizeLine then lcF w t c elt ρ fuel (i + 1) (acc ++ [y]) h3 else .bad
            | _ => .bad)
          | .ok false h2 => lcF w t c elt ρ fuel (i + 1) acc h2
          | _ => .bad
def eLc (vs : List Nat) (t : Tg) (it : MI) (c : MT) (elt : ME) : ME := fun ρ h => (it ρ h).bind fun w h => (lcF w t c elt (wipeE ρ vs) w.fuel 0 [] h).bind newL
def tYesM : MT := fun _ h => .ok true h
/-- the keys of a locked dict -/
def wkK (n k : Nat) : Wk := ⟨k, fun i h => match h[n]? with
  | some (.frd kvs) => some (kvs[i]?.map fun kv => keyV kv.1)
  | _ => none⟩
def iKey (e : ME) : MI := fun ρ h => (e ρ h).bind fun v h => match v with
  | .ref n => match h[n]? with
    | some (.frd kvs) => .ok (wkK n kvs.length) h
    | _ => .bad
  | _ => .bad
/-- the dict at place i, if there is one -/
def dicAt (ρ : Env) (h : Mem) (i : Nat) : Option (Nat × List (Key × Val)) := match ρ[i]? with
  | some (some (.ref n)) => (match h[n]? with
    | some (.dic kvs) => some (n, kvs)
    | _ => none)
  | _ => none
def unlk (n : Nat) (r : Res Val) : Res Val := match r with
  | .ok v h => (match h[n]? with
    | some (.frd kvs) => .ok v (h.set n (.dic kvs))
    | _ => .bad)
  | _ => .bad
/-- m, while the dict at place i is locked -/
def eLk (i : Nat) (m : ME) : ME := fun ρ h => match dicAt ρ h i with
  | some (n, kvs) => unlk n (m ρ (h.set n (.frd kvs)))
  | none => .bad
/-- [elt for t in x if c], x the name at place i: of a list, of a dict -/
def eLcN (i : Nat) (vs : List Nat) (t : Tg) (c : MT) (elt : ME) : ME := fun ρ h => match dicAt ρ h i with
  | some _ => eLk i (eLc vs t (iKey (eVar i)) c elt) ρ h
  | none => eLc vs t (iVal (eVar i)) c elt ρ h
/-- {k: v for t in it if c} -/
def dcF (w : Wk) (t : Tg) (c : MT) (ek ev : ME) (ρ : Env) : Nat → Nat → List (Key × Val) → Mem → Res (List (Key × Val))
  | fuel, i, acc, h => match w.at_ i h with
    | none => .bad
    | some none => .ok acc h
    | some (some v) => match fuel with
      | 0 => .bad
      | fuel + 1 => match put1 t v ρ with
        | none => .bad
        | some ρ1 => match c ρ1 h with
          | .ok true h2 => (match ek ρ1 h2 with
            | .ok y h3 => (match ev ρ1 h3 with
              | .ok z h4 => (match keyOf y with
                | some k => if acc.length < sizeLine then dcF w t c ek ev ρ fuel (i + 1) (dPut acc k z) h4 else .bad
                | none => .bad)
              | _ => .bad)
            | _ => .bad)
          | .ok false h2 => dcF w t c ek ev ρ fuel (i + 1) acc h2
          | _ => .bad
def newD (kvs : List (Key × Val)) (h : Mem) : Res Val := .ok (.ref h.length) (h ++ [.dic kvs])
def eDc (vs : List Nat) (t : Tg) (it : MI) (c : MT) (ek ev : ME) : ME := fun ρ h => (it ρ h).bind fun w h => (dcF w t c ek ev (wipeE ρ vs) w.fuel 0 [] h).bind newD
end Mp
set_option Elab.async false
set_option linter.all false
set_option maxRecDepth 100000
set_option maxHeartbeats 1000000
namespace Mp
open PySem PySem.Spec PyProof.Rows L2
section
variable {L : Lk} {K : PySem.W.Frag} {f f' : Nm} {h h' : Mem} {H H' : Hp} {W : WX} {σ σ' : L2.St} {ρ : Env}
def PostS (L : Lk) (K : PySem.W.Frag) (W : WX) (D : Ends) (f : Nm) (H : Hp) (r : Res Fl) : Prop := match r with
  | .ok (.nx ρ') h' => ∀ f' H' σ', Ext f f' H H' → Sim L K f' h' H' → EnvR L K f' H' ρ' σ' → D.nx σ' H'
  | .ok (.rt v) h' => ∀ f' H' v', Ext f f' H H' → Sim L K f' h' H' → RV L K f' H' v v' → D.rt v' H'
  | .ok (.bk ρ') h' => ∀ f' H' σ', Ext f f' H H' → Sim L K f' h' H' → EnvR L K f' H' ρ' σ' → D.bk σ' H'
  | .ok (.ct ρ') h' => ∀ f' H' σ', Ext f f' H H' → Sim L K f' h' H' → EnvR L K f' H' ρ' σ' → D.ct σ' H'
  | .ok (.xc ρ' c fs) h' => ∀ f' H' σ' cls d, Ext f f' H H' → Sim L K f' h' H' → EnvR L K f' H' ρ' σ' → RX L K f' H' c fs cls d → W cls d σ' H'
  | .exc _ _ _ => False
  | .bad => False
def GoodS (L : Lk) (K : PySem.W.Frag) (W : WX) (m : MS) : TS := fun D σ H => ∃ f ρ h, Sim L K f h H ∧ EnvR L K f H ρ σ ∧ PostS L K W D f H (m ρ h)
theorem PostS.ext {f1 : Nm} {H1 : Hp} {D : Ends} {r : Res Fl} (p : PostS L K W D f H r) (x : Ext f f1 H H1) : PostS L K W D f1 H1 r := by
  cases r with
  | ok v h' =>
    cases v with
    | nx ρ => exact fun f' H' σ' y S E => p f' H' σ' (x.trans y) S E
    | rt v => exact fun f' H' v' y S E => p f' H' v' (x.trans y) S E
    | bk ρ => exact fun f' H' σ' y S E => p f' H' σ' (x.trans y) S E
    | ct ρ => exact fun f' H' σ' y S E => p f' H' σ' (x.trans y) S E
    | xc ρ c fs => exact fun f' H' σ' cls d y S E rx => p f' H' σ' cls d (x.trans y) S E rx
  | exc c fs h' => exact p
  | bad => exact p
/-- an expression, then a statement's rest -/
theorem PostS.onE {α β : Type} {R : Nm → Hp → α → β → Prop} {D : Ends} {r : Res α} {k : α → Mem → Res Fl} (E : EnvR L K f H ρ σ) (S : Sim L K f h H) (p : PostS L K W D f H (onE r ρ k)) :
    PostG L K R W f σ H (fun b H1 => ∃ f1 a h1, r = .ok a h1 ∧ Ext f f1 H H1 ∧ Sim L K f1 h1 H1 ∧ EnvR L K f1 H1 ρ σ ∧ R f1 H1 a b ∧ PostS L K W D f1 H1 (k a h1)) r := by
  cases r with
  | ok a h1 => exact fun f1 H1 b x S1 rb => ⟨f1, a, h1, rfl, x, S1, E.mono S x, rb, PostS.ext (r := k a h1) p x⟩
  | exc c fs h' => exact fun f' H' cls d x S' rx => p f' H' σ cls d x S' (E.mono S x) rx
  | bad => exact p
end
section
variable {L : Lk} {X : Cx} {W : WX} {a b c : Expr} {da db dc : ME} {pos : Pos} {st : Stmt} {sts : List Stmt} {ms ns : MS}
theorem ss_nil : PSs X [] (GoodS L X.K W sSkip) := pssImp pss_nil fun D σ H ⟨f, ρ, h, S, E, p⟩ => p f H σ (Ext.refl _ _) S E
theorem good_seq {D : Ends} {σ : L2.St} {H : Hp} (G : GoodS L X.K W (sSeq ms ns) D σ H) : tSeq (GoodS L X.K W ms) (GoodS L X.K W ns) D σ H := by
  obtain ⟨f, ρ, h, S, E, p⟩ := G
  refine ⟨f, ρ, h, S, E, ?_⟩
  unfold sSeq at p
  cases e : ms ρ h with
  | ok v h1 =>
    rw [e] at p
    cases v with
    | nx ρ1 => exact fun f1 H1 σ1 x S1 E1 => ⟨f1, ρ1, h1, S1, E1, PostS.ext (r := ns ρ1 h1) p x⟩
    | rt v => exact p
    | bk ρ1 => exact p
    | ct ρ1 => exact p
    | xc ρ1 c fs => exact p
  | exc c fs h1 => rw [e] at p; exact p
  | bad => rw [e] at p; exact p
theorem ss_cons (h1 : PS X st (GoodS L X.K W ms)) (h2 : PSs X sts (GoodS L X.K W ns)) : PSs X (st :: sts) (GoodS L X.K W (sSeq ms ns)) := pssImp (pss_cons h1 h2) fun D σ H G => good_seq G
theorem ss_one (h1 : PS X st (GoodS L X.K W ms)) : PSs X [st] (GoodS L X.K W ms) := pss_one h1
theorem st_pass : PS X (.Pass pos) (GoodS L X.K W sSkip) := psImp ps_pass fun D σ H ⟨f, ρ, h, S, E, p⟩ => p f H σ (Ext.refl _ _) S E
theorem st_brk : PS X (.Break pos) (GoodS L X.K W sBrk) := psImp ps_break fun D σ H ⟨f, ρ, h, S, E, p⟩ => p f H σ (Ext.refl _ _) S E
theorem st_cnt : PS X (.Continue pos) (GoodS L X.K W sCnt) := psImp ps_continue fun D σ H ⟨f, ρ, h, S, E, p⟩ => p f H σ (Ext.refl _ _) S E
theorem st_retN : PS X (.Return none pos) (GoodS L X.K W sRetN) := psImp ps_retN fun D σ H ⟨f, ρ, h, S, E, p⟩ => p f H .non (Ext.refl _ _) S mk_non
theorem st_ret (ha : PE X a (GoodE L X.K W da)) : PS X (.Return (some a) pos) (GoodS L X.K W (sRet da)) := by
  refine psImp (ps_ret ha) fun D σ H ⟨f, ρ, h, S, E, p⟩ => ?_
  exact ⟨f, ρ, h, S, E, (PostS.onE (R := RV L X.K) E S p).imp fun v' H1 ⟨f1, v, h1, e1, X1, S1, E1, R1, p1⟩ => p1 f1 H1 v' (Ext.refl _ _) S1 R1⟩
theorem st_expr (ha : PE X a (GoodE L X.K W da)) (hs : swapsWith a none pos.line X.env = pure false) : PS X (.Expr a pos) (GoodS L X.K W (sExpr da)) := by
  refine psImp (ps_expr ha hs) fun D σ H ⟨f, ρ, h, S, E, p⟩ => ?_
  exact ⟨f, ρ, h, S, E, (PostS.onE (R := RV L X.K) E S p).imp fun v' H1 ⟨f1, v, h1, e1, X1, S1, E1, R1, p1⟩ => p1 f1 H1 σ (Ext.refl _ _) S1 E1⟩
theorem st_if {t : MT} {xs ys : List Stmt} (hc : PT X c (GoodT L X.K W t)) (ha : PSs X xs (GoodS L X.K W ms)) (hb : PSs X ys (GoodS L X.K W ns)) : PS X (.If c xs ys pos) (GoodS L X.K W (sIf t ms ns)) := by
  refine psImp (ps_if hc ha hb) fun D σ H ⟨f, ρ, h, S, E, p⟩ => ?_
  refine ⟨f, ρ, h, S, E, (PostS.onE (R := RB) E S p).imp fun k' H1 ⟨f1, k, h1, e1, X1, S1, E1, R1, p1⟩ => ?_⟩
  obtain rfl : k = k' := R1
  cases k with
  | true => rw [if_pos rfl]; rw [if_pos rfl] at p1; exact ⟨f1, ρ, h1, S1, E1, p1⟩
  | false => rw [if_neg Bool.false_ne_true]; rw [if_neg Bool.false_ne_true] at p1; exact ⟨f1, ρ, h1, S1, E1, p1⟩
/-! ### stores -/
theorem good_asg {i : Nat} {D : Ends} {σ : L2.St} {H : Hp} (G : GoodS L X.K W (sSet i da) D σ H) : tAsg (GoodE L X.K W da) (gName i) D σ H := by
  obtain ⟨f, ρ, h, S, E, p⟩ := G
  exact ⟨f, ρ, h, S, E, (PostS.onE (R := RV L X.K) E S p).imp fun v' H1 ⟨f1, v, h1, e1, X1, S1, E1, R1, p1⟩ => p1 f1 H1 _ (Ext.refl _ _) S1 (E1.set R1 i)⟩
theorem st_set {i : Nat} {x : Str} {pos' : Pos} (hN : X.N.Nodup) (hi : X.N[i]? = some x) (hx : Loc X.env.scope x) (ha : PE X a (GoodE L X.K W da)) (hs : swapsWith a (some (.Name x pos')) pos.line X.env = pure false)
    (hf : X.fn x = true ∨ X.env.scope.names.lookup x = some .local) : PS X (.Assign [.Name x pos'] a pos) (GoodS L X.K W (sSet i da)) :=
  psImp (ps_set hN hi hx ha hs hf) fun D σ H G => good_asg G
/-- o[i] = v: a list, a dict -/
def rSetB : V → V → V → Hp → (Hp → Prop) → Prop := fun o i v H Q => rSetL o i v H Q ∨ ∃ a H', o = .ref a ∧ DPut H a i v H' ∧ Q H'
theorem set_any (hu : X.A.units + 65 < cLine) : PSet X rSetB := by
  intro pins s σ H o i v ov iv u Q I ro ri rv h
  rcases h with h | ⟨a, H', rfl, g, q⟩
  · exact set_list pins s σ H o i v ov iv u Q I ro ri rv h
  · obtain rfl : ov = Value.ref a := ro
    exact d_setItem (by omega) I g ri rv fun s4 I4 => ⟨H', I4, q⟩
theorem setIdx_ok {K : PySem.W.Frag} {f : Nm} {h : Mem} {H : Hp} {σ : L2.St} {o i v : Val} {o' i' v' : V} {Q : V → Hp → Prop} (S : Sim L K f h H) (ro : RV L K f H o o') (ri : RV L K f H i i') (rv : RV L K f H v v')
    (p : PostG L K (RV L K) W f σ H Q (setIdx o i v h)) : rSetB o' i' v' H (fun H2 => Q .non H2) := by
  unfold setIdx at p
  split at p
  · rename_i n k
    split at p
    · rename_i xs q
      split at p
      · rename_i j ej
        obtain ⟨a, ea, rfl⟩ := rv_ref ro
        obtain rfl := rv_int ri
        obtain ⟨vs, hv, rvs⟩ := S.lst ea q
        refine .inl ⟨a, vs, k, j, rfl, rfl, hv, by rw [← rvs.length]; exact ej, ?_⟩
        have x := ext_upd (o := .lst (vs.set j v')) ea hv
        refine p f _ .non x (S.wr ea hv ⟨_, upd_same, ?_⟩) mk_non
        exact (rvs.set rv j).mono S x
      · exact absurd p id
    · rename_i kvs q
      split at p
      · rename_i hz
        obtain ⟨a, ea, rfl⟩ := rv_ref ro
        obtain rfl := rv_int ri
        obtain ⟨gs, hg, rg⟩ := S.dic ea q
        have x := ext_upd (o := .dK (putK gs (.inl k) v')) ea hg
        refine .inr ⟨a, _, rfl, DPut.k (k := .inl k) hg (by rw [← df_len rg]; exact hz), p f _ .non x (S.wr ea hg ⟨_, upd_same, ?_⟩) mk_non⟩
        have z := df_put rv (.inl k) rg
        exact ⟨z.1, z.2.mono S x⟩
      · exact absurd p id
    · exact absurd p id
  · rename_i n z
    split at p
    · rename_i kvs q
      split at p
      · rename_i hz
        obtain ⟨a, ea, rfl⟩ := rv_ref ro
        obtain rfl := rv_str ri
        obtain ⟨gs, hg, rg⟩ := S.dic ea q
        have x := ext_upd (o := .dK (putK gs (.inr z) v')) ea hg
        refine .inr ⟨a, _, rfl, DPut.k (k := .inr z) hg (by rw [← df_len rg]; exact hz), p f _ .non x (S.wr ea hg ⟨_, upd_same, ?_⟩) mk_non⟩
        have z := df_put rv (.inr z) rg
        exact ⟨z.1, z.2.mono S x⟩
      · exact absurd p id
    · exact absurd p id
  · exact absurd p id
/-- del o[i] -/
theorem st_del {tpos : Pos} (ha : PE X a (GoodE L X.K W da)) (hb : PE X b (GoodE L X.K W db)) : PS X (.Delete [.Subscript a b tpos] pos) (GoodS L X.K W (sDelIdx da db)) := by
  refine psImp (ps_ddel ha hb) fun D σ H ⟨f, ρ, h, S, E, p⟩ => ?_
  refine ⟨f, ρ, h, S, E, (PostS.onE (R := RV L X.K) E S p).imp fun o' H1 ⟨f1, o, h1, e1, X1, S1, E1, R1, p1⟩ => ?_⟩
  refine ⟨f1, ρ, h1, S1, E1, (PostS.onE (R := RV L X.K) E1 S1 p1).imp fun i' H2 ⟨f2, i, h2, e2, X2, S2, E2, R2, p2⟩ => ?_⟩
  unfold delIdx at p2
  split at p2
  · rename_i n
    split at p2
    · rename_i kvs q
      split at p2
      · rename_i k ek
        split at p2
        · rename_i hs
          obtain ⟨ad, ea, rfl⟩ := rv_ref (R1.mono S1 X2)
          obtain ⟨gs, hg, rg⟩ := S2.dic ea q
          refine ⟨ad, gs, k, rfl, hg, key_rel R2 ek, by rw [show valV gs k = dGet gs k from rfl, ← df_some rg k]; exact hs, ?_⟩
          have x := ext_upd (o := .dK (dropK gs k)) ea hg
          have z := df_drop k rg
          exact p2 f2 _ σ x (S2.wr ea hg ⟨_, upd_same, z.1, z.2.mono S2 x⟩) (E2.mono S2 x)
        · exact absurd p2 id
      · exact absurd p2 id
    · exact absurd p2 id
  · exact absurd p2 id
/-- {} -/
theorem s_dic0 : PE X (.Dict [] [] pos) (GoodE L X.K W eDic0) := by
  refine peImp pe_dnewK fun σ H Q ⟨f, ρ, h, S, E, p⟩ => ?_
  intro q hq
  exact p (put f h.length q) _ _ (ext_put S hq) (S.alloc hq ⟨[], upd_same, rfl, RVs.nil⟩) (mk_ref put_same)
theorem g_idx {D : Ends} {σ : L2.St} {H : Hp} {oi ii ei : ME} (G : GoodS L X.K W (sSetIdx oi ii ei) D σ H) : tAsg (GoodE L X.K W ei) (gSub (GoodE L X.K W oi) (GoodE L X.K W ii) rSetB) D σ H := by
  obtain ⟨f, ρ, h, S, E, p⟩ := G
  refine ⟨f, ρ, h, S, E, (PostS.onE (R := RV L X.K) E S p).imp fun v' H1 ⟨f1, v, h1, e1, X1, S1, E1, R1, p1⟩ => ?_⟩
  refine ⟨f1, ρ, h1, S1, E1, (PostS.onE (R := RV L X.K) E1 S1 p1).imp fun o' H2 ⟨f2, o, h2, e2, X2, S2, E2, R2, p2⟩ => ?_⟩
  refine ⟨f2, ρ, h2, S2, E2, (PostS.onE (R := RV L X.K) E2 S2 p2).imp fun i' H3 ⟨f3, i, h3, e3, X3, S3, E3, R3, p3⟩ => ?_⟩
  refine setIdx_ok (W := W) (σ := σ) (Q := fun _ H4 => D.nx σ H4) S3 (R2.mono S2 X3) R3 ((R1.mono S1 X2).mono S2 X3) ?_
  exact (PostS.onE (R := RV L X.K) E3 S3 p3).imp fun v' H4 ⟨f4, v4, h4, e4, X4, S4, E4, R4, p4⟩ => p4 f4 H4 σ (Ext.refl _ _) S4 E4
/-! ### in-place operators -/
theorem augop_ok {f : Nm} {h : Mem} {H : Hp} {σ : L2.St} {op : Operator} {x y : Val} {x' y' : V} {Q : VK} (S : Sim L X.K f h H) (rx : RV L X.K f H x x') (ry : RV L X.K f H y y') (p : PostG L X.K (RV L X.K) W f σ H Q (augop op x y h)) :
    ∀ (pins : List (Addr × Obj)) (s : Shared) (σ1 : L2.St) (v u : Value), Inv X pins σ1 H s → RelV x' v → RelV y' u → wpAny (model X.prog X.w) X.A (inplaceOp op v u) (EP X pins σ1 Q) X.xe s := by
  intro pins s σ1 v u I r1 r2
  unfold augop at p
  split at p
  · rename_i i j
    obtain rfl := rv_int rx
    obtain rfl := rv_int ry
    exact iop_add pins s σ1 H _ _ v u Q I r1 r2 ⟨i, j, rfl, rfl, now S (mk_int _) p⟩
  · rename_i i j
    split at p
    · rename_i hz
      obtain rfl := rv_str rx
      obtain rfl := rv_str ry
      exact iop_add_str pins s σ1 H _ _ v u Q I r1 r2 ⟨i, j, rfl, rfl, hz, now S (mk_str _) p⟩
    · exact absurd p id
  · split at p
    · rename_i n m _ _ xs ys e1 e2
      split at p
      · rename_i hz
        obtain ⟨a, ea, rfl⟩ := rv_ref rx
        obtain ⟨b, eb, rfl⟩ := rv_ref ry
        obtain ⟨vs, hv, rvs⟩ := S.lst ea e1
        obtain ⟨ws, hw, rws⟩ := S.lst eb e2
        refine iop_ext pins s σ1 H _ _ v u Q I r1 r2 ⟨a, b, vs, ws, rfl, rfl, hv, hw, by rw [← rvs.length, ← rws.length]; exact hz, ?_⟩
        have x := ext_upd (o := .lst (vs ++ ws)) ea hv
        exact p f _ _ x (S.wr ea hv ⟨_, upd_same, (rvs.append rws).mono S x⟩) (mk_ref ea)
      · exact absurd p id
    · exact absurd p id
  · rename_i i j
    obtain rfl := rv_int rx
    obtain rfl := rv_int ry
    exact iop_sub pins s σ1 H _ _ v u Q I r1 r2 ⟨i, j, rfl, rfl, now S (mk_int _) p⟩
  · exact absurd p id
def ipV (L : Lk) (K : PySem.W.Frag) (op : Operator) : TIp := fun x' y' H Q => ∃ f h x y, Sim L K f h H ∧ RV L K f H x x' ∧ RV L K f H y y' ∧ PostG L K (RV L K) WF f [] H Q (augop op x y h)
theorem augop_nox (op : Operator) (x y : Val) (h : Mem) : NoX (augop op x y h) := by
  unfold augop
  split <;> (try split) <;> (try split) <;> exact True.intro
theorem ipV_ok (op : Operator) : PIp X op (ipV L X.K op) := fun pins s σ H x' y' v u Q I r1 r2 ⟨f, h, x, y, S, rx, ry, p⟩ => augop_ok S rx ry p pins s σ v u I r1 r2
theorem st_aug {i : Nat} {x : Str} (hxs : i ∉ L.xs) {op : Operator} {pos' : Pos} (hN : X.N.Nodup) (hi : X.N[i]? = some x) (hx : Loc X.env.scope x) (ha : PE X a (GoodE L X.K W da)) (hf : X.fn x = true ∨ X.env.scope.names.lookup x = some .local) :
    PS X (.AugAssign (.Name x pos') op a pos) (GoodS L X.K W (sAug i op da)) := by
  refine psImp (ps_aug hN hi hx ha (ipV_ok (L := L) op) hf) fun D σ H ⟨f, ρ, h, S, E, p⟩ => ?_
  unfold sAug at p
  split at p
  · rename_i xv ex
    obtain ⟨x', q, rx0⟩ := E.at_ i xv ex
    have rx := rx0.out hxs
    refine ⟨x', q, f, ρ, h, S, E, (PostS.onE (R := RV L X.K) E S p).imp fun y' H1 ⟨f1, y, h1, e1, X1, S1, E1, R1, p1⟩ => ?_⟩
    refine ⟨f1, h1, xv, y, S1, rx.mono S X1, R1, ((PostS.onE (R := RV L X.K) E1 S1 p1).nox (augop_nox _ _ _ _)).imp fun z' H2 ⟨f2, z, h2, e2, X2, S2, E2, R2, p2⟩ => ?_⟩
    exact p2 f2 H2 _ (Ext.refl _ _) S2 (E2.set R2 i)
  · exact absurd p id
end
end Mp
set_option Elab.async false
set_option linter.all false
set_option maxRecDepth 100000
set_option maxHeartbeats 1000000
/-! enumerate over a tuple, over a text -/
namespace L2
open PySem PySem.Spec PyProof.Rows
section
variable {prog : Program} {w : World} {A : Around} {E : Value → Shared → Prop} {s : Shared}
theorem call_enum_begins {v : Value} {o : Obj} {HH : Heap → Prop} {Q : Value → Shared → Prop} (B : Begins v o HH) (h1 : HH s.heap)
    (M : Meets (Builtin.«enumerate.__new__» ⟨[.type "enumerate", v], []⟩) (fun _ R s => HH s.heap ∧
      R (.ok (.ret (.ref (s.heap.push o).objs.size))) { s with heap := (s.heap.push o).push { cls := .type "enumerate", data := .fields #[.none, .bool false, .ref s.heap.objs.size, rawInt 0, .none, .none] } }))
    (h : ∀ h', IsEnum h' (s.heap.objs.size + 1) s.heap.objs.size 0 .none → h'.get? s.heap.objs.size = some o → h'.objs.size = s.heap.objs.size + 2 →
      (∀ b o, s.heap.get? b = some o → h'.get? b = some o) → Q (.ref (s.heap.objs.size + 1)) { s with heap := h' }) :
    wpAny (model prog w) A (call (.type "enumerate") [v]) Q E s := by
  refine callType_new F.called_enumerate (by decide) (F.typeCall_enumerate_1 _) (F.newCall_enumerate_1 _) (fun obj => F.args_object_init_2 obj _) F.entry_enumerate_new M ⟨h1, ?_⟩
  have hz : (s.heap.push o).objs.size = s.heap.objs.size + 1 := Heap.size_push ..
  show _ ∧ _
  rw [hz]
  have he : IsEnum ((s.heap.push o).push
      { cls := .type "enumerate", data := .fields #[.none, .bool false, .ref s.heap.objs.size, rawInt 0, .none, .none] }) (s.heap.objs.size + 1) s.heap.objs.size 0 .none := by
    have := Heap.get?_push_size (s.heap.push o)
      (o := { cls := .type "enumerate", data := .fields #[.none, .bool false, .ref s.heap.objs.size, rawInt 0, .none, .none] }) rfl
    rw [hz] at this; exact this
  refine ⟨⟨_, he, rfl⟩, h _ he (Heap.get?_push_of_some _ (Heap.get?_push_size _ B.free)) (by rw [Heap.size_push, hz]) fun b o x => Heap.get?_push_of_some _ (Heap.get?_push_of_some _ x)⟩
end
theorem meets_enum_newB {v : Value} {o : Obj} {HH : Heap → Prop} (B : Begins v o HH) :
    Meets (Builtin.«enumerate.__new__» ⟨[.type "enumerate", v], []⟩) (fun _ R s => HH s.heap ∧
      R (.ok (.ret (.ref (s.heap.push o).objs.size))) { s with heap := (s.heap.push o).push { cls := .type "enumerate", data := .fields #[.none, .bool false, .ref s.heap.objs.size, rawInt 0, .none, .none] } }) :=
  .of_wp fun prog w A R s h => by
    obtain ⟨hp, g, d, tk, os⟩ := s; obtain ⟨h1, h⟩ := h
    have hsub := sub_enumerate
    have q1 : ∀ {A' : Around} {E : Value → Shared → Prop} {Q : Value → Shared → Prop}, Q (.ref hp.objs.size) ⟨hp.push o, g, d, tk, os⟩ → wpAny (model prog w) A' (pyIter v) Q E ⟨hp, g, d, tk, os⟩ :=
      fun q => B.iter prog w _ _ ⟨hp, g, d, tk, os⟩ _ h1 q
    wp_walk using q1
    refine wpAny_stack_any fun st => wpAny_pure ?_
    split
    · rename_i c _ _ _ _ _
      cases (c == Value.type "enumerate")
      · wp_walk using q1
        exact ⟨_, rfl, h⟩
      · wp_walk using q1
        exact ⟨_, rfl, h⟩
    · wp_walk using q1
      exact ⟨_, rfl, h⟩
/-- the tuple at a, each item in a new pair -/
def Itet (K : PySem.W.Frag) (a : Addr) : It :=
  ⟨fun i H => ∃ (xs : List V) (x : V), SqT K H a xs ∧ xs[i]? = some x, fun i H v H' => ∃ T x, v = .ref T ∧ H T = none ∧ H' = upd H T (.tup [.int (i : Nat), x]) ∧ ∀ xs, SqT K H a xs → xs[i]? = some x, fun i H => ∃ xs : List V, SqT K H a xs ∧ xs.length ≤ i⟩
/-- the signs of z, each in a new pair -/
def Ites (z : Str) : It :=
  ⟨fun i _ => i < z.cps.size, fun i H v H' => ∃ T c, v = .ref T ∧ H T = none ∧ H' = upd H T (.tup [.int (i : Nat), .str ⟨#[c]⟩]) ∧ z.cps[i]? = some c, fun i _ => z.cps.size ≤ i⟩
theorem enum_item {X : Cx} {pins : List (Addr × Obj)} {σ : St} {H : Hp} {s : Shared} {E : Value → Shared → Prop} {elts : List Expr} {kk : Nat} {tpos : Pos} {e it : Addr} {fp : List Addr} {n i : Nat} {P : Nat → Value → Prop} {S : Nat → Heap → Prop} {old : Value} {R : V → Prop}
    (I : Inv X pins σ H s) (hf : ∀ b ∈ [e, it], FpOk X pins H b) (D : Draws X.prog X.w X.A.in1 it fp n P S) (he : IsEnum s.heap e it ((i : Nat) : Int) old) (hst : S i s.heap) (hlt : i < n) (hne : e ≠ it) (hef : e ∉ fp)
    (hP : ∀ u, P i u → ∃ x, R x ∧ RelV x u) :
    wpAny (model X.prog X.w) X.A (pyNext (.ref e)) (fun r s1 => ∃ u, r = some u ∧ wpAny (model X.prog X.w) X.A (letOwnedTupleGo (.Tuple elts kk tpos) (.ref e) u)
      (fun _ s2 => ∃ T x, Inv X pins σ (upd H T (.tup [.int (i : Nat), x])) s2 ∧ RelV (.ref T) u ∧ R x ∧ H T = none ∧ (∃ o, IsEnum s2.heap e it ((i + 1 : Nat) : Int) o) ∧ S (i + 1) s2.heap ∧ ∀ b ∈ [e, it], upd H T (.tup [.int (i : Nat), x]) b = none) E s1) E s := by
  have hel : e < s.heap.objs.size := Heap.lt_size he
  have hil : it < s.heap.objs.size := by obtain ⟨_, q⟩ := D.live _ _ hst; exact Heap.lt_size q
  refine wpAny_pyNext_enum_itemD D he hst hlt hne hef fun u h' tk hu ho hst' hT hsz hk => ?_
  obtain ⟨x, hx, ru⟩ := hP u hu
  refine ⟨_, rfl, wpAny_letOwnedTupleGo_enum (s := { s with heap := h', toks := tk + 1 }) ho fun h'' he' sb => ?_⟩
  have hT2 : h''.get? s.heap.objs.size = some { cls := .type "tuple", data := .seq #[.int i tk, u] } := (sb.2 _ (Nat.ne_of_gt hel)).trans hT
  have new : ObjOk X.prog X.w (upd H s.heap.objs.size (.tup [.int (i : Nat), x])) h'' s.heap.objs.size (.tup [.int (i : Nat), x]) :=
    ⟨by show 2 ≤ sizeLine; decide, [.int i tk, u], .cons ⟨_, rfl⟩ (.cons ru .nil), ⟨_, hT2, rfl, _, rfl⟩⟩
  have I1 : Inv X pins σ (upd H s.heap.objs.size (.tup [.int (i : Nat), x])) { s with heap := h'', toks := tk + 1 } :=
    I.turnedNew (ch := [e, it]) (fun b ob hb q => (sb.2 b (fun z => hb (by simp [z]))).trans (hk b ob (fun z => hb (by simp [z])) (fun z => hb (by simp [z])) q)) hf (Nat.le_refl _) new
  refine ⟨s.heap.objs.size, x, I1, rfl, hx, I.hok.fresh (Nat.le_refl _), ⟨u, ?_⟩, D.frame _ _ _ hst' fun b hb o q => (sb.2 b fun z => hef (z ▸ hb)).trans q, fun b hb => ?_⟩
  · have e1 : ((i + 1 : Nat) : Int) = (i : Int) + 1 := by omega
    rw [e1]; exact he'
  · have hb' : b < s.heap.objs.size := by
      have e' : b = e ∨ b = it := by simpa using hb
      rcases e' with z | z
      · rw [z]; exact hel
      · rw [z]; exact hil
    rw [upd_ne (Nat.ne_of_lt hb')]
    exact (hf b hb).1
theorem turn_enumT {P : Program} {w : World} {K : PySem.W.Frag} {elts : List Expr} {kk : Nat} {tpos : Pos} (a e it : Addr) :
    Turn P w K (.Tuple elts kk tpos) (Itet K a) [e, it] e (fun i h => (∃ old, IsEnum h e it ((i : Nat) : Int) old) ∧ h.IsTupleIter it a i ∧ e ≠ it) where
  mem := by simp
  obj := fun i h st b hb => by
    obtain ⟨⟨old, he⟩, ⟨o, ho, hc, hd⟩, _⟩ := st
    have e' : b = e ∨ b = it := by simpa using hb
    rcases e' with z | z
    · rw [z]; exact ⟨_, he, fun v q => nomatch q⟩
    · rw [z]; exact ⟨o, ho, fun v q => by rw [hd] at q; cases q⟩
  keep := fun i h h' st k => let ⟨⟨old, he⟩, hi, hne⟩ := st; ⟨⟨old, k e (by simp) _ he⟩, hi.at fun o q => k it (by simp) o q, hne⟩
  item := by
    intro X hP hw hK hc i pins s σ H E I hf st hg
    subst hP hw hK
    obtain ⟨⟨old, he⟩, hit, hne⟩ := st
    obtain ⟨xs, x, hq, hx⟩ := hg
    obtain ⟨its, rv, p, hz⟩ := I.tuple hq
    obtain ⟨u, hu, ru⟩ := rv.get hx
    have ht : s.heap.IsTuple a its.toArray := p
    have hai : a ≠ it := by
      rintro rfl
      obtain ⟨o1, q1, c1, _⟩ := ht
      obtain ⟨o2, q2, c2, _⟩ := hit
      rw [q1] at q2; cases q2
      rw [c1] at c2; exact absurd c2 (by decide)
    have hae : e ≠ a := by
      rintro rfl
      obtain ⟨o1, q1, c1, _⟩ := ht
      have q2 : _ = _ := he
      rw [q1] at q2; cases q2
      exact absurd (show Value.type "enumerate" = Value.type "tuple" from c1) (by decide)
    have D := Draws.tuple (prog := X.prog) (w := X.w) (A := X.A.in1) (show X.A.in1.handled = none from I.ok.hd hc) it a hai its.toArray
    have hi : i < its.toArray.size := by
      rw [List.size_toArray]
      exact (List.getElem?_eq_some_iff.mp hu).1
    refine wpAny_mono (enum_item (R := fun y => xs[i]? = some y) I hf D he ⟨hit, ht⟩ hi hne (by simp [hne, hae]) fun u' hu' => ?_) (fun r s1 ⟨u', e1, q⟩ => ⟨u', e1, wpAny_mono q (fun _ s2 ⟨T, y, I2, rT, hy, hT, hen, hS, hb⟩ => ?_) fun _ _ z => z⟩) fun _ _ z => z
    · have : its[i]? = some u' := by simpa using hu'
      rw [hu] at this
      cases this
      exact ⟨x, hx, ru⟩
    · exact ⟨.ref T, _, I2, rT, ⟨T, y, rfl, hT, rfl, fun ys hy' => by rw [I.tuple_inj hy' hq]; exact hy⟩, ⟨hen, hS.1, hne⟩, hb⟩
  done := by
    intro X hP hw hK hc i pins s σ H E I hf st hg
    subst hP hw hK
    obtain ⟨⟨old, he⟩, hit, hne⟩ := st
    obtain ⟨xs, hq, hx⟩ := hg
    obtain ⟨its, rv, p, hz⟩ := I.tuple hq
    have ht : s.heap.IsTuple a its.toArray := p
    obtain ⟨f0, f1, f2, f3, f4, f5⟩ := hf it (by simp)
    have hl := rv.length
    have hh : X.A.in1.handled = none := I.ok.hd hc
    have D : Draws X.prog X.w X.A.in1 it [it, a] i (fun _ _ => False) (fun j h => h.IsTupleIter it a j ∧ h.IsTuple a its.toArray ∧ j = i) :=
      { live := fun _ _ st => let ⟨o, ho, _⟩ := st.1; ⟨o, ho⟩
        frame := fun _ _ _ st hk => ⟨st.1.at fun o e => hk it (by simp) o e, st.2.1.at fun o e => hk a (by simp) o e, st.2.2⟩
        item := fun j s Q E hi st hQ => absurd st.2.2 (Nat.ne_of_lt hi)
        done := fun s Q E st hE => wpAny_nextOf_tuple_end hh st.1 st.2.1 (by simp; omega) hE }
    exact wpAny_pyNext_enum_endD D he ⟨hit, ht, rfl⟩ fun h' eb => ⟨rfl, I.turned (t' := s.toks) (fun b o hb q => eb b o hb q) f0 f1 f3 f4 f5⟩
  self := fun A i s Q E st h => let ⟨⟨_, he⟩, _⟩ := st; wpAny_pyIter_enum he h
theorem turn_enumS {P : Program} {w : World} {K : PySem.W.Frag} {elts : List Expr} {kk : Nat} {tpos : Pos} (z : Str) (t : Tok) (e it : Addr) :
    Turn P w K (.Tuple elts kk tpos) (Ites z) [e, it] e (fun i h => (∃ old, IsEnum h e it ((i : Nat) : Int) old) ∧ h.IsStrIter it (strIterType z) z t i ∧ e ≠ it) where
  mem := by simp
  obj := fun i h st b hb => by
    obtain ⟨⟨old, he⟩, ⟨o, ho, hc, hd⟩, _⟩ := st
    have e' : b = e ∨ b = it := by simpa using hb
    rcases e' with z | z
    · rw [z]; exact ⟨_, he, fun v q => nomatch q⟩
    · rw [z]; exact ⟨o, ho, fun v q => by rw [hd] at q; cases q⟩
  keep := fun i h h' st k => let ⟨⟨old, he⟩, ⟨o, ho, r⟩, hne⟩ := st; ⟨⟨old, k e (by simp) _ he⟩, ⟨o, k it (by simp) o ho, r⟩, hne⟩
  item := by
    intro X hP hw hK hc i pins s σ H E I hf st hg
    subst hP hw hK
    obtain ⟨⟨old, he⟩, hit, hne⟩ := st
    have D := Draws.text (prog := X.prog) (w := X.w) (A := X.A.in1) (show X.A.in1.handled = none from I.ok.hd hc) it z t
    refine wpAny_mono (enum_item (R := fun y => ∃ c, z.cps[i]? = some c ∧ y = .str ⟨#[c]⟩) I hf D he hit hg hne (by simp [hne]) fun u' ⟨c, u, hc', eu⟩ => ⟨.str ⟨#[c]⟩, ⟨c, hc', rfl⟩, u, eu⟩)
      (fun r s1 ⟨u', e1, q⟩ => ⟨u', e1, wpAny_mono q (fun _ s2 ⟨T, y, I2, rT, ⟨c, hc', ey⟩, hT, hen, hS, hb⟩ => ?_) fun _ _ z => z⟩) fun _ _ z => z
    subst ey
    exact ⟨.ref T, _, I2, rT, ⟨T, c, rfl, hT, rfl, hc'⟩, ⟨hen, hS, hne⟩, hb⟩
  done := by
    intro X hP hw hK hc i pins s σ H E I hf st hg
    subst hP hw hK
    obtain ⟨⟨old, he⟩, hit, hne⟩ := st
    obtain ⟨f0, f1, f2, f3, f4, f5⟩ := hf it (by simp)
    have hh : X.A.in1.handled = none := I.ok.hd hc
    have hx : z.cps[i]? = none := Array.getElem?_eq_none hg
    have D : Draws X.prog X.w X.A.in1 it [it] i (fun _ _ => False) (fun j h => h.IsStrIter it (strIterType z) z t j ∧ j = i) :=
      { live := fun _ _ st => let ⟨o, ho, _⟩ := st.1; ⟨o, ho⟩
        frame := fun _ _ _ st hk => let ⟨⟨o, ho, r⟩, q⟩ := st; ⟨⟨o, hk it (by simp) o ho, r⟩, q⟩
        item := fun j s Q E hi st hQ => absurd st.2 (Nat.ne_of_lt hi)
        done := fun s Q E st hE => by
          have s1 := st.1
          cases ha : z.cps.all (· < 128)
          · simp only [strIterType, ha, Bool.false_eq_true, if_false] at s1
            exact wpAny_nextOf_wide_end hh s1 hx hE
          · simp only [strIterType, ha, if_true] at s1
            exact wpAny_nextOf_ascii_end hh s1 hx hE }
    exact wpAny_pyNext_enum_endD D he ⟨hit, rfl⟩ fun h' eb => ⟨rfl, I.turned (t' := s.toks) (fun b o hb q => eb b o hb q) f0 f1 f3 f4 f5⟩
  self := fun A i s Q E st h => let ⟨⟨_, he⟩, _⟩ := st; wpAny_pyIter_enum he h
/-- enumerate of a list, a tuple, a text -/
def iEnumA (K : PySem.W.Frag) (ta : TA) : TI := fun σ H R => ta σ H fun vs H1 => (∃ a xs, vs = [.ref a] ∧ SqL K H1 a xs ∧ R (Ite K a) H1) ∨ (∃ a xs, vs = [.ref a] ∧ SqT K H1 a xs ∧ R (Itet K a) H1) ∨ ∃ z, vs = [.str z] ∧ R (Ites z) H1
theorem enum_made {X : Cx} {pins : List (Addr × Obj)} {σ : St} {H1 : Hp} {s1 : Shared} {h' : Heap} {tg : Expr} {R : It → Hp → Prop} {J : It} {tn : Nat → Heap → Prop} (I1 : Inv X pins σ H1 s1) (hk : ∀ b o, s1.heap.get? b = some o → h'.get? b = some o)
    (T : Turn X.prog X.w X.K tg J [s1.heap.objs.size + 1, s1.heap.objs.size] (s1.heap.objs.size + 1) tn) (t0 : tn 0 h') (q : R J H1) : PIE X pins σ tg R (.ref (s1.heap.objs.size + 1)) { s1 with heap := h' } := by
  refine ⟨s1.heap.objs.size + 1, [s1.heap.objs.size + 1, s1.heap.objs.size], _, _, H1, rfl, I1.kept (t' := s1.toks) hk, T, t0, fun b hb => ?_, q⟩
  have e' : b = s1.heap.objs.size + 1 ∨ b = s1.heap.objs.size := by simpa using hb
  have hle : s1.heap.objs.size ≤ b := by
    rcases e' with z | z
    · rw [z]; exact Nat.le_add_right _ _
    · rw [z]; exact Nat.le_refl _
  exact I1.fpOk hle (I1.hok.fresh hle)
theorem pi_enumA {X : Cx} {e : Expr} {ta : TA} {p pos tpos : Pos} {elts : List Expr} {kk : Nat} (hg : Gl X "enumerate") (hm : X.mg "enumerate" = none) (ha : PA X [e] ta) (hs : starEach [e] X.env = [(false, eval e X.env)] := by rfl) :
    PI X (.Tuple elts kk tpos) (.Call (.Name "enumerate" p) [e] [] pos) (iEnumA X.K ta) := by
  refine ⟨fun pins s σ H R I h => ?_⟩
  refine Call_ (ld_blt I hg hm boot_enumerate (PyProof.Rows.callWith_type1 (thn (ha.run pos pins s σ H _ I h) fun us s1 ⟨vs, H1, I1, r1, q1⟩ => ?_) hs rfl))
  rcases q1 with ⟨a, xs, ex, hq, q⟩ | ⟨a, xs, ex, hq, q⟩ | ⟨z, ex, q⟩
  · subst ex
    cases r1 with
    | cons r rr =>
      cases rr
      cases r
      obtain ⟨its, rv, p', hz⟩ := I1.list hq
      exact call_enumerate_list p'.isList fun h' he hit hsz hk => wpAny_pyIter_enum he (enum_made I1 hk (turn_enum a _ _) ⟨⟨.none, he⟩, hit, Nat.succ_ne_self _⟩ q)
  · subst ex
    cases r1 with
    | cons r rr =>
      cases rr
      cases r
      obtain ⟨its, rv, p', hz⟩ := I1.tuple hq
      have B := begins_tuple a its.toArray
      exact call_enum_begins B p' (meets_enum_newB B) fun h' he hit hsz hk => wpAny_pyIter_enum he (enum_made I1 hk (turn_enumT a _ _) ⟨⟨.none, he⟩, ⟨_, hit, rfl, rfl⟩, Nat.succ_ne_self _⟩ q)
  · subst ex
    cases r1 with
    | cons r rr =>
      cases rr
      obtain ⟨t, rfl⟩ := r
      have B := begins_text z t
      exact call_enum_begins B trivial (meets_enum_newB B) fun h' he hit hsz hk => wpAny_pyIter_enum he (enum_made I1 hk (turn_enumS z t _ _) ⟨⟨.none, he⟩, ⟨_, hit, rfl, rfl⟩, Nat.succ_ne_self _⟩ q)
end L2
set_option Elab.async false
set_option linter.all false
set_option maxRecDepth 100000
set_option maxHeartbeats 1000000
namespace Mp
open PySem PySem.Spec PyProof.Rows L2
section
variable {L : Lk} {X : Cx} {W : WX} {a b c : Expr} {da db dc : ME} {pos : Pos} {st : Stmt} {sts : List Stmt} {ms ns : MS}
theorem get_list : PGet X (rIxL X.K) := by
  intro pins s σ H o i ov iv Q I ro ri h
  obtain ⟨p, xs, k, z, rfl, rfl, hq, he, q⟩ := h
  cases ro
  obtain ⟨t, rfl⟩ := ri
  obtain ⟨its, r, pl, hz⟩ := I.list hq
  obtain ⟨j, h1, h2, h3, h4, h5⟩ := atI_get he
  obtain ⟨w, ew, rw'⟩ := r.get h2
  have hl := r.length
  have hn := line63
  have fin : EP X pins σ Q w s := ⟨z, H, I, rw', q⟩
  by_cases h0 : 0 ≤ k
  · have hj : k.toNat = j := by
      rw [seqIndex_of h0 h5] at h1
      exact Option.some.inj h1
    exact wpAny_getItem_list pl.isList h0 (by omega) (by rw [hj]; simpa using ew) fin
  · have hj : (k + (its.toArray.size : Int)).toNat = j := by
      rw [seqIndex_neg (by omega) h4] at h1
      rw [List.size_toArray, ← hl]
      exact Option.some.inj h1
    exact wpAny_getItem_list_neg pl.isList (by omega) (by rw [List.size_toArray] <;> omega) (by omega) (by rw [hj]; simpa using ew) fin
/-- o[k] of a list or a dict -/
def rIxD (K : PySem.W.Frag) : V → V → Hp → VK → Prop := fun o i H Q => rIxL K o i H Q ∨ ∃ a w, o = .ref a ∧ DGet H a i (some w) ∧ Q w H
theorem get_any (hu : X.A.units + 65 < cLine) : PGet X (rIxD X.K) := by
  intro pins s σ H o i ov iv Q I ro ri h
  rcases h with h | ⟨a, w, rfl, g, q⟩
  · exact get_list pins s σ H o i ov iv Q I ro ri h
  · obtain rfl : ov = Value.ref a := ro
    exact d_getItem (by omega) I g ri fun w' s3 I3 rw' => ⟨w, H, I3, rw', q⟩
theorem idxL_ok {K : PySem.W.Frag} {f : Nm} {h : Mem} {H : Hp} (S : Sim L K f h H) {x y v : Val} {x' y' : V} (rx : RV L K f H x x') (ry : RV L K f H y y') (e : idxL h x y = some v) :
    ∃ v', RV L K f H v v' ∧ ∀ Q : VK, Q v' H → rIxD K x' y' H Q := by
  unfold idxL at e
  split at e
  · rename_i n i
    obtain ⟨a, ea, rfl⟩ := rv_ref rx
    obtain rfl := rv_int ry
    split at e
    · rename_i xs q
      obtain ⟨vs, hv, rvs⟩ := S.lst ea q
      obtain ⟨v', q1, q2⟩ := atI_rel rvs e
      exact ⟨v', q2, fun Q hq => .inl ⟨a, vs, i, v', rfl, rfl, SqL.of hv, q1, hq⟩⟩
    · rename_i kvs q
      obtain ⟨gs, hg, rg⟩ := S.dic ea q
      obtain ⟨w, q1, q2⟩ := (df_get rg _).1 _ e
      exact ⟨w, q2, fun Q hq => .inr ⟨a, w, rfl, by rw [← show valV gs (.inl i) = some w from q1]; exact DGet.k (k := .inl i) hg, hq⟩⟩
    · cases e
  · rename_i n z
    obtain ⟨a, ea, rfl⟩ := rv_ref rx
    obtain rfl := rv_str ry
    split at e
    · rename_i kvs q
      obtain ⟨gs, hg, rg⟩ := S.dic ea q
      obtain ⟨w, q1, q2⟩ := (df_get rg _).1 _ e
      exact ⟨w, q2, fun Q hq => .inr ⟨a, w, rfl, by rw [← show valV gs (.inr z) = some w from q1]; exact DGet.k (k := .inr z) hg, hq⟩⟩
    · cases e
  · cases e
theorem st_augIdx {op : Operator} {tpos : Pos} (hu : X.A.units + 65 < cLine) (ha : PE X a (GoodE L X.K W da)) (hb : PE X b (GoodE L X.K W db)) (hc : PE X c (GoodE L X.K W dc))
    (hs : ∀ ov iv new, augStore b ov iv new = (do holding [new, ov, iv] (setItem ov iv new); release [new, ov, iv] []; pure .next)) :
    PS X (.AugAssign (.Subscript a b tpos) op c pos) (GoodS L X.K W (sAugIdx da db op dc)) := by
  refine psImp (ps_augS ha hb (get_any hu) hc (ipV_ok (L := L) op) (set_any hu) hs) fun D σ H ⟨f, ρ, h, S, E, p⟩ => ?_
  refine ⟨f, ρ, h, S, E, (PostS.onE (R := RV L X.K) E S p).imp fun o' H1 ⟨f1, o, h1, e1, X1, S1, E1, R1, p1⟩ => ?_⟩
  refine ⟨f1, ρ, h1, S1, E1, (PostS.onE (R := RV L X.K) E1 S1 p1).imp fun i' H2 ⟨f2, i, h2, e2, X2, S2, E2, R2, p2⟩ => ?_⟩
  have R1' := R1.mono S1 X2
  cases ei : idxL h2 o i with
  | none => rw [ei] at p2; exact absurd p2 id
  | some v =>
    rw [ei, Res.opt_some, onE_ok] at p2
    obtain ⟨v', q2, qq⟩ := idxL_ok S2 R1' R2 ei
    refine qq _ ?_
    refine ⟨f2, ρ, h2, S2, E2, (PostS.onE (R := RV L X.K) E2 S2 p2).imp fun y' H3 ⟨f3, y, h3, e3, X3, S3, E3, R3, p3⟩ => ?_⟩
    refine ⟨f3, h3, v, y, S3, q2.mono S2 X3, R3, ((PostS.onE (R := RV L X.K) E3 S3 p3).nox (augop_nox _ _ _ _)).imp fun z' H4 ⟨f4, z, h4, e4, X4, S4, E4, R4, p4⟩ => ?_⟩
    refine setIdx_ok (W := W) (σ := σ) (Q := fun _ H5 => D.nx σ H5) S4 ((R1'.mono S2 X3).mono S3 X4) ((R2.mono S2 X3).mono S3 X4) R4 ?_
    exact (PostS.onE (R := RV L X.K) E4 S4 p4).imp fun v' H5 ⟨f5, v5, h5, e5, X5, S5, E5, R5, p5⟩ => p5 f5 H5 σ (Ext.refl _ _) S5 E5
theorem st_setIdx {tpos : Pos} (hu : X.A.units + 65 < cLine) (ha : PE X a (GoodE L X.K W da)) (hb : PE X b (GoodE L X.K W db)) (hc : PE X c (GoodE L X.K W dc)) (hs : swapsWithSole [.Subscript a b tpos] c pos.line X.env = pure false) (hw : swappedStores [.Subscript a b tpos] c X.env = pure none)
    (hg : ∀ v, assign (.Subscript a b tpos) X.env v = (do
      let ov ← holding [v] (eval a X.env)
      let iv ← holding [v, ov] (eval b X.env)
      standAt tpos
      holding [v, ov, iv] (setItem ov iv v)
      release [v, ov, iv] [])) : PS X (.Assign [.Subscript a b tpos] c pos) (GoodS L X.K W (sSetIdx da db dc)) :=
  psImp (ps_asg hc (pg_sub ha hb (set_any hu) hg) hs hw rfl) fun D σ H G => g_idx G
/-! ### targets -/
mutual
def tgS : Tg → List Nat
  | .nm i => [i]
  | .tp ts => tgSs ts
def tgSs : List Tg → List Nat
  | [] => []
  | t :: ts => tgS t ++ tgSs ts
end
/-- the slots ss alone may have changed -/
def Outs (ss : List Nat) (σ σ' : L2.St) : Prop := σ'.length = σ.length ∧ ∀ j, j ∉ ss → σ'[j]? = σ[j]?
theorem Outs.refl (σ : L2.St) : Outs [] σ σ := ⟨rfl, fun _ _ => rfl⟩
theorem Outs.trans {ss ts : List Nat} {σ σ1 σ2 : L2.St} (a : Outs ss σ σ1) (b : Outs ts σ1 σ2) : Outs (ss ++ ts) σ σ2 :=
  ⟨b.1.trans a.1, fun j hj => by
    rw [List.mem_append] at hj
    exact (b.2 j fun z => hj (.inr z)).trans (a.2 j fun z => hj (.inl z))⟩
theorem Outs.set (σ : L2.St) (i : Nat) (v : Option V) : Outs [i] σ (σ.set i v) := ⟨by simp, fun j hj => by
  rw [List.getElem?_set_ne]
  intro z
  exact hj (by simp [z])⟩
/-- what a target asks: t is the target's form -/
def GoodG (L : Lk) (K : PySem.W.Frag) (t : Tg) : TG := fun v' σ H Q => ∃ f ρ h v ρ', Sim L K f h H ∧ EnvR L K f H ρ σ ∧ RV L K f H v v' ∧ put1 t v ρ = some ρ' ∧ ∀ σ', EnvR L K f H ρ' σ' → Outs (tgS t) σ σ' → Q σ' H
def GoodGs (L : Lk) (K : PySem.W.Frag) (ts : List Tg) : TGs := fun vs' σ H Q => ∃ f ρ h vs ρ', Sim L K f h H ∧ EnvR L K f H ρ σ ∧ RVs L K f H vs vs' ∧ puts ts vs ρ = some ρ' ∧ ∀ σ', EnvR L K f H ρ' σ' → Outs (tgSs ts) σ σ' → Q σ' H
theorem pgImp {X : Cx} {e : Expr} {t t' : TG} (h : PG X e t) (i : ∀ v σ H Q, t' v σ H Q → t v σ H Q) : PG X e t' := ⟨fun pins s σ H v u Q I r q => h.run pins s σ H v u Q I r (i v σ H Q q)⟩
theorem pgsImp {X : Cx} {e : List Expr} {t t' : TGs} (h : PGs X e t) (i : ∀ v σ H Q, t' v σ H Q → t v σ H Q) : PGs X e t' := ⟨fun pins s σ H v u Q I r q => h.run pins s σ H v u Q I r (i v σ H Q q)⟩
theorem tg_name {i : Nat} {x : Str} (hN : X.N.Nodup) (hi : X.N[i]? = some x) (hx : Loc X.env.scope x) (hf : X.fn x = true ∨ X.env.scope.names.lookup x = some .local) : PG X (.Name x pos) (GoodG L X.K (.nm i)) := by
  refine pgImp (pg_name hN hi hx hf) fun v' σ H Q ⟨f, ρ, h, v, ρ', S, E, r, e, k⟩ => ?_
  unfold put1 at e
  cases e
  exact k _ (E.set r i) (by unfold tgS; exact Outs.set _ _ _)
theorem tg_nil : PGs X [] (GoodGs L X.K []) := by
  refine pgsImp pgs_nil fun vs' σ H Q ⟨f, ρ, h, vs, ρ', S, E, r, e, k⟩ => ?_
  cases vs with
  | nil => unfold RVs at r; unfold puts at e; cases e; exact ⟨r, k _ E (by unfold tgSs; exact Outs.refl _)⟩
  | cons v vs => unfold puts at e; cases e
theorem tg_cons {e : Expr} {es : List Expr} {t : Tg} {ts : List Tg} (h1 : PG X e (GoodG L X.K t)) (h2 : PGs X es (GoodGs L X.K ts)) (hs : (assignEach (e :: es) X.env).map (·.2) = assign e X.env :: (assignEach es X.env).map (·.2)) :
    PGs X (e :: es) (GoodGs L X.K (t :: ts)) := by
  refine pgsImp (pgs_cons h1 h2 hs) fun vs' σ H Q ⟨f, ρ, h, vs, ρ', S, E, r, e, k⟩ => ?_
  cases vs with
  | nil => unfold puts at e; cases e
  | cons v vs =>
    unfold puts at e
    cases q : put1 t v ρ with
    | none => rw [q] at e; cases e
    | some ρ1 =>
      rw [q] at e
      unfold RVs at r
      obtain ⟨v', r', rfl, r1, r2⟩ := r
      exact ⟨v', r', rfl, f, ρ, h, v, ρ1, S, E, r1, q, fun σ1 E1 o1 => ⟨f, ρ1, h, vs, ρ', S, E1, r2, e, fun σ2 E2 o2 => k σ2 E2 (by unfold tgSs; exact o1.trans o2)⟩⟩
theorem puts_len : ∀ {ts : List Tg} {vs : List Val} {ρ ρ' : Env}, puts ts vs ρ = some ρ' → vs.length = ts.length
  | [], [], _, _, _ => rfl
  | [], _ :: _, _, _, e => by unfold puts at e; cases e
  | _ :: _, [], _, _, e => by unfold puts at e; cases e
  | t :: ts, v :: vs, ρ, ρ', e => by
    unfold puts at e
    cases q : put1 t v ρ with
    | none => rw [q] at e; cases e
    | some ρ1 => rw [q] at e; rw [List.length_cons, List.length_cons, puts_len e]
theorem tg_tup {es : List Expr} {k : Nat} {ts : List Tg} (hc : X.calm = true) (h : PGs X es (GoodGs L X.K ts)) (hn : (assignEach es X.env).length = ts.length) (hst : (assignEach es X.env).findIdx? (·.1) = none) :
    PG X (.Tuple es k pos) (GoodG L X.K (.tp ts)) := by
  refine pgImp (pg_tup hc h hn hst) fun v' σ H Q ⟨f, ρ, h, v, ρ', S, E, r, e, kk⟩ => ?_
  cases v with
  | tup vs =>
    unfold put1 at e
    obtain ⟨a, vs', rfl, sa, ra⟩ := rv_tup r
    exact ⟨a, vs', rfl, sa, by rw [← ra.length, puts_len e], f, ρ, h, vs, ρ', S, E, ra, e, fun σ' E' o' => kk σ' E' (by unfold tgS; exact o')⟩
  | _ => unfold put1 at e; cases e
theorem st_asg {tg : Expr} {t : Tg} (ha : PE X a (GoodE L X.K W da)) (hg : PG X tg (GoodG L X.K t)) (hs : swapsWithSole [tg] a pos.line X.env = pure false) (hw : swappedStores [tg] a X.env = pure none) (h1 : (assignEach [tg] X.env).map (·.2) = [assign tg X.env]) :
    PS X (.Assign [tg] a pos) (GoodS L X.K W (sAsg t da)) := by
  refine psImp (ps_asg ha hg hs hw h1) fun D σ H ⟨f, ρ, h, S, E, p⟩ => ?_
  refine ⟨f, ρ, h, S, E, (PostS.onE (R := RV L X.K) E S p).imp fun v' H1 ⟨f1, v, h1, e1, X1, S1, E1, R1, p1⟩ => ?_⟩
  cases q : put1 t v ρ with
  | none => rw [q] at p1; exact absurd p1 id
  | some ρ1 =>
    rw [q] at p1
    exact ⟨f1, ρ, h1, v, ρ1, S1, E1, R1, q, fun σ1 E2 _ => p1 f1 H1 σ1 (Ext.refl _ _) S1 E2⟩
/-! ### what is walked -/
/-- J is walked as w tells, from (f, H) on -/
def WkR (L : Lk) (K : PySem.W.Frag) (f : Nm) (H : Hp) (w : Wk) (J : It) : Prop := ∀ f' h' H' i, Ext f f' H H' → Sim L K f' h' H' → match w.at_ i h' with
  | none => True
  | some none => J.stop i H'
  | some (some v) => J.go i H' ∧ ∀ x H'', J.yld i H' x H'' → Ext f' f' H' H'' ∧ Sim L K f' h' H'' ∧ RV L K f' H'' v x
def GoodI (L : Lk) (K : PySem.W.Frag) (W : WX) (m : MI) : TI := fun σ H R => ∃ f ρ h, Sim L K f h H ∧ EnvR L K f H ρ σ ∧ PostG L K (WkR L K) W f σ H R (m ρ h)
theorem piImp {X : Cx} {tg e : Expr} {t t' : TI} (h : PI X tg e t) (i : ∀ σ H R, t' σ H R → t σ H R) : PI X tg e t' := ⟨fun pins s σ H R I q => h.run pins s σ H R I (i σ H R q)⟩
theorem wkR_tup {K : PySem.W.Frag} {f : Nm} {h : Mem} {H : Hp} (S : Sim L K f h H) {a : Addr} {ts : List Val} {vs : List V} (sa : SqT K H a vs) (ra : RVs L K f H ts vs) : WkR L K f H (wkT ts) (Itt K a) := by
  intro f' h' H' i x S'
  have sa' := S.tupK x sa
  have ra' := ra.mono S x
  show match some ts[i]? with | none => True | some none => (Itt K a).stop i H' | some (some v) => _
  cases e : ts[i]? with
  | none => exact ⟨vs, sa', by rw [← ra'.length]; exact List.getElem?_eq_none_iff.mp e⟩
  | some v =>
    obtain ⟨v', q1, q2⟩ := ra'.get e
    refine ⟨⟨vs, v', sa', q1⟩, fun y H'' ⟨eH, ey⟩ => ?_⟩
    subst eH
    have := ey vs sa'
    rw [q1] at this
    cases this
    exact ⟨Ext.refl _ _, S', q2⟩
/-- what the list at n gives at a turn -/
theorem lst_at {K : PySem.W.Frag} {f' : Nm} {h' : Mem} {H' : Hp} (S' : Sim L K f' h' H') {n : Nat} {a : Addr} (ea : f' n = some a) {i k : Nat} : match (wkL n k).at_ i h' with
    | none => True
    | some none => ∃ vs, SqL K H' a vs ∧ vs.length ≤ i
    | some (some v) => ∃ vs v', SqL K H' a vs ∧ vs[i]? = some v' ∧ RV L K f' H' v v' := by
  unfold wkL
  dsimp only
  have fin : ∀ {xs : List Val}, (h'[n]? = some (.lst xs) ∨ h'[n]? = some (.rol xs)) → match some xs[i]? with
    | none => True
    | some none => ∃ vs, SqL K H' a vs ∧ vs.length ≤ i
    | some (some v) => ∃ vs v', SqL K H' a vs ∧ vs[i]? = some v' ∧ RV L K f' H' v v' := fun {xs} q => by
    obtain ⟨vs, sv, rv⟩ := S'.seq ea q
    cases e : xs[i]? with
    | none => exact ⟨vs, sv, by rw [← rv.length]; exact List.getElem?_eq_none_iff.mp e⟩
    | some v =>
      obtain ⟨v', q1, q2⟩ := rv.get e
      exact ⟨vs, v', sv, q1, q2⟩
  cases e : h'[n]? with
  | none => trivial
  | some o =>
    cases o with
    | lst xs => exact fin (.inl e)
    | ins c fs => trivial
    | rol xs => exact fin (.inr e)
    | dic kvs => trivial
    | frd kvs => trivial
theorem wkR_lst {K : PySem.W.Frag} {f : Nm} {H : Hp} {n k : Nat} {a : Addr} (ea : f n = some a) : WkR L K f H (wkL n k) (Itl K a) := by
  intro f' h' H' i x S'
  have z := lst_at S' (x.le n a ea) (i := i) (k := k)
  cases e : (wkL n k).at_ i h' with
  | none => trivial
  | some o =>
    rw [e] at z
    cases o with
    | none => exact z
    | some v =>
      obtain ⟨vs, v', sv, q1, q2⟩ := z
      refine ⟨⟨vs, v', sv, q1⟩, fun y H'' ⟨eH, ey⟩ => ?_⟩
      subst eH
      have := ey vs sv
      rw [q1] at this
      cases this
      exact ⟨Ext.refl _ _, S', q2⟩
theorem wkR_enum {K : PySem.W.Frag} {f : Nm} {H : Hp} {n k : Nat} {a : Addr} (ea : f n = some a) : WkR L K f H (wkE (wkL n k)) (Ite K a) := by
  intro f' h' H' i x S'
  have z := lst_at S' (x.le n a ea) (i := i) (k := k)
  unfold wkE
  dsimp only
  cases e : (wkL n k).at_ i h' with
  | none => trivial
  | some o =>
    rw [e] at z
    cases o with
    | none => exact z
    | some v =>
      obtain ⟨vs, v', sv, q1, q2⟩ := z
      refine ⟨⟨vs, v', sv, q1⟩, fun y H'' ⟨T, w, ey, hT, eH, ev⟩ => ?_⟩
      subst ey
      subst eH
      have := ev vs sv
      rw [q1] at this
      cases this
      exact ⟨ext_new hT, S'.out hT, mk_tup (SqT.of upd_same) ((RVs.cons (mk_int _) (RVs.cons q2 RVs.nil)).mono S' (ext_new hT))⟩
theorem wkR_zip {K : PySem.W.Frag} {f : Nm} {H : Hp} {n m k l : Nat} {a b : Addr} (ea : f n = some a) (eb : f m = some b) : WkR L K f H (wkZ (wkL n k) (wkL m l)) (Itz K a b) := by
  intro f' h' H' i x S'
  have z := lst_at S' (x.le n a ea) (i := i) (k := k)
  have y := lst_at S' (x.le m b eb) (i := i) (k := l)
  unfold wkZ
  dsimp only
  cases e : (wkL n k).at_ i h' with
  | none => trivial
  | some o =>
    rw [e] at z
    cases e2 : (wkL m l).at_ i h' with
    | none => cases o <;> trivial
    | some o2 =>
      rw [e2] at y
      cases o with
      | none =>
        obtain ⟨vs, sv, lv⟩ := z
        cases o2 with
        | none =>
          obtain ⟨ws, sw, lw⟩ := y
          exact ⟨vs, ws, sv, sw, .inl lv⟩
        | some w =>
          obtain ⟨ws, w', sw, _⟩ := y
          exact ⟨vs, ws, sv, sw, .inl lv⟩
      | some v =>
        obtain ⟨vs, v', sv, q1, q2⟩ := z
        cases o2 with
        | none =>
          obtain ⟨ws, sw, lw⟩ := y
          exact ⟨vs, ws, sv, sw, .inr lw⟩
        | some w =>
          obtain ⟨ws, w', sw, q3, q4⟩ := y
          refine ⟨⟨vs, ws, v', w', sv, sw, q1, q3⟩, fun u H'' ⟨T, p1, p2, eu, hT, eH, ev1, ev2⟩ => ?_⟩
          subst eu
          subst eH
          have t1 := ev1 vs sv
          have t2 := ev2 ws sw
          rw [q1] at t1
          rw [q3] at t2
          cases t1
          cases t2
          exact ⟨ext_new hT, S'.out hT, mk_tup (SqT.of upd_same) ((RVs.cons q2 (RVs.cons q4 RVs.nil)).mono S' (ext_new hT))⟩
theorem wkR_rng {K : PySem.W.Frag} {f : Nm} {H : Hp} {lo : Int} {n : Nat} : WkR L K f H (wkR lo n) (Itr lo n) := by
  intro f' h' H' i x S'
  unfold wkR
  dsimp only
  by_cases hi : i < n
  · rw [if_pos hi]
    refine ⟨hi, fun y H'' ⟨eH, ey⟩ => ?_⟩
    subst eH
    subst ey
    exact ⟨Ext.refl _ _, S', mk_int _⟩
  · rw [if_neg hi]
    exact Nat.le_of_not_lt hi
theorem wkR_str {K : PySem.W.Frag} {f : Nm} {H : Hp} {z : Str} : WkR L K f H (wkS z) (Its z) := by
  intro f' h' H' i x S'
  unfold wkS
  dsimp only
  cases e : z.cps[i]? with
  | none => exact Array.getElem?_eq_none_iff.mp e
  | some c =>
    refine ⟨(Array.getElem?_eq_some_iff.mp e).1, fun y H'' ⟨eH, c', ec, ey⟩ => ?_⟩
    subst eH
    subst ey
    rw [e] at ec
    cases ec
    exact ⟨Ext.refl _ _, S', mk_str _⟩
theorem wkR_enumT {K : PySem.W.Frag} {f : Nm} {h : Mem} {H : Hp} (S : Sim L K f h H) {a : Addr} {ts : List Val} {vs : List V} (sa : SqT K H a vs) (ra : RVs L K f H ts vs) : WkR L K f H (wkE (wkT ts)) (Itet K a) := by
  intro f' h' H' i x S'
  have sa' := S.tupK x sa
  have ra' := ra.mono S x
  unfold wkE wkT
  dsimp only [Option.map_some]
  cases e : ts[i]? with
  | none => exact ⟨vs, sa', by rw [← ra'.length]; exact List.getElem?_eq_none_iff.mp e⟩
  | some v =>
    obtain ⟨v', q1, q2⟩ := ra'.get e
    refine ⟨⟨vs, v', sa', q1⟩, fun y H'' ⟨T, w, ey, hT, eH, ev⟩ => ?_⟩
    subst ey
    subst eH
    have := ev vs sa'
    rw [q1] at this
    cases this
    exact ⟨ext_new hT, S'.out hT, mk_tup (SqT.of upd_same) ((RVs.cons (mk_int _) (RVs.cons q2 RVs.nil)).mono S' (ext_new hT))⟩
theorem wkR_enumS {K : PySem.W.Frag} {f : Nm} {H : Hp} {z : Str} : WkR L K f H (wkE (wkS z)) (Ites z) := by
  intro f' h' H' i x S'
  unfold wkE wkS
  dsimp only [Option.map_some]
  cases e : z.cps[i]? with
  | none => exact Array.getElem?_eq_none_iff.mp e
  | some c =>
    refine ⟨(Array.getElem?_eq_some_iff.mp e).1, fun y H'' ⟨T, c', ey, hT, eH, ec⟩ => ?_⟩
    subst ey
    subst eH
    rw [e] at ec
    cases ec
    exact ⟨ext_new hT, S'.out hT, mk_tup (SqT.of upd_same) ((RVs.cons (mk_int _) (RVs.cons (mk_str _) RVs.nil)).mono S' (ext_new hT))⟩
theorem i_val {tg : Expr} (ha : PE X a (GoodE L X.K W da)) : PI X tg a (GoodI L X.K W (iVal da)) := by
  refine ⟨fun pins s σ H R I ⟨f, ρ, h, S, E, p⟩ => ?_⟩
  unfold iVal at p
  have q := PostG.bind (R := RV L X.K) p
  cases e : da ρ h with
  | bad => rw [e] at q; exact absurd q id
  | exc c fs h1 =>
    refine (pi_list ha).run pins s σ H R I ⟨f, ρ, h, S, E, ?_⟩
    rw [e] at q ⊢
    exact q
  | ok v h1 =>
    rw [e] at q
    have bad : wkV h1 v = none → False := fun z => by
      rw [e, Res.bind_ok, z] at p
      exact p
    cases v with
    | tup ts =>
      refine (pi_tup ha).run pins s σ H R I ⟨f, ρ, h, S, E, ?_⟩
      rw [e]
      intro f1 H1 v' X1 S1 R1
      rw [e] at p
      obtain ⟨b, vs, rfl, sb, rb⟩ := rv_tup R1
      exact ⟨b, rfl, ⟨vs, sb⟩, p f1 H1 _ X1 S1 (wkR_tup S1 sb rb)⟩
    | str z =>
      refine (pi_str ha).run pins s σ H R I ⟨f, ρ, h, S, E, ?_⟩
      rw [e]
      intro f1 H1 v' X1 S1 R1
      rw [e] at p
      exact ⟨z, rv_str R1, p f1 H1 _ X1 S1 wkR_str⟩
    | ref n =>
      refine (pi_list ha).run pins s σ H R I ⟨f, ρ, h, S, E, ?_⟩
      rw [e]
      intro f1 H1 v' X1 S1 R1
      rw [e, Res.bind_ok] at p
      obtain ⟨b, eb, rfl⟩ := rv_ref R1
      simp only [wkV] at p
      cases eo : h1[n]? with
      | none => rw [eo] at p; exact absurd p id
      | some o =>
        rw [eo] at p
        cases o with
        | lst xs =>
          obtain ⟨vs, sv, rv⟩ := S1.seq eb (.inl eo)
          exact ⟨b, rfl, ⟨vs, sv⟩, p f1 H1 _ X1 S1 (wkR_lst eb)⟩
        | rol xs =>
          obtain ⟨vs, sv, rv⟩ := S1.seq eb (.inr eo)
          exact ⟨b, rfl, ⟨vs, sv⟩, p f1 H1 _ X1 S1 (wkR_lst eb)⟩
        | ins c fs => exact absurd p id
        | dic kvs => exact absurd p id
        | frd kvs => exact absurd p id
    | non => exact absurd (bad rfl) id
    | bl _ => exact absurd (bad rfl) id
    | int _ => exact absurd (bad rfl) id
    | fn _ => exact absurd (bad rfl) id
    | exn _ _ => exact absurd (bad rfl) id
end
end Mp
set_option Elab.async false
set_option linter.all false
set_option maxRecDepth 100000
set_option maxHeartbeats 1000000
namespace Mp
open PySem PySem.Spec PyProof.Rows L2
section
variable {L : Lk} {X : Cx} {W : WX} {a b c : Expr} {da db dc : ME} {pos : Pos} {st : Stmt} {sts : List Stmt} {ms ns : MS}
theorem i_rng1 {tg : Expr} {p pos : Pos} (hg : Gl X "range") (hm : X.mg "range" = none) (ha : PE X a (GoodE L X.K W da)) (hs : starEach [a] X.env = [(false, eval a X.env)]) : PI X tg (.Call (.Name "range" p) [a] [] pos) (GoodI L X.K W (Mp.iRng1 da)) := by
  refine piImp (pi_range1 hg hm (pa_cons ha pa_nil hs) hs) fun σ H R ⟨f, ρ, h, S, E, p⟩ => ?_
  refine ⟨f, ρ, h, S, E, (PostG.bind (R := RV L X.K) p).imp fun x' H1 ⟨f1, x, h1, e1, X1, S1, R1, p1⟩ => ?_⟩
  cases x with
  | int j =>
    obtain rfl := rv_int R1
    dsimp only at p1
    split at p1
    · rename_i hz
      unfold small62 at hz
      rw [Bool.and_eq_true] at hz
      exact ⟨j, rfl, of_decide_eq_true hz.1, of_decide_eq_true hz.2, p1 f1 H1 _ (Ext.refl _ _) S1 wkR_rng⟩
    · exact absurd p1 id
  | _ => exact absurd p1 id
theorem i_rng2 {tg : Expr} {p pos : Pos} (hg : Gl X "range") (hm : X.mg "range" = none) (ha : PE X a (GoodE L X.K W da)) (hb : PE X b (GoodE L X.K W db)) (hs : starEach [a, b] X.env = [(false, eval a X.env), (false, eval b X.env)]) (hs2 : starEach [b] X.env = [(false, eval b X.env)]) :
    PI X tg (.Call (.Name "range" p) [a, b] [] pos) (GoodI L X.K W (Mp.iRng2 da db)) := by
  refine piImp (pi_range2 hg hm (pa_cons ha (pa_cons hb pa_nil hs2) (by rw [hs, hs2])) hs hs2) fun σ H R ⟨f, ρ, h, S, E, p⟩ => ?_
  refine ⟨f, ρ, h, S, E, (PostG.bind (R := RV L X.K) p).imp fun x' H1 ⟨f1, x, h1, e1, X1, S1, R1, p1⟩ => ?_⟩
  refine ⟨f1, ρ, h1, S1, E.mono S X1, (PostG.bind (R := RV L X.K) p1).imp fun y' H2 ⟨f2, y, h2, e2, X2, S2, R2, p2⟩ => ?_⟩
  have R1' := R1.mono S1 X2
  cases x with
  | int i =>
    cases y with
    | int j =>
      obtain rfl := rv_int R1'
      obtain rfl := rv_int R2
      dsimp only at p2
      split at p2
      · rename_i hz
        unfold small62 at hz
        simp only [Bool.and_eq_true, decide_eq_true_eq] at hz
        exact ⟨i, j, rfl, ⟨hz.1.1, hz.1.2, hz.2.1, hz.2.2⟩, p2 f2 H2 _ (Ext.refl _ _) S2 wkR_rng⟩
      · exact absurd p2 id
    | _ => exact absurd p2 id
  | _ => exact absurd p2 id
theorem lstB_ref {h : Mem} {v : Val} {w : Wk} (e : lstB h v = some w) : ∃ n xs, v = .ref n ∧ (h[n]? = some (.lst xs) ∨ h[n]? = some (.rol xs)) ∧ w = wkL n xs.length := by
  cases v with
  | ref n =>
    simp only [lstB] at e
    cases q : h[n]? with
    | none => rw [q] at e; cases e
    | some o =>
      rw [q] at e
      cases o with
      | lst xs => cases e; exact ⟨n, xs, rfl, .inl q, rfl⟩
      | rol xs => cases e; exact ⟨n, xs, rfl, .inr q, rfl⟩
      | ins c fs => cases e
      | dic kvs => cases e
      | frd kvs => cases e
  | _ => simp [lstB] at e
theorem i_enum {elts : List Expr} {kk : Nat} {tpos p pos : Pos} (hg : Gl X "enumerate") (hm : X.mg "enumerate" = none) (ha : PE X a (GoodE L X.K W da)) (hs : starEach [a] X.env = [(false, eval a X.env)]) :
    PI X (.Tuple elts kk tpos) (.Call (.Name "enumerate" p) [a] [] pos) (GoodI L X.K W (Mp.iEnum da)) := by
  refine piImp (pi_enumA hg hm (pa_cons ha pa_nil hs) hs) fun σ H R ⟨f, ρ, h, S, E, p⟩ => ?_
  refine ⟨f, ρ, h, S, E, (PostG.bind (R := RV L X.K) p).imp fun x' H1 ⟨f1, x, h1, e1, X1, S1, R1, p1⟩ => ?_⟩
  cases x with
  | tup ts =>
    obtain ⟨b, vs, rfl, sb, rb⟩ := rv_tup R1
    exact .inr (.inl ⟨b, vs, rfl, sb, p1 f1 H1 _ (Ext.refl _ _) S1 (wkR_enumT S1 sb rb)⟩)
  | str z =>
    obtain rfl := rv_str R1
    exact .inr (.inr ⟨z, rfl, p1 f1 H1 _ (Ext.refl _ _) S1 wkR_enumS⟩)
  | ref n =>
    obtain ⟨b, eb, rfl⟩ := rv_ref R1
    simp only [wkV] at p1
    cases eo : h1[n]? with
    | none => rw [eo] at p1; exact absurd p1 id
    | some o =>
      rw [eo] at p1
      cases o with
      | lst xs =>
        obtain ⟨vs, sv, rv⟩ := S1.seq eb (.inl eo)
        exact .inl ⟨b, vs, rfl, sv, p1 f1 H1 _ (Ext.refl _ _) S1 (wkR_enum eb)⟩
      | rol xs =>
        obtain ⟨vs, sv, rv⟩ := S1.seq eb (.inr eo)
        exact .inl ⟨b, vs, rfl, sv, p1 f1 H1 _ (Ext.refl _ _) S1 (wkR_enum eb)⟩
      | ins c fs => exact absurd p1 id
      | dic kvs => exact absurd p1 id
      | frd kvs => exact absurd p1 id
  | _ => exact absurd p1 id
theorem i_zip {elts : List Expr} {kk : Nat} {tpos p pos : Pos} (hg : Gl X "zip") (hm : X.mg "zip" = none) (ha : PE X a (GoodE L X.K W da)) (hb : PE X b (GoodE L X.K W db)) (hs : starEach [a, b] X.env = (false, eval a X.env) :: starEach [b] X.env) (hs2 : starEach [b] X.env = [(false, eval b X.env)])
    (hpl : (backTo pos (starEach [b] X.env)).any (·.1) = false) : PI X (.Tuple elts kk tpos) (.Call (.Name "zip" p) [a, b] [] pos) (GoodI L X.K W (Mp.iZip da db)) := by
  refine piImp (pi_zip hg hm (pa_cons ha (pa_cons hb pa_nil hs2) hs) hs hpl) fun σ H R ⟨f, ρ, h, S, E, p⟩ => ?_
  refine ⟨f, ρ, h, S, E, (PostG.bind (R := RV L X.K) p).imp fun x' H1 ⟨f1, x, h1, e1, X1, S1, R1, p1⟩ => ?_⟩
  refine ⟨f1, ρ, h1, S1, E.mono S X1, (PostG.bind (R := RV L X.K) p1).imp fun y' H2 ⟨f2, y, h2, e2, X2, S2, R2, p2⟩ => ?_⟩
  have R1' := R1.mono S1 X2
  cases ew : lstB h2 x with
  | none => rw [ew] at p2; exact absurd p2 id
  | some w =>
    cases ez : lstB h2 y with
    | none => rw [ew, ez] at p2; exact absurd p2 id
    | some z =>
      rw [ew, ez] at p2
      obtain ⟨n, xs, rfl, q, rfl⟩ := lstB_ref ew
      obtain ⟨m, ys, rfl, q', rfl⟩ := lstB_ref ez
      obtain ⟨u, eu, rfl⟩ := rv_ref R1'
      obtain ⟨t, et, rfl⟩ := rv_ref R2
      obtain ⟨vs, sv, rv⟩ := S2.seq eu q
      obtain ⟨ws, sw, rw'⟩ := S2.seq et q'
      exact ⟨u, t, vs, ws, rfl, sv, sw, p2 f2 H2 _ (Ext.refl _ _) S2 (wkR_zip eu et)⟩
/-! ### for -/
theorem forF_eq (w : Wk) (t : Tg) (body els : MS) (fuel i : Nat) (ρ : Env) (h : Mem) : forF w t body els fuel i ρ h = (match w.at_ i h with
    | none => .bad
    | some none => els ρ h
    | some (some v) => match fuel with
      | 0 => .bad
      | fuel + 1 => match put1 t v ρ with
        | none => .bad
        | some ρ1 => match body ρ1 h with
          | .ok (.nx ρ2) h2 => forF w t body els fuel (i + 1) ρ2 h2
          | .ok (.ct ρ2) h2 => forF w t body els fuel (i + 1) ρ2 h2
          | .ok (.bk ρ2) h2 => .ok (.nx ρ2) h2
          | r => r) := by
  rw [forF.eq_def]
  all_goals rfl
theorem st_for {tg iter : Expr} {t : Tg} {mi : MI} {mb me : MS} {body els : List Stmt} (hp : PassesOwn (model X.prog X.w) X.A X.env X.xe) (hc : X.calm = true) (hi : PI X tg iter (GoodI L X.K W mi)) (hg : PG X tg (GoodG L X.K t)) (hb : PSs X body (GoodS L X.K W mb))
    (ho : PSs X els (GoodS L X.K W me)) (hs : ∀ x, foldedSetIterable iter X.env x = pure x) : PS X (.For tg iter body els pos) (GoodS L X.K W (sFor t mi mb me)) := by
  refine psImp (ps_forE hp hc hi hg hb ho hs) fun D σ H ⟨f, ρ, h, S, E, p⟩ => ?_
  refine ⟨f, ρ, h, S, E, (PostS.onE (R := WkR L X.K) E S p).imp fun J H1 ⟨f1, w, h1, e1, X1, S1, E1, R1, p1⟩ => ?_⟩
  refine ⟨fun i m σ' H' => ∃ f' ρ' h', Ext f1 f' H1 H' ∧ Sim L X.K f' h' H' ∧ EnvR L X.K f' H' ρ' σ' ∧ PostS L X.K W D f' H' (forF w t mb me m i ρ' h'), ⟨w.fuel, f1, ρ, h1, Ext.refl _ _, S1, E1, p1⟩, ?_⟩
  rintro i m σ' H' ⟨f', ρ', h', X', S', E', p'⟩
  have z := R1 f' h' H' i X' S'
  rw [forF_eq] at p'
  cases ea : w.at_ i h' with
  | none => rw [ea] at p'; exact absurd p' id
  | some o =>
    rw [ea] at p' z
    cases o with
    | none => exact .inl ⟨z, f', ρ', h', S', E', p'⟩
    | some v =>
      obtain ⟨zg, zy⟩ := z
      cases m with
      | zero => exact absurd p' id
      | succ m =>
        dsimp only at p'
        cases eρ : put1 t v ρ' with
        | none => rw [eρ] at p'; exact absurd p' id
        | some ρ1 =>
          rw [eρ] at p'
          dsimp only at p'
          refine .inr ⟨zg, fun σ2 H2 => ∃ f2 ρ2 h2, Ext f1 f2 H1 H2 ∧ Sim L X.K f2 h2 H2 ∧ EnvR L X.K f2 H2 ρ2 σ2 ∧ PostS L X.K W D f2 H2 (forF w t mb me m (i + 1) ρ2 h2), fun σ2 H2 q => ⟨m, Nat.lt_succ_self _, q⟩, fun x H'' y => ?_⟩
          obtain ⟨X2, S2, R2⟩ := zy x H'' y
          refine ⟨f', ρ', h', v, ρ1, S2, E'.mono S' X2, R2, eρ, fun σ1 E1' _ => ⟨f', ρ1, h', S2, E1', ?_⟩⟩
          have p2 := PostS.ext p' X2
          cases eb : mb ρ1 h' with
          | ok v h2 =>
            rw [eb] at p2
            cases v with
            | nx ρ2 => exact fun f3 H3 σ3 X3 S3 E3 => ⟨f3, ρ2, h2, X'.trans (X2.trans X3), S3, E3, PostS.ext p2 X3⟩
            | ct ρ2 => exact fun f3 H3 σ3 X3 S3 E3 => ⟨f3, ρ2, h2, X'.trans (X2.trans X3), S3, E3, PostS.ext p2 X3⟩
            | bk ρ2 => exact p2
            | rt v => exact p2
            | xc ρ2 c fs => exact p2
          | exc c fs h2 => rw [eb] at p2; exact p2
          | bad => rw [eb] at p2; exact p2
theorem whileF_eq (t : MT) (body els : MS) (fuel : Nat) (ρ : Env) (h : Mem) : whileF t body els fuel ρ h = onE (t ρ h) ρ fun k h => if k = true then (match fuel with
    | 0 => .bad
    | fuel + 1 => match body ρ h with
      | .ok (.nx ρ2) h2 => whileF t body els fuel ρ2 h2
      | .ok (.ct ρ2) h2 => whileF t body els fuel ρ2 h2
      | .ok (.bk ρ2) h2 => .ok (.nx ρ2) h2
      | r => r) else els ρ h := by
  rw [whileF.eq_def]
  all_goals rfl
theorem st_while {t : Expr} {mt : MT} {mb me : MS} {body els : List Stmt} {fuel : Nat} (hp : PassesOwn (model X.prog X.w) X.A X.env X.xe) (hc : PT X t (GoodT L X.K W mt)) (hb : PSs X body (GoodS L X.K W mb)) (ho : PSs X els (GoodS L X.K W me)) :
    PS X (.While t body els pos) (GoodS L X.K W (sWhile fuel mt mb me)) := by
  refine psImp (ps_whileE hp hc hb ho) fun D σ H ⟨f, ρ, h, S, E, p⟩ => ?_
  refine ⟨fun m σ' H' => ∃ f' ρ' h', Ext f f' H H' ∧ Sim L X.K f' h' H' ∧ EnvR L X.K f' H' ρ' σ' ∧ PostS L X.K W D f' H' (whileF mt mb me m ρ' h'), ⟨fuel, f, ρ, h, Ext.refl _ _, S, E, p⟩, ?_⟩
  rintro m σ' H' ⟨f', ρ', h', X', S', E', p'⟩
  rw [whileF_eq] at p'
  refine ⟨f', ρ', h', S', E', (PostS.onE (R := RB) E' S' p').imp fun k' H1 ⟨f1, k, h1, e1, X1, S1, E1, R1, p1⟩ => ?_⟩
  obtain rfl : k = k' := R1
  cases k with
  | false => rw [if_neg Bool.false_ne_true]; rw [if_neg Bool.false_ne_true] at p1; exact ⟨f1, ρ', h1, S1, E1, p1⟩
  | true =>
    rw [if_pos rfl]; rw [if_pos rfl] at p1
    cases m with
    | zero => exact absurd p1 id
    | succ m =>
      dsimp only at p1
      refine ⟨fun σ2 H2 => ∃ f2 ρ2 h2, Ext f f2 H H2 ∧ Sim L X.K f2 h2 H2 ∧ EnvR L X.K f2 H2 ρ2 σ2 ∧ PostS L X.K W D f2 H2 (whileF mt mb me m ρ2 h2), fun σ2 H2 q => ⟨m, Nat.lt_succ_self _, q⟩, f1, ρ', h1, S1, E1, ?_⟩
      cases eb : mb ρ' h1 with
      | ok v h2 =>
        rw [eb] at p1
        cases v with
        | nx ρ2 => exact fun f3 H3 σ3 X3 S3 E3 => ⟨f3, ρ2, h2, X'.trans (X1.trans X3), S3, E3, PostS.ext p1 X3⟩
        | ct ρ2 => exact fun f3 H3 σ3 X3 S3 E3 => ⟨f3, ρ2, h2, X'.trans (X1.trans X3), S3, E3, PostS.ext p1 X3⟩
        | bk ρ2 => exact p1
        | rt v => exact p1
        | xc ρ2 c fs => exact p1
      | exc c fs h2 => rw [eb] at p1; exact p1
      | bad => rw [eb] at p1; exact p1
/-! ### comprehensions -/
theorem wipe_get : ∀ (vs : List Nat) (σ : L2.St) (j : Nat), (wipe σ vs)[j]? = if j ∈ vs then (if j < σ.length then some none else none) else σ[j]?
  | [], σ, j => by simp [wipe]
  | v :: vs, σ, j => by
    unfold wipe
    by_cases hv : v = j
    · subst hv
      rw [List.getElem?_set_self', wipe_get vs σ v]
      by_cases hl : v < σ.length
      · simp [hl]
        by_cases hm : v ∈ vs
        · simp [hm, hl]
        · simp [hm, hl]
      · simp [hl]
    · rw [List.getElem?_set_ne hv, wipe_get vs σ j]
      have : (j ∈ v :: vs) ↔ j ∈ vs := by
        constructor
        · intro z
          rcases List.mem_cons.mp z with z | z
          · exact absurd z.symm hv
          · exact z
        · exact List.mem_cons_of_mem _
      simp only [this]
theorem wipe_outs {vs ss : List Nat} {σ σ2 : L2.St} (hs : ∀ j ∈ ss, j ∈ vs) (o : Outs ss (wipe σ vs) σ2) : wipe σ2 vs = wipe σ vs := by
  refine List.ext_getElem? fun j => ?_
  rw [wipe_get, wipe_get]
  have hl : σ2.length = σ.length := o.1.trans (wipe_length σ vs)
  by_cases hj : j ∈ vs
  · rw [if_pos hj, if_pos hj, hl]
  · rw [if_neg hj, if_neg hj, o.2 j fun z => hj (hs j z), wipe_get, if_neg hj]
theorem EnvR.wipe {K : PySem.W.Frag} {f : Nm} {H : Hp} {ρ : Env} {σ : L2.St} (E : EnvR L K f H ρ σ) : ∀ vs : List Nat, EnvR L K f H (wipeE ρ vs) (L2.wipe σ vs)
  | [] => E
  | v :: vs => by
    have I := EnvR.wipe E vs
    unfold wipeE L2.wipe
    refine ⟨by rw [List.length_set, List.length_set, I.len], fun i w e => ?_⟩
    by_cases hi : v = i
    · subst hi
      rw [List.getElem?_set_self'] at e
      cases q : (wipeE ρ vs)[v]? with
      | none => rw [q] at e; simp at e
      | some _ => rw [q] at e; simp at e
    · rw [List.getElem?_set_ne hi] at e
      obtain ⟨w', q, r⟩ := I.at_ i w e
      exact ⟨w', by rw [List.getElem?_set_ne hi]; exact q, r⟩
theorem lcF_eq (w : Wk) (t : Tg) (c : MT) (elt : ME) (ρ : Env) (fuel i : Nat) (acc : List Val) (h : Mem) : lcF w t c elt ρ fuel i acc h = (match w.at_ i h with
    | none => .bad
    | some none => .ok acc h
    | some (some v) => match fuel with
      | 0 => .bad
      | fuel + 1 => match put1 t v ρ with
        | none => .bad
        | some ρ1 => match c ρ1 h with
          | .ok true h2 => (match elt ρ1 h2 with
            | .ok y h3 => if acc.length < sizeLine then lcF w t c elt ρ fuel (i + 1) (acc ++ [y]) h3 else .bad
            | _ => .bad)
          | .ok false h2 => lcF w t c elt ρ fuel (i + 1) acc h2
          | _ => .bad) := by
  rw [lcF.eq_def]
  all_goals rfl
theorem good_lc {t : Tg} {mi : MI} {mc : MT} {me : ME} {vs : List Nat} (hvs : ∀ j ∈ tgS t, j ∈ vs) {σ : L2.St} {H : Hp} {Q : VK} (G : GoodE L X.K W (eLc vs t mi mc me) σ H Q) :
    tLc (GoodI L X.K W mi) (GoodG L X.K t) (GoodT L X.K WF mc) (GoodE L X.K WF me) vs σ H Q := by
  obtain ⟨f, ρ, h, S, E, p⟩ := G
  refine ⟨f, ρ, h, S, E, (PostG.bind (R := WkR L X.K) p).imp fun J H1 ⟨f1, w, h1, e1, X1, S1, R1, p1⟩ => ?_⟩
  intro D hD
  have E1 := E.mono S X1
  refine ⟨fun i m H' => ∃ f' h' acc ys, Ext f1 f' H1 H' ∧ Sim L X.K f' h' H' ∧ H' D = some (.lst ys) ∧ (∀ n, f' n ≠ some D) ∧ RVs L X.K f' H' acc ys ∧ PostG L X.K (RV L X.K) W f1 σ H1 Q ((lcF w t mc me (wipeE ρ vs) m i acc h').bind newL),
    ⟨w.fuel, f1, h1, [], [], ext_new hD, S1.out hD, upd_same, fun n z => ?_, RVs.nil, p1⟩, ?_⟩
  · obtain ⟨o, _, r⟩ := S1.at_ n D z
    obtain ⟨q, e⟩ := r.some
    rw [hD] at e; cases e
  rintro i m H' ⟨f', h', acc, ys, X', S', hD', nD, ra, p'⟩
  have z := R1 f' h' H' i X' S'
  rw [lcF_eq] at p'
  cases ea : w.at_ i h' with
  | none => rw [ea] at p'; exact absurd p' id
  | some o =>
    rw [ea] at p' z
    cases o with
    | none =>
      refine .inl ⟨z, ?_⟩
      dsimp only at p'
      rw [Res.bind_ok] at p'
      unfold newL at p'
      split at p'
      · -- the new list enters the memory
        have le : ∀ n a, f' n = some a → put f' h'.length D n = some a := fun n a e => by
          unfold put
          rw [if_neg (fun y => by rw [y, S'.fresh] at e; cases e)]
          exact e
        have Sn : Sim L X.K (put f' h'.length D) (h' ++ [.lst acc]) H' := by
          refine ⟨fun n m a q1 q2 => ?_, fun n hn => ?_, fun n a q => ?_⟩
          · unfold put at q1 q2
            split at q1 <;> split at q2
            · rename_i u1 u2; rw [u1, u2]
            · cases q1; exact absurd q2 (nD m)
            · cases q2; exact absurd q1 (nD n)
            · exact S'.inj n m a q1 q2
          · unfold put
            by_cases y : n = h'.length
            · exact ⟨D, by rw [if_pos y]⟩
            · rw [if_neg y]
              exact S'.has n (by rw [List.length_append, List.length_singleton] at hn; omega)
          · by_cases y : n = h'.length
            · subst y
              rw [put_same] at q
              cases q
              exact ⟨.lst acc, by simp, ys, hD', RVs.mono2 le (fun _ _ e => e) _ _ ra⟩
            · have q' : f' n = some a := by unfold put at q; rwa [if_neg y] at q
              obtain ⟨o', e', r'⟩ := S'.at_ n a q'
              refine ⟨o', by rw [List.getElem?_append_left (S'.lt q')]; exact e', ?_⟩
              cases o' with
              | lst xs =>
                obtain ⟨us, q, z⟩ := r'
                exact ⟨us, q, RVs.mono2 le (fun _ _ e => e) _ _ z⟩
              | ins c fs =>
                obtain ⟨dx, gs, q, z1, z2⟩ := r'
                exact ⟨dx, gs, q, z1, RVs.mono2 le (fun _ _ e => e) _ _ z2⟩
              | rol xs =>
                obtain ⟨o, us, q, z⟩ := r'
                exact ⟨o, us, q, RVs.mono2 le (fun _ _ e => e) _ _ z⟩
              | dic kvs =>
                obtain ⟨gs, q, z1, z2⟩ := r'
                exact ⟨gs, q, z1, RVs.mono2 le (fun _ _ e => e) _ _ z2⟩
              | frd kvs =>
                obtain ⟨o, gs, q, z1, z2⟩ := r'
                exact ⟨o, gs, q, z1, RVs.mono2 le (fun _ _ e => e) _ _ z2⟩
        refine p' (put f' h'.length D) H' (.ref D) ⟨fun n a e => le n a (X'.le n a e), fun n a e => ?_, X'.keep, X'.trk, X'.frz⟩ Sn (mk_ref put_same)
        unfold put at e
        split at e
        · cases e; exact .inr hD
        · exact X'.new n a e
      · exact absurd p' id
    | some v =>
      obtain ⟨zg, zy⟩ := z
      cases m with
      | zero => exact absurd p' id
      | succ m =>
        dsimp only at p'
        cases eρ : put1 t v (wipeE ρ vs) with
        | none => rw [eρ] at p'; exact absurd p' id
        | some ρ1 =>
          rw [eρ] at p'
          dsimp only at p'
          refine .inr ⟨zg, fun H2 => ∃ f' h' acc ys, Ext f1 f' H1 H2 ∧ Sim L X.K f' h' H2 ∧ H2 D = some (.lst ys) ∧ (∀ n, f' n ≠ some D) ∧ RVs L X.K f' H2 acc ys ∧ PostG L X.K (RV L X.K) W f1 σ H1 Q ((lcF w t mc me (wipeE ρ vs) m (i + 1) acc h').bind newL),
            fun H2 q => ⟨m, Nat.lt_succ_self _, q⟩, fun x H'' y => ?_⟩
          obtain ⟨X2, S2, R2⟩ := zy x H'' y
          have E2 : EnvR L X.K f' H'' (wipeE ρ vs) (wipe σ vs) := ((E1.mono S1 X').mono S' X2).wipe vs
          refine ⟨f', wipeE ρ vs, h', v, ρ1, S2, E2, R2, eρ, fun σ2 E3 o2 => ⟨wipe_outs hvs o2, ?_⟩⟩
          have keepD : ∀ {fa fb : Nm} {Ha Hb : Hp} {zs : List V}, Ext fa fb Ha Hb → Ha D = some (.lst zs) → (∀ n, fa n ≠ some D) → Hb D = some (.lst zs) ∧ ∀ n, fb n ≠ some D := fun {fa fb Ha Hb zs} x q nq =>
            ⟨x.keep _ _ q nq, fun n e => by
              rcases x.new n D e with u | u
              · exact nq n u
              · rw [q] at u; cases u⟩
          obtain ⟨hD2, nD2⟩ := keepD X2 hD' nD
          have ra2 := ra.mono S' X2
          cases ec : mc ρ1 h' with
          | bad => rw [ec] at p'; exact absurd p' id
          | exc c fs h2 => rw [ec] at p'; exact absurd p' id
          | ok k h2 =>
            refine ⟨f', ρ1, h', S2, E3, ?_⟩
            rw [ec] at p' ⊢
            intro f3 H3 k' X3 S3 rk
            obtain rfl : k = k' := rk
            obtain ⟨hD3, nD3⟩ := keepD X3 hD2 nD2
            have ra3 := ra2.mono S2 X3
            cases k with
            | false =>
              rw [if_neg Bool.false_ne_true]
              exact ⟨f3, h2, acc, ys, X'.trans (X2.trans X3), S3, hD3, nD3, ra3, p'⟩
            | true =>
              rw [if_pos rfl]
              dsimp only at p'
              refine ⟨f3, ρ1, h2, S3, E3.mono S2 X3, ?_⟩
              cases ee : me ρ1 h2 with
              | bad => rw [ee] at p'; exact absurd p' id
              | exc c fs h4 => rw [ee] at p'; exact absurd p' id
              | ok y h4 =>
                rw [ee] at p'
                dsimp only at p'
                intro f4 H4 y' X4 S4 ry
                obtain ⟨hD4, nD4⟩ := keepD X4 hD3 nD3
                have ra4 := ra3.mono S3 X4
                split at p'
                · rename_i hz
                  refine ⟨ys, hD4, by rw [← ra4.length]; exact hz, f4, h4, acc ++ [y], ys ++ [y'], ?_, S4.outUpd hD4 nD4, upd_same, nD4, ?_, p'⟩
                  · have X5 := X'.trans (X2.trans (X3.trans X4))
                    refine ⟨X5.le, X5.new, fun a o q nq => ?_, fun a o q => ?_, fun a o u q => ?_⟩
                    · have na : a ≠ D := fun e => by rw [e, hD] at q; cases q
                      rw [upd_ne na]
                      exact X5.keep a o q nq
                    · by_cases na : a = D
                      · exact ⟨_, by rw [na, upd_same]⟩
                      · rw [upd_ne na]
                        exact X5.trk a o q
                    · have na : a ≠ D := fun e => by rw [e, hD] at q; cases q
                      rw [upd_ne na]
                      exact X5.frz a o u q
                  · exact RVs.mono2 (fun _ _ e => e) (tupOut hD4) _ _ (ra4.append (RVs.cons ry RVs.nil))
                · exact absurd p' id
/-! ### the keys of a locked dict -/
theorem wkR_key {K : PySem.W.Frag} {f : Nm} {H : Hp} {n k : Nat} {a : Addr} {o : Obj} {gs : List (Key × V)} (ea : f n = some a) (hg : H a = some (.frz o (.dK gs))) : WkR L K f H (wkK n k) (Itk a o gs) := by
  intro f' h' H' i x S'
  have hg' := x.frz a o _ hg
  have ea' := x.le n a ea
  unfold wkK
  dsimp only
  cases e : h'[n]? with
  | none => trivial
  | some ob =>
    cases ob with
    | frd kvs =>
      obtain ⟨o2, gs2, hg2, rg⟩ := S'.frd ea' e
      rw [hg'] at hg2
      cases hg2
      have ln := df_len rg
      cases ek : kvs[i]? with
      | none =>
        simp only [ek, Option.map_none]
        exact ⟨hg', by rw [← ln]; exact List.getElem?_eq_none_iff.mp ek⟩
      | some kv =>
        simp only [ek, Option.map_some]
        have hi : i < kvs.length := (List.getElem?_eq_some_iff.mp ek).1
        refine ⟨⟨hg', by rw [← ln]; exact hi⟩, fun y H'' ⟨eH, kk, vv, eg, ey⟩ => ?_⟩
        subst eH
        subst ey
        refine ⟨Ext.refl _ _, S', ?_⟩
        have e1 : (kvs.map (·.1))[i]? = some kv.1 := by rw [List.getElem?_map, ek]; rfl
        rw [rg.1, List.getElem?_map, eg] at e1
        have : kk = kv.1 := by simpa using e1
        rw [this]
        show RV L K f' H'' (keyV kv.1) (kV kv.1)
        cases kv.1 with
        | inl i => exact mk_int i
        | inr z => exact mk_str z
    | _ => trivial
theorem i_key {tg : Expr} (ha : PE X a (GoodE L X.K W da)) : PI X tg a (GoodI L X.K W (iKey da)) := by
  refine piImp (pi_keys ha) fun σ H R ⟨f, ρ, h, S, E, p⟩ => ?_
  refine ⟨f, ρ, h, S, E, (PostG.bind (R := RV L X.K) p).imp fun x' H1 ⟨f1, x, h1, e1, X1, S1, R1, p1⟩ => ?_⟩
  cases x with
  | ref n =>
    obtain ⟨b, eb, rfl⟩ := rv_ref R1
    dsimp only at p1
    split at p1
    · rename_i kvs eo
      obtain ⟨o, gs, hg, rg⟩ := S1.frd eb eo
      exact ⟨b, o, rfl, .inl ⟨gs, hg, p1 f1 H1 _ (Ext.refl _ _) S1 (wkR_key eb hg)⟩⟩
    · exact absurd p1 id
  | _ => exact absurd p1 id
/-! ### locks -/
theorem dicAt_some {ρ : Env} {h : Mem} {i n : Nat} {kvs : List (Key × Val)} (e : dicAt ρ h i = some (n, kvs)) : ρ[i]? = some (some (.ref n)) ∧ h[n]? = some (.dic kvs) := by
  unfold dicAt at e
  split at e
  · rename_i m em
    split at e
    · rename_i ks ek
      cases e
      exact ⟨em, ek⟩
    · cases e
  · cases e
/-- the locked memory, and back -/
theorem lock_sim {K : PySem.W.Frag} {f : Nm} {h : Mem} {H : Hp} {n : Nat} {a : Addr} {kvs : List (Key × Val)} {gs : List (Key × V)} {od : Obj} (S : Sim L K f h H) (ea : f n = some a) (hg : H a = some (.dK gs)) (rg : RFs L K f H kvs gs) :
    Ext f f H (upd H a (.frz od (.dK gs))) ∧ Sim L K f (h.set n (.frd kvs)) (upd H a (.frz od (.dK gs))) := by
  have x : Ext f f H (upd H a (.frz od (.dK gs))) := ext_upd ea hg
  exact ⟨x, S.wr ea hg ⟨od, gs, upd_same, rg.1, rg.2.mono S x⟩⟩
theorem unlock_sim {K : PySem.W.Frag} {f f' : Nm} {h' : Mem} {H H' : Hp} {n : Nat} {a : Addr} {kvs : List (Key × Val)} {gs : List (Key × V)} {od : Obj} (ea : f n = some a) (hg : H a = some (.dK gs)) (X1 : Ext f f' (upd H a (.frz od (.dK gs))) H') (S : Sim L K f' h' H') (eo : h'[n]? = some (.frd kvs)) :
    H' a = some (.frz od (.dK gs)) ∧ Ext f f' H (upd H' a (.dK gs)) ∧ Sim L K f' (h'.set n (.dic kvs)) (upd H' a (.dK gs)) ∧ (∀ t v, RV L K f' H' t v → RV L K f' (upd H' a (.dK gs)) t v) ∧ ∀ t v, RVs L K f' H' t v → RVs L K f' (upd H' a (.dK gs)) t v := by
  have hl : H' a = some (.frz od (.dK gs)) := X1.frz a od _ upd_same
  have ea' := X1.le n a ea
  have tp : ∀ b vs, SqT K H' b vs → SqT K (upd H' a (.dK gs)) b vs := fun b vs e => by
    rcases e with e | e
    · have nb : b ≠ a := fun z => by
        rw [z] at e
        rcases e with e | ⟨q, e⟩ <;> rw [hl] at e <;> cases e
      refine .inl ?_
      rcases e with e | ⟨q, e⟩
      · exact .inl (by rw [upd_ne nb]; exact e)
      · exact .inr ⟨q, by rw [upd_ne nb]; exact e⟩
    · exact .inr e
  have mono : ∀ t v, RV L K f' H' t v → RV L K f' (upd H' a (.dK gs)) t v := fun t v r => RV.mono2 (fun _ _ e => e) tp t v r
  have monos : ∀ t v, RVs L K f' H' t v → RVs L K f' (upd H' a (.dK gs)) t v := fun t v r => RVs.mono2 (fun _ _ e => e) tp t v r
  refine ⟨hl, ⟨X1.le, fun m b e => ?_, fun b o e nb => ?_, fun b o e => ?_, fun b o u e => ?_⟩, ⟨S.inj, fun m hm => S.has m (by rwa [List.length_set] at hm), fun m b z => ?_⟩, mono, monos⟩
  · rcases X1.new m b e with q | q
    · exact .inl q
    · by_cases w : b = a
      · rw [w, upd_same] at q; cases q
      · rw [upd_ne w] at q; exact .inr q
  · have w : b ≠ a := fun w => nb n (by rw [w]; exact ea)
    rw [upd_ne w]
    exact X1.keep b o (by rw [upd_ne w]; exact e) nb
  · by_cases w : b = a
    · exact ⟨_, by rw [w, upd_same]⟩
    · rw [upd_ne w]
      exact X1.trk b o (by rw [upd_ne w]; exact e)
  · have w : b ≠ a := fun w => by rw [w, hg] at e; cases e
    rw [upd_ne w]
    exact X1.frz b o u (by rw [upd_ne w]; exact e)
  · by_cases w : m = n
    · subst w
      rw [ea'] at z; cases z
      obtain ⟨o2, gs2, hg2, r1, r2⟩ := S.frd ea' eo
      rw [hl] at hg2
      cases hg2
      exact ⟨.dic kvs, by rw [List.getElem?_set_self (S.lt ea')], gs, upd_same, r1, monos _ _ r2⟩
    · have nb : b ≠ a := fun y => w (S.inj m n a (y ▸ z) ea')
      obtain ⟨o', q', r'⟩ := S.at_ m b z
      refine ⟨o', by rw [List.getElem?_set_ne (Ne.symm w)]; exact q', ?_⟩
      cases o' with
      | lst xs =>
        obtain ⟨vs, q, z⟩ := r'
        exact ⟨vs, by rw [upd_ne nb]; exact q, monos _ _ z⟩
      | ins c fs =>
        obtain ⟨dx, gs, q, z1, z2⟩ := r'
        exact ⟨dx, gs, by rw [upd_ne nb]; exact q, z1, monos _ _ z2⟩
      | rol xs =>
        obtain ⟨o, vs, q, z⟩ := r'
        exact ⟨o, vs, by rw [upd_ne nb]; exact q, monos _ _ z⟩
      | dic kvs =>
        obtain ⟨gs, q, z1, z2⟩ := r'
        exact ⟨gs, by rw [upd_ne nb]; exact q, z1, monos _ _ z2⟩
      | frd kvs =>
        obtain ⟨o, gs, q, z1, z2⟩ := r'
        exact ⟨o, gs, by rw [upd_ne nb]; exact q, z1, monos _ _ z2⟩
theorem s_lk {e : Expr} {i : Nat} {m : ME} (h : PE X e (GoodE L X.K W m)) : PE X e (GoodE L X.K W (eLk i m)) := by
  refine peImp (pe_lock h) fun σ H Q ⟨f, ρ, h, S, E, p⟩ => ?_
  unfold eLk at p
  cases ed : dicAt ρ h i with
  | none => rw [ed] at p; exact absurd p id
  | some nk =>
    obtain ⟨n, kvs⟩ := nk
    rw [ed] at p
    dsimp only at p
    obtain ⟨ei, eh⟩ := dicAt_some ed
    obtain ⟨v', _, rv'⟩ := E.at_ i _ ei
    obtain ⟨a, ea, rfl⟩ := rv_ref rv'.ref_
    obtain ⟨gs, hg, rg⟩ := S.dic ea eh
    refine ⟨a, .dK gs, hg, True.intro, fun od => ?_⟩
    obtain ⟨X0, S0⟩ := lock_sim (od := od) S ea hg rg
    refine ⟨f, ρ, h.set n (.frd kvs), S0, E.mono S X0, ?_⟩
    unfold unlk at p
    cases em : m ρ (h.set n (.frd kvs)) with
    | bad => rw [em] at p; exact absurd p id
    | exc c fs h1 => rw [em] at p; exact absurd p id
    | ok v h1 =>
      rw [em] at p
      dsimp only at p
      split at p
      · rename_i kvs' eo
        intro f1 H1 v1 X1 S1 R1
        obtain ⟨hl, X2, S2, mono, _⟩ := unlock_sim ea hg X1 S1 eo
        exact ⟨hl, p f1 _ v1 X2 S2 (mono _ _ R1)⟩
      · exact absurd p id
theorem st_lk {st : Stmt} {i j : Nat} {m : ME} (h : PS X st (GoodS L X.K W (sSet j m))) : PS X st (GoodS L X.K W (sSet j (eLk i m))) := by
  refine psImp (ps_lock h) fun D σ H ⟨f, ρ, h, S, E, p⟩ => ?_
  unfold sSet eLk at p
  cases ed : dicAt ρ h i with
  | none => rw [ed] at p; exact absurd p id
  | some nk =>
    obtain ⟨n, kvs⟩ := nk
    rw [ed] at p
    dsimp only at p
    obtain ⟨ei, eh⟩ := dicAt_some ed
    obtain ⟨v', _, rv'⟩ := E.at_ i _ ei
    obtain ⟨a, ea, rfl⟩ := rv_ref rv'.ref_
    obtain ⟨gs, hg, rg⟩ := S.dic ea eh
    refine ⟨a, .dK gs, hg, True.intro, fun od => ?_⟩
    obtain ⟨X0, S0⟩ := lock_sim (od := od) S ea hg rg
    refine ⟨f, ρ, h.set n (.frd kvs), S0, E.mono S X0, ?_⟩
    unfold unlk at p
    unfold sSet
    cases em : m ρ (h.set n (.frd kvs)) with
    | bad => rw [em] at p; exact absurd p id
    | exc c fs h1 => rw [em] at p; exact absurd p id
    | ok v h1 =>
      rw [em] at p
      dsimp only at p
      split at p
      · rename_i kvs' eo
        intro f1 H1 σ1 X1 S1 E1
        obtain ⟨hl, X2, S2, mono, monos⟩ := unlock_sim ea hg X1 S1 eo
        refine ⟨hl, p f1 _ σ1 X2 S2 ⟨E1.len, fun k u eu => ?_⟩⟩
        obtain ⟨u', q1, q2⟩ := E1.at_ k u eu
        refine ⟨u', q1, ?_⟩
        rcases q2 with q2 | ⟨hi, c, fs, e1, e2, r1, r2⟩
        · exact .inl (mono _ _ q2)
        · refine .inr ⟨hi, c, fs, e1, e2, r1, ?_⟩
          rcases r2 with r2 | ⟨d, gs2, ed2, eg2, rf1, rf2⟩
          · exact .inl r2
          · refine .inr ⟨d, gs2, ed2, ?_, rf1, monos _ _ rf2⟩
            rw [upd_ne (fun z => by rw [z, hl] at eg2; cases eg2)]
            exact eg2
      · exact absurd p id
theorem s_lcN {e : Expr} {i : Nat} {vs : List Nat} {t : Tg} {c : MT} {elt : ME} (h1 : PE X e (GoodE L X.K W (eLc vs t (iKey (eVar i)) c elt))) (h2 : PE X e (GoodE L X.K W (eLc vs t (iVal (eVar i)) c elt))) : PE X e (GoodE L X.K W (eLcN i vs t c elt)) := by
  refine ⟨fun pins s σ H Q I ⟨f, ρ, h, S, E, p⟩ => ?_⟩
  unfold eLcN at p
  cases ed : dicAt ρ h i with
  | some nk => rw [ed] at p; exact (s_lk h1).run pins s σ H Q I ⟨f, ρ, h, S, E, p⟩
  | none => rw [ed] at p; exact h2.run pins s σ H Q I ⟨f, ρ, h, S, E, p⟩
theorem st_lcN {st : Stmt} {i j : Nat} {vs : List Nat} {t : Tg} {c : MT} {elt : ME} (h1 : PS X st (GoodS L X.K W (sSet j (eLc vs t (iKey (eVar i)) c elt)))) (h2 : PS X st (GoodS L X.K W (sSet j (eLc vs t (iVal (eVar i)) c elt)))) : PS X st (GoodS L X.K W (sSet j (eLcN i vs t c elt))) := by
  refine ⟨fun pins s σ H D I ⟨f, ρ, h, S, E, p⟩ => ?_⟩
  unfold sSet eLcN at p
  cases ed : dicAt ρ h i with
  | some nk => rw [ed] at p; exact (st_lk h1).run pins s σ H D I ⟨f, ρ, h, S, E, p⟩
  | none => rw [ed] at p; exact h2.run pins s σ H D I ⟨f, ρ, h, S, E, p⟩
/-! ### dict comprehensions -/
theorem dcF_eq (w : Wk) (t : Tg) (c : MT) (ek ev : ME) (ρ : Env) (fuel i : Nat) (acc : List (Key × Val)) (h : Mem) : dcF w t c ek ev ρ fuel i acc h = (match w.at_ i h with
    | none => .bad
    | some none => .ok acc h
    | some (some v) => match fuel with
      | 0 => .bad
      | fuel + 1 => match put1 t v ρ with
        | none => .bad
        | some ρ1 => match c ρ1 h with
          | .ok true h2 => (match ek ρ1 h2 with
            | .ok y h3 => (match ev ρ1 h3 with
              | .ok z h4 => (match keyOf y with
                | some k => if acc.length < sizeLine then dcF w t c ek ev ρ fuel (i + 1) (dPut acc k z) h4 else .bad
                | none => .bad)
              | _ => .bad)
            | _ => .bad)
          | .ok false h2 => dcF w t c ek ev ρ fuel (i + 1) acc h2
          | _ => .bad) := by
  rw [dcF.eq_def]
  all_goals rfl
theorem RFs.mono2 {κ : Type} {K : PySem.W.Frag} {f f' : Nm} {H H' : Hp} (le : ∀ n a, f n = some a → f' n = some a) (tp : ∀ a vs, SqT K H a vs → SqT K H' a vs) {kvs : List (κ × Val)} {gs : List (κ × V)} (r : RFs L K f H kvs gs) : RFs L K f' H' kvs gs := ⟨r.1, RVs.mono2 le tp _ _ r.2⟩
theorem tupOutD {K : PySem.W.Frag} {H : Hp} {a : Addr} {xs : List (Key × V)} {o : HO} (ha : H a = some (.dK xs)) : ∀ b vs, SqT K H b vs → SqT K (upd H a o) b vs := fun b vs e => by
  rcases e with e | e
  · have nb : b ≠ a := fun z => by
      rw [z] at e
      rcases e with e | ⟨q, e⟩ <;> rw [ha] at e <;> cases e
    refine .inl ?_
    rcases e with e | ⟨q, e⟩
    · exact .inl (by rw [upd_ne nb]; exact e)
    · exact .inr ⟨q, by rw [upd_ne nb]; exact e⟩
  · exact .inr e
theorem Sim.outUpdD {K : PySem.W.Frag} {f : Nm} {h : Mem} {H : Hp} (S : Sim L K f h H) {a : Addr} {xs : List (Key × V)} {o : HO} (ha : H a = some (.dK xs)) (no : ∀ n, f n ≠ some a) : Sim L K f h (upd H a o) :=
  ⟨S.inj, S.has, fun n b e => by
    have nb : b ≠ a := fun z => no n (z ▸ e)
    obtain ⟨ob, q, r⟩ := S.at_ n b e
    refine ⟨ob, q, ?_⟩
    cases ob with
    | lst xs =>
      obtain ⟨vs, q, z⟩ := r
      exact ⟨vs, by rw [upd_ne nb]; exact q, RVs.mono2 (fun _ _ e => e) (tupOutD ha) _ _ z⟩
    | ins c fs =>
      obtain ⟨dx, gs, q, z1, z2⟩ := r
      exact ⟨dx, gs, by rw [upd_ne nb]; exact q, z1, RVs.mono2 (fun _ _ e => e) (tupOutD ha) _ _ z2⟩
    | rol xs =>
      obtain ⟨o, vs, q, z⟩ := r
      exact ⟨o, vs, by rw [upd_ne nb]; exact q, RVs.mono2 (fun _ _ e => e) (tupOutD ha) _ _ z⟩
    | dic kvs =>
      obtain ⟨gs, q, z1, z2⟩ := r
      exact ⟨gs, by rw [upd_ne nb]; exact q, z1, RVs.mono2 (fun _ _ e => e) (tupOutD ha) _ _ z2⟩
    | frd kvs =>
      obtain ⟨o, gs, q, z1, z2⟩ := r
      exact ⟨o, gs, by rw [upd_ne nb]; exact q, z1, RVs.mono2 (fun _ _ e => e) (tupOutD ha) _ _ z2⟩⟩
theorem good_dc {t : Tg} {mi : MI} {mc : MT} {mk mv : ME} {vs : List Nat} (hvs : ∀ j ∈ tgS t, j ∈ vs) {σ : L2.St} {H : Hp} {Q : VK} (G : GoodE L X.K W (eDc vs t mi mc mk mv) σ H Q) :
    tDc (GoodI L X.K W mi) (GoodG L X.K t) (GoodT L X.K WF mc) (GoodE L X.K WF mk) (GoodE L X.K WF mv) vs σ H Q := by
  obtain ⟨f, ρ, h, S, E, p⟩ := G
  refine ⟨f, ρ, h, S, E, (PostG.bind (R := WkR L X.K) p).imp fun J H1 ⟨f1, w, h1, e1, X1, S1, R1, p1⟩ => ?_⟩
  intro D hD
  have E1 := E.mono S X1
  refine ⟨fun i m H' => ∃ f' h' acc ys, Ext f1 f' H1 H' ∧ Sim L X.K f' h' H' ∧ H' D = some (.dK ys) ∧ (∀ n, f' n ≠ some D) ∧ RFs L X.K f' H' acc ys ∧ PostG L X.K (RV L X.K) W f1 σ H1 Q ((dcF w t mc mk mv (wipeE ρ vs) m i acc h').bind newD),
    ⟨w.fuel, f1, h1, [], [], ext_new hD, S1.out hD, upd_same, fun n z => ?_, ⟨rfl, RVs.nil⟩, p1⟩, ?_⟩
  · obtain ⟨o, _, r⟩ := S1.at_ n D z
    obtain ⟨q, e⟩ := r.some
    rw [hD] at e; cases e
  rintro i m H' ⟨f', h', acc, ys, X', S', hD', nD, ra, p'⟩
  have z := R1 f' h' H' i X' S'
  rw [dcF_eq] at p'
  cases ea : w.at_ i h' with
  | none => rw [ea] at p'; exact absurd p' id
  | some o =>
    rw [ea] at p' z
    cases o with
    | none =>
      refine .inl ⟨z, ?_⟩
      dsimp only at p'
      rw [Res.bind_ok] at p'
      unfold newD at p'
      have le : ∀ n a, f' n = some a → put f' h'.length D n = some a := fun n a e => by
        unfold put
        rw [if_neg (fun y => by rw [y, S'.fresh] at e; cases e)]
        exact e
      have Sn : Sim L X.K (put f' h'.length D) (h' ++ [.dic acc]) H' := by
        refine ⟨fun n m a q1 q2 => ?_, fun n hn => ?_, fun n a q => ?_⟩
        · unfold put at q1 q2
          split at q1 <;> split at q2
          · rename_i u1 u2; rw [u1, u2]
          · cases q1; exact absurd q2 (nD m)
          · cases q2; exact absurd q1 (nD n)
          · exact S'.inj n m a q1 q2
        · unfold put
          by_cases y : n = h'.length
          · exact ⟨D, by rw [if_pos y]⟩
          · rw [if_neg y]
            exact S'.has n (by rw [List.length_append, List.length_singleton] at hn; omega)
        · by_cases y : n = h'.length
          · subst y
            rw [put_same] at q
            cases q
            exact ⟨.dic acc, by simp, ys, hD', RFs.mono2 le (fun _ _ e => e) ra⟩
          · have q' : f' n = some a := by unfold put at q; rwa [if_neg y] at q
            obtain ⟨o', e', r'⟩ := S'.at_ n a q'
            refine ⟨o', by rw [List.getElem?_append_left (S'.lt q')]; exact e', ?_⟩
            cases o' with
            | lst xs =>
              obtain ⟨us, q, z⟩ := r'
              exact ⟨us, q, RVs.mono2 le (fun _ _ e => e) _ _ z⟩
            | ins c fs =>
              obtain ⟨dx, gs, q, z1, z2⟩ := r'
              exact ⟨dx, gs, q, z1, RVs.mono2 le (fun _ _ e => e) _ _ z2⟩
            | rol xs =>
              obtain ⟨o, us, q, z⟩ := r'
              exact ⟨o, us, q, RVs.mono2 le (fun _ _ e => e) _ _ z⟩
            | dic kvs =>
              obtain ⟨gs, q, z1, z2⟩ := r'
              exact ⟨gs, q, z1, RVs.mono2 le (fun _ _ e => e) _ _ z2⟩
            | frd kvs =>
              obtain ⟨o, gs, q, z1, z2⟩ := r'
              exact ⟨o, gs, q, z1, RVs.mono2 le (fun _ _ e => e) _ _ z2⟩
      refine p' (put f' h'.length D) H' (.ref D) ⟨fun n a e => le n a (X'.le n a e), fun n a e => ?_, X'.keep, X'.trk, X'.frz⟩ Sn (mk_ref put_same)
      unfold put at e
      split at e
      · cases e; exact .inr hD
      · exact X'.new n a e
    | some v =>
      obtain ⟨zg, zy⟩ := z
      cases m with
      | zero => exact absurd p' id
      | succ m =>
        dsimp only at p'
        cases eρ : put1 t v (wipeE ρ vs) with
        | none => rw [eρ] at p'; exact absurd p' id
        | some ρ1 =>
          rw [eρ] at p'
          dsimp only at p'
          refine .inr ⟨zg, fun H2 => ∃ f' h' acc ys, Ext f1 f' H1 H2 ∧ Sim L X.K f' h' H2 ∧ H2 D = some (.dK ys) ∧ (∀ n, f' n ≠ some D) ∧ RFs L X.K f' H2 acc ys ∧ PostG L X.K (RV L X.K) W f1 σ H1 Q ((dcF w t mc mk mv (wipeE ρ vs) m (i + 1) acc h').bind newD),
            fun H2 q => ⟨m, Nat.lt_succ_self _, q⟩, fun x H'' y => ?_⟩
          obtain ⟨X2, S2, R2⟩ := zy x H'' y
          have E2 : EnvR L X.K f' H'' (wipeE ρ vs) (wipe σ vs) := ((E1.mono S1 X').mono S' X2).wipe vs
          refine ⟨f', wipeE ρ vs, h', v, ρ1, S2, E2, R2, eρ, fun σ2 E3 o2 => ⟨wipe_outs hvs o2, ?_⟩⟩
          have keepD : ∀ {fa fb : Nm} {Ha Hb : Hp} {zs : List (Key × V)}, Ext fa fb Ha Hb → Ha D = some (.dK zs) → (∀ n, fa n ≠ some D) → Hb D = some (.dK zs) ∧ ∀ n, fb n ≠ some D := fun {fa fb Ha Hb zs} x q nq =>
            ⟨x.keep _ _ q nq, fun n e => by
              rcases x.new n D e with u | u
              · exact nq n u
              · rw [q] at u; cases u⟩
          have mono : ∀ {fa fb : Nm} {Ha Hb : Hp} {ha : Mem} {kvs : List (Key × Val)} {gs : List (Key × V)}, Sim L X.K fa ha Ha → Ext fa fb Ha Hb → RFs L X.K fa Ha kvs gs → RFs L X.K fb Hb kvs gs := fun S x r => ⟨r.1, r.2.mono S x⟩
          obtain ⟨hD2, nD2⟩ := keepD X2 hD' nD
          have ra2 := mono S' X2 ra
          cases ec : mc ρ1 h' with
          | bad => rw [ec] at p'; exact absurd p' id
          | exc c fs h2 => rw [ec] at p'; exact absurd p' id
          | ok k h2 =>
            refine ⟨f', ρ1, h', S2, E3, ?_⟩
            rw [ec] at p' ⊢
            intro f3 H3 k' X3 S3 rk
            obtain rfl : k = k' := rk
            obtain ⟨hD3, nD3⟩ := keepD X3 hD2 nD2
            have ra3 := mono S2 X3 ra2
            cases k with
            | false =>
              rw [if_neg Bool.false_ne_true]
              exact ⟨f3, h2, acc, ys, X'.trans (X2.trans X3), S3, hD3, nD3, ra3, p'⟩
            | true =>
              rw [if_pos rfl]
              dsimp only at p'
              refine ⟨f3, ρ1, h2, S3, E3.mono S2 X3, ?_⟩
              cases ee : mk ρ1 h2 with
              | bad => rw [ee] at p'; exact absurd p' id
              | exc c fs h4 => rw [ee] at p'; exact absurd p' id
              | ok y h4 =>
                rw [ee] at p'
                dsimp only at p'
                intro f4 H4 y' X4 S4 ry
                obtain ⟨hD4, nD4⟩ := keepD X4 hD3 nD3
                have ra4 := mono S3 X4 ra3
                refine ⟨f4, ρ1, h4, S4, (E3.mono S2 X3).mono S3 X4, ?_⟩
                cases ev : mv ρ1 h4 with
                | bad => rw [ev] at p'; exact absurd p' id
                | exc c fs h5 => rw [ev] at p'; exact absurd p' id
                | ok z h5 =>
                  rw [ev] at p'
                  dsimp only at p'
                  intro f5 H5 z' X5 S5 rz
                  obtain ⟨hD5, nD5⟩ := keepD X5 hD4 nD4
                  have ra5 := mono S4 X5 ra4
                  have ry5 := ry.mono S4 X5
                  cases ek : keyOf y with
                  | none => rw [ek] at p'; exact absurd p' id
                  | some kk =>
                    rw [ek] at p'
                    dsimp only at p'
                    split at p'
                    · rename_i hz
                      refine ⟨ys, kk, key_rel ry5 ek, hD5, by rw [← df_len ra5]; exact hz, f5, h5, dPut acc kk z, putK ys kk z', ?_, S5.outUpdD hD5 nD5, upd_same, nD5, ?_, p'⟩
                      · have X6 := X'.trans (X2.trans (X3.trans (X4.trans X5)))
                        refine ⟨X6.le, X6.new, fun a o q nq => ?_, fun a o q => ?_, fun a o u q => ?_⟩
                        · have na : a ≠ D := fun e => by rw [e, hD] at q; cases q
                          rw [upd_ne na]
                          exact X6.keep a o q nq
                        · by_cases na : a = D
                          · exact ⟨_, by rw [na, upd_same]⟩
                          · rw [upd_ne na]
                            exact X6.trk a o q
                        · have na : a ≠ D := fun e => by rw [e, hD] at q; cases q
                          rw [upd_ne na]
                          exact X6.frz a o u q
                      · exact RFs.mono2 (fun _ _ e => e) (tupOutD hD5) (df_put rz kk ra5)
                    · exact absurd p' id
end
end Mp
set_option Elab.async false
set_option linter.all false
set_option maxRecDepth 100000
set_option maxHeartbeats 1000000
namespace Mp
open PySem PySem.Spec PyProof.Rows L2
/-! ### built-in functions -/
inductive Bi where
  | len | int | abs | min | max | list | tuple | all | any | sum | divmod | str | sorted
def Bi.val : Bi → Value
  | .len => .builtin "len"
  | .int => .type "int"
  | .abs => .builtin "abs"
  | .min => .builtin "min"
  | .max => .builtin "max"
  | .list => .type "list"
  | .tuple => .type "tuple"
  | .all => .builtin "all"
  | .any => .builtin "any"
  | .sum => .builtin "sum"
  | .divmod => .builtin "divmod"
  | .str => .type "str"
  | .sorted => .builtin "sorted"
def biTab : List (Str × Bi) := [("len", .len), ("int", .int), ("abs", .abs), ("min", .min), ("max", .max), ("list", .list), ("tuple", .tuple), ("all", .all), ("any", .any), ("sum", .sum), ("divmod", .divmod), ("str", .str), ("sorted", .sorted)]
def biOf (x : Str) : Option Bi := biTab.lookup x
theorem biTab_ok : (biTab.all fun p => decide (bootBuiltins p.1 = some p.2.val) && decide (p.1 ≠ "__name__") && decide ((p.1 == ("__debug__" : Str)) = false)) = true := by decide +kernel
theorem biOf_boot {x : Str} {b : Bi} (e : biOf x = some b) : bootBuiltins x = some b.val ∧ x ≠ "__name__" ∧ (x == ("__debug__" : Str)) = false := by
  have h := List.all_eq_true.mp biTab_ok _ (PySem.mem_of_lookup e)
  simp only [Bool.and_eq_true, decide_eq_true_eq] at h
  exact ⟨h.1.1, h.1.2, h.2⟩
def intsOf : List Val → Option (List Int)
  | [] => some []
  | .int i :: r => (intsOf r).map (i :: ·)
  | _ :: _ => none
def blsOf : List Val → Option (List Bool)
  | [] => some []
  | .bl i :: r => (blsOf r).map (i :: ·)
  | _ :: _ => none
def maxI : List Int → Int
  | [] => 0
  | [i] => i
  | i :: r => let m := maxI r; if m ≤ i then i else m
def minI : List Int → Int
  | [] => 0
  | [i] => i
  | i :: r => let m := minI r; if i ≤ m then i else m
/-- the items of a sequence, the keys of a dict -/
def seqK (h : Mem) : Val → Option (List Val)
  | .tup ts => some ts
  | .ref n => match h[n]? with
    | some (.lst xs) => some xs
    | some (.rol xs) => some xs
    | some (.dic kvs) => some (kvs.map fun kv => keyV kv.1)
    | _ => none
  | _ => none
def sortK (h : Mem) : Val → Option (List Int)
  | .ref n => match h[n]? with
    | some (.lst xs) => intsOf xs
    | some (.rol xs) => intsOf xs
    | some (.dic kvs) => if kvs.length < 64 then intsOf (kvs.map fun kv => keyV kv.1) else none
    | _ => none
  | _ => none
def lenK (h : Mem) : Val → Option Nat
  | .tup ts => some ts.length
  | .ref n => match h[n]? with
    | some (.lst xs) => some xs.length
    | some (.rol xs) => some xs.length
    | some (.dic kvs) => some kvs.length
    | _ => none
  | _ => none
/-- sorted of a list of tuples -/
def isTupD : PyData → Bool
  | .tuple (_ :: _) => true
  | _ => false
def sortB (xs : List Val) (ds : List PyData) : List Val := ((xs.zip ds).mergeSort (PySem.W.dataLe false (·.2))).map (·.1)
def sortT (h : Mem) (v : Val) : Option (List Val) := match lstOf h v with
  | some xs => (match rds h 20000 xs with
    | some ds => if (ds.all (fun d => isTupD d && decide (d.depth ≤ 60)) && ds.all fun d => ds.all (PySem.W.alike d)) = true then some (sortB xs ds) else none
    | none => none)
  | none => none
def biRun (b : Bi) (args : List Val) (h : Mem) : Res Val := match b, args with
  | .len, [v] => match v with
    | .str z => if z.length ≤ sizeLine then .ok (.int z.length) h else .bad
    | v => (Res.opt (lenK h v) h).bind fun n h => .ok (.int n) h
  | .int, [.int i] => .ok (.int i) h
  | .int, [.bl k] => .ok (.int (if k then 1 else 0)) h
  | .abs, [.int i] => .ok (.int (if i < 0 then -i else i)) h
  | .max, [.int i, .int j] => .ok (.int (if j > i then j else i)) h
  | .min, [.int i, .int j] => .ok (.int (if j < i then j else i)) h
  | .max, [.int i, .int j, .int k] => .ok (.int (if (if j > i then j else i) < k then k else (if j > i then j else i))) h
  | .min, [.int i, .int j, .int k] => .ok (.int (if k < (if j < i then j else i) then k else (if j < i then j else i))) h
  | .max, [v] => match (lstOf h v).bind intsOf with
    | some (i :: ns) => .ok (.int (maxI (i :: ns))) h
    | _ => .bad
  | .min, [v] => match (lstOf h v).bind intsOf with
    | some (i :: ns) => .ok (.int (minI (i :: ns))) h
    | _ => .bad
  | .list, [v] => (Res.opt (seqK h v) h).bind newL
  | .tuple, [v] => (Res.opt (seqOf h v) h).bind fun xs h => .ok (.tup xs) h
  | .all, [v] => (Res.opt ((lstOf h v).bind blsOf) h).bind fun bs h => .ok (.bl (bs.all id)) h
  | .any, [v] => (Res.opt ((lstOf h v).bind blsOf) h).bind fun bs h => .ok (.bl (bs.any id)) h
  | .sum, [v] => (Res.opt ((lstOf h v).bind intsOf) h).bind fun ns h => .ok (.int ns.sum) h
  | .divmod, [.int i, .int j] => if 0 < j ∧ j < 1073741824 then .ok (.tup [.int (i / j), .int (i % j)]) h else .bad
  | .str, [.int i] => if i.natAbs.log2 < 1920 then .ok (.str (toString i : String)) h else .bad
  | .sorted, [v] => match sortK h v with
    | some ns => newL ((ns.mergeSort (· ≤ ·)).map .int) h
    | none => (Res.opt (sortT h v) h).bind newL
  | _, _ => .bad
def eBi (b : Bi) (as : MA) : ME := fun ρ h => (as ρ h).bind (biRun b)
section
variable {L : Lk} {K : PySem.W.Frag} {f f' : Nm} {h h' : Mem} {H H' : Hp} {W : WX} {σ : L2.St} {ρ : Env}
theorem Sim.lstOf (S : Sim L K f h H) {v : Val} {v' : V} {xs : List Val} (r : RV L K f H v v') (e : Mp.lstOf h v = some xs) : ∃ a vs, v' = .ref a ∧ SqL K H a vs ∧ RVs L K f H xs vs := by
  cases v with
  | ref n =>
    obtain ⟨a, ea, rfl⟩ := rv_ref r
    simp only [Mp.lstOf] at e
    cases q : h[n]? with
    | none => rw [q] at e; cases e
    | some o =>
      rw [q] at e
      cases o with
      | lst ys =>
        cases e
        obtain ⟨vs, sv, rv⟩ := S.seq ea (.inl q)
        exact ⟨a, vs, rfl, sv, rv⟩
      | rol ys =>
        cases e
        obtain ⟨vs, sv, rv⟩ := S.seq ea (.inr q)
        exact ⟨a, vs, rfl, sv, rv⟩
      | ins c fs => cases e
      | dic kvs => cases e
      | frd kvs => cases e
  | _ => simp [Mp.lstOf] at e
theorem Sim.seqOf (S : Sim L K f h H) {v : Val} {v' : V} {xs : List Val} (r : RV L K f H v v') (e : Mp.seqOf h v = some xs) : ∃ a vs, v' = .ref a ∧ (SqL K H a vs ∨ SqT K H a vs ∧ v = .tup xs) ∧ RVs L K f H xs vs := by
  cases v with
  | tup ts =>
    simp only [Mp.seqOf] at e
    cases e
    obtain ⟨a, vs, rfl, sa, ra⟩ := rv_tup r
    exact ⟨a, vs, rfl, .inr ⟨sa, rfl⟩, ra⟩
  | ref n =>
    obtain ⟨a, vs, e1, e2, e3⟩ := S.lstOf (v := .ref n) r (xs := xs) (by simpa only [Mp.seqOf, Mp.lstOf] using e)
    exact ⟨a, vs, e1, .inl e2, e3⟩
  | _ => simp [Mp.seqOf] at e
theorem seqK_cases {v : Val} {ys : List Val} (e : seqK h v = some ys) : Mp.seqOf h v = some ys ∨ ∃ n kvs, v = .ref n ∧ h[n]? = some (.dic kvs) ∧ ys = kvs.map fun kv => keyV kv.1 := by
  cases v with
  | tup ts => exact .inl e
  | ref n =>
    simp only [seqK] at e
    cases q : h[n]? with
    | none => rw [q] at e; cases e
    | some o =>
      rw [q] at e
      cases o with
      | lst xs => left; simp only [Mp.seqOf, q]; exact e
      | rol xs => left; simp only [Mp.seqOf, q]; exact e
      | ins c fs => cases e
      | dic kvs => cases e; exact .inr ⟨n, kvs, rfl, q, rfl⟩
      | frd kvs => cases e
  | _ => simp [seqK] at e
theorem sortK_cases {v : Val} {ns : List Int} (e : sortK h v = some ns) : (Mp.lstOf h v).bind intsOf = some ns ∨ ∃ n kvs, v = .ref n ∧ h[n]? = some (.dic kvs) ∧ kvs.length < 64 ∧ intsOf (kvs.map fun kv => keyV kv.1) = some ns := by
  cases v with
  | ref n =>
    simp only [sortK] at e
    cases q : h[n]? with
    | none => rw [q] at e; cases e
    | some o =>
      rw [q] at e
      cases o with
      | lst xs => left; simp only [Mp.lstOf, q]; exact e
      | rol xs => left; simp only [Mp.lstOf, q]; exact e
      | ins c fs => cases e
      | dic kvs =>
        dsimp only at e
        split at e
        · rename_i hz; exact .inr ⟨n, kvs, rfl, q, hz, e⟩
        · cases e
      | frd kvs => cases e
  | _ => simp [sortK] at e
theorem lenK_cases {v : Val} {m : Nat} (e : lenK h v = some m) : (∃ ys, Mp.seqOf h v = some ys ∧ m = ys.length) ∨ ∃ n kvs, v = .ref n ∧ h[n]? = some (.dic kvs) ∧ m = kvs.length := by
  cases v with
  | tup ts => cases e; exact .inl ⟨ts, rfl, rfl⟩
  | ref n =>
    simp only [lenK] at e
    cases q : h[n]? with
    | none => rw [q] at e; cases e
    | some o =>
      rw [q] at e
      cases o with
      | lst xs => cases e; left; exact ⟨xs, by simp only [Mp.seqOf, q], rfl⟩
      | rol xs => cases e; left; exact ⟨xs, by simp only [Mp.seqOf, q], rfl⟩
      | ins c fs => cases e
      | dic kvs => cases e; exact .inr ⟨n, kvs, rfl, q, rfl⟩
      | frd kvs => cases e
  | _ => simp [lenK] at e
theorem keys_rel : ∀ ks : List Key, RVs L K f H (ks.map keyV) (ks.map kV)
  | [] => RVs.nil
  | .inl i :: ks => RVs.cons (mk_int i) (keys_rel ks)
  | .inr x :: ks => RVs.cons (mk_str x) (keys_rel ks)
theorem keys_of {kvs : List (Key × Val)} {gs : List (Key × V)} (r : RFs L K f H kvs gs) : RVs L K f H (kvs.map fun kv => keyV kv.1) (gs.map fun kv => kV kv.1) := by
  have e1 : (kvs.map fun kv => keyV kv.1) = (kvs.map (·.1)).map keyV := by rw [List.map_map]; rfl
  have e2 : (gs.map fun kv => kV kv.1) = (gs.map (·.1)).map kV := by rw [List.map_map]; rfl
  rw [e1, e2, ← r.1]
  exact keys_rel _
theorem ints_keys : ∀ {ks : List Key} {ns : List Int}, intsOf (ks.map keyV) = some ns → ks = ns.map Sum.inl
  | [], ns, e => by simp [intsOf] at e; subst e; rfl
  | .inl i :: ks, ns, e => by
    simp only [List.map_cons, keyV, intsOf] at e
    obtain ⟨ms, e1, rfl⟩ := Option.map_eq_some_iff.mp e
    rw [ints_keys e1]
    rfl
  | .inr x :: ks, ns, e => by simp [keyV, intsOf] at e
theorem ints_ok : ∀ {xs : List Val} {ns : List Int} {vs : List V}, intsOf xs = some ns → RVs L K f H xs vs → vs = ns.map V.int
  | [], ns, vs, e, r => by unfold RVs at r; simp [intsOf] at e; subst e; exact r
  | x :: xs, ns, vs, e, r => by
    unfold RVs at r
    obtain ⟨v, q, rfl, r1, r2⟩ := r
    cases x with
    | int i =>
      simp only [intsOf] at e
      obtain ⟨ms, e1, rfl⟩ := Option.map_eq_some_iff.mp e
      rw [rv_int r1, ints_ok e1 r2]
      rfl
    | _ => simp [intsOf] at e
theorem bls_ok : ∀ {xs : List Val} {ns : List Bool} {vs : List V}, blsOf xs = some ns → RVs L K f H xs vs → vs = ns.map V.bl
  | [], ns, vs, e, r => by unfold RVs at r; simp [blsOf] at e; subst e; exact r
  | x :: xs, ns, vs, e, r => by
    unfold RVs at r
    obtain ⟨v, q, rfl, r1, r2⟩ := r
    cases x with
    | bl i =>
      simp only [blsOf] at e
      obtain ⟨ms, e1, rfl⟩ := Option.map_eq_some_iff.mp e
      rw [rv_bl r1, bls_ok e1 r2]
      rfl
    | _ => simp [blsOf] at e
theorem RVs.one {x : Val} {vs : List V} (r : RVs L K f H [x] vs) : ∃ v, vs = [v] ∧ RV L K f H x v := by
  unfold RVs at r
  obtain ⟨v, q, rfl, r1, r2⟩ := r
  unfold RVs at r2
  exact ⟨v, by rw [r2], r1⟩
theorem RVs.two {x y : Val} {vs : List V} (r : RVs L K f H [x, y] vs) : ∃ v w, vs = [v, w] ∧ RV L K f H x v ∧ RV L K f H y w := by
  unfold RVs at r
  obtain ⟨v, q, rfl, r1, r2⟩ := r
  obtain ⟨w, rfl, r3⟩ := r2.one
  exact ⟨v, w, rfl, r1, r3⟩
theorem RVs.three {x y z : Val} {vs : List V} (r : RVs L K f H [x, y, z] vs) : ∃ u v w, vs = [u, v, w] ∧ RV L K f H x u ∧ RV L K f H y v ∧ RV L K f H z w := by
  unfold RVs at r
  obtain ⟨v, q, rfl, r1, r2⟩ := r
  obtain ⟨w, u, rfl, r3, r4⟩ := r2.two
  exact ⟨v, w, u, rfl, r1, r3, r4⟩
theorem RVs.ints (ns : List Int) : RVs L K f H (ns.map Val.int) (ns.map V.int) := by
  induction ns with
  | nil => exact RVs.nil
  | cons n ns ih => exact RVs.cons (mk_int n) ih
theorem maxI_mem : ∀ (i : Int) (ns : List Int), maxI (i :: ns) ∈ i :: ns ∧ ∀ y ∈ i :: ns, y ≤ maxI (i :: ns)
  | i, [] => by simp [maxI]
  | i, j :: ns => by
    obtain ⟨h1, h2⟩ := maxI_mem j ns
    simp only [maxI]
    split
    · rename_i hz
      refine ⟨List.mem_cons_self, fun y hy => ?_⟩
      rcases List.mem_cons.mp hy with e | e
      · rw [e]; exact Int.le_refl _
      · exact Int.le_trans (h2 y e) hz
    · rename_i hz
      refine ⟨List.mem_cons_of_mem _ h1, fun y hy => ?_⟩
      rcases List.mem_cons.mp hy with e | e
      · rw [e]; omega
      · exact h2 y e
theorem minI_mem : ∀ (i : Int) (ns : List Int), minI (i :: ns) ∈ i :: ns ∧ ∀ y ∈ i :: ns, minI (i :: ns) ≤ y
  | i, [] => by simp [minI]
  | i, j :: ns => by
    obtain ⟨h1, h2⟩ := minI_mem j ns
    simp only [minI]
    split
    · rename_i hz
      refine ⟨List.mem_cons_self, fun y hy => ?_⟩
      rcases List.mem_cons.mp hy with e | e
      · rw [e]; exact Int.le_refl _
      · exact Int.le_trans hz (h2 y e)
    · rename_i hz
      refine ⟨List.mem_cons_of_mem _ h1, fun y hy => ?_⟩
      rcases List.mem_cons.mp hy with e | e
      · rw [e]; omega
      · exact h2 y e
theorem sort_uniq {ns ms : List Int} (hp : ms.Perm ns) (hs : ms.Pairwise (· ≤ ·)) : ms = ns.mergeSort (· ≤ ·) := by
  have h1 : (ns.mergeSort (fun a b => decide (a ≤ b))).Perm ns := List.mergeSort_perm ns _
  have h2 : (ns.mergeSort (fun a b => decide (a ≤ b))).Pairwise (fun a b => decide (a ≤ b) = true) := List.pairwise_mergeSort (by intro a b c; simp; omega) (by intro a b; simp; omega) ns
  have h3 : (ns.mergeSort (fun a b => decide (a ≤ b))).Pairwise (· ≤ ·) := h2.imp fun h => of_decide_eq_true h
  exact List.Perm.eq_of_pairwise (le := (· ≤ ·)) (fun a b _ _ h1 h2 => Int.le_antisymm h1 h2) hs h3 (hp.trans h1.symm)
def rCall (L : Lk) (K : PySem.W.Frag) (g : List Val → Mem → Res Val) : List V → Hp → VK → Prop := fun xs' H Q => ∃ f h xs, Sim L K f h H ∧ RVs L K f H xs xs' ∧ PostG L K (RV L K) WF f [] H Q (g xs h)
theorem good_call {g : List Val → Mem → Res Val} (nx : ∀ xs h, NoX (g xs h)) {das : MA} {Q : VK} (G : GoodE L K W (fun ρ h => (das ρ h).bind g) σ H Q) : tCB (rCall L K g) (GoodA L K W das) σ H Q := by
  obtain ⟨f, ρ, h, S, E, p⟩ := G
  refine ⟨f, ρ, h, S, E, (PostG.bind (R := RVs L K) p).imp fun x' H1 ⟨f1, x, h1, e1, X1, S1, R1, p1⟩ => ?_⟩
  exact ⟨f1, h1, x, S1, R1, p1.nox (nx x h1)⟩
theorem opt_nox {α β : Type} (o : Option α) (h : Mem) (k : α → Mem → Res β) (hk : ∀ a h, NoX (k a h)) : NoX ((Res.opt o h).bind k) := by
  cases o with
  | none => exact True.intro
  | some a => exact hk a h
theorem biRun_nox (b : Bi) (xs : List Val) (h : Mem) : NoX (biRun b xs h) := by
  unfold biRun
  split
  all_goals first
    | exact True.intro
    | (apply opt_nox; intro a h; first | exact True.intro | exact newL_nox _ _)
    | (split <;> first | exact True.intro | exact newL_nox _ _ | (apply opt_nox; intro a h; first | exact True.intro | exact newL_nox _ _) | (split <;> exact True.intro))
end
section
variable {L : Lk} {X : Cx}
theorem vals_each {β : Type} {k : β → V} : ∀ {bs : List β} {its : List Value}, PySem.W.EachIs (fun v b => RelV (k b) v) its bs → Vals (bs.map k) its
  | [], _, .nil => .nil
  | _ :: _, _, .cons r t => .cons r (vals_each t)
theorem each_vals {β : Type} {k : β → V} : ∀ {bs : List β} {its : List Value}, Vals (bs.map k) its → PySem.W.EachIs (fun v b => RelV (k b) v) its bs
  | [], _, .nil => .nil
  | _ :: _, _, .cons r t => .cons r (each_vals t)
theorem each_imp {α β : Type} {R R' : α → β → Prop} : ∀ {as : List α} {bs : List β}, PySem.W.EachIs R as bs → (∀ a b, b ∈ bs → R a b → R' a b) → PySem.W.EachIs R' as bs
  | _, _, .nil, _ => .nil
  | _, _, .cons r t, h => .cons (h _ _ (by simp) r) (each_imp t fun a b hb => h a b (by simp [hb]))
/-- sorted(a list of tuples that read as data) -/
theorem cr_sortD {β : Type} (k : β → V) (enc : β → PyData) (hu : X.A.units + 65 < cLine) : CallR X (.builtin "sorted") (fun vs H Q => ∃ (a : Addr) (bs : List β), vs = [V.ref a] ∧ SqL X.K H a (bs.map k) ∧ (∀ b ∈ bs, Dp X.K H (k b) (enc b)) ∧ PySem.W.AllAlike (bs.map enc) ∧ (∀ b ∈ bs, ∃ x r, enc b = .tuple (x :: r)) ∧ (∀ b ∈ bs, (enc b).depth ≤ 60) ∧
    ∀ p, H p = none → Q (.ref p) (upd H p (.lst ((bs.mergeSort (PySem.W.dataLe false enc)).map k)))) := by
  intro pins s σ H vs us Q I r h
  obtain ⟨a, bs, rfl, hs, hd, hal, ht, hdp, q⟩ := h
  obtain ⟨its, rv, hl, hz⟩ := I.list hs
  rw [Vals.ref1 r]
  have e := each_vals rv
  have er : PySem.W.EachIs (fun v b => ∃ as, Reads s.heap v (enc b) as) its bs := each_imp e fun v b hb rb => Dp.reads I (enc b) (k b) v (hd b hb) rb
  refine PySem.W.sorted_data hl.isList e er hal (.inl fun d hd => ?_) (by simpa using hz) (fun b hb => ?_) fun out ho eo => ?_
  · obtain ⟨b, hb, rfl⟩ := List.mem_map.mp hd
    exact ht b hb
  · have := hdp b hb
    omega
  · obtain ⟨ep, he'⟩ := PyProof.Rows.sortedAll_at s.heap its out.toArray
    have rv' := vals_each eo
    refine ⟨.ref _, upd H (s.heap.objs.size + 1) (.lst ((bs.mergeSort (PySem.W.dataLe false enc)).map k)), I.laid (t' := s.toks) (fun _ _ => PyProof.Rows.sortedAll_old) (Nat.le_succ _) ⟨?_, out, ep, rv', ?_⟩, rfl, q _ (I.hok.fresh (Nat.le_succ _))⟩
    · simp only [List.length_map, List.length_mergeSort]
      simpa using hz
    · exact he'
theorem rvs_map {L : Lk} {K : PySem.W.Frag} {f : Nm} {H : Hp} : ∀ {l : List (Val × V × PyData)}, (∀ b ∈ l, RV L K f H b.1 b.2.1) → RVs L K f H (l.map (·.1)) (l.map (·.2.1))
  | [], _ => RVs.nil
  | b :: l, h => RVs.cons (h b (by simp)) (rvs_map fun x hx => h x (by simp [hx]))
theorem zip3 {L : Lk} {K : PySem.W.Frag} {f : Nm} {H : Hp} : ∀ {xs : List Val} {vs : List V} {ds : List PyData}, RVs L K f H xs vs → DpAll K H vs ds → ∃ l : List (Val × V × PyData), l.map (fun b => (b.1, b.2.2)) = xs.zip ds ∧ l.map (·.2.1) = vs ∧ l.map (·.2.2) = ds ∧ ∀ b ∈ l, RV L K f H b.1 b.2.1 ∧ Dp K H b.2.1 b.2.2
  | [], vs, ds, r, d => by
    unfold RVs at r; subst r
    cases d
    exact ⟨[], rfl, rfl, rfl, nofun⟩
  | x :: xs, vs, ds, r, d => by
    unfold RVs at r
    obtain ⟨v, ws, rfl, r1, r2⟩ := r
    cases d with
    | @cons _ _ d1 ds h1 h2 =>
      obtain ⟨l, e1, e2, e3, e4⟩ := zip3 r2 h2
      refine ⟨(x, v, d1) :: l, by simp [e1], by simp [e2], by simp [e3], fun b hb => ?_⟩
      rcases List.mem_cons.mp hb with q | q
      · rw [q]; exact ⟨r1, h1⟩
      · exact e4 b q
/-- the builtins that walk: not where an exception is handled -/
def calmBi : Bi → Bool
  | .len => false
  | .int => false
  | .abs => false
  | .tuple => false
  | .str => false
  | _ => true
theorem bi_ok (hu : X.A.units + 65 < cLine) (b : Bi) (hc : calmBi b = true → X.calm = true) : CallR X b.val (rCall L X.K (biRun b)) := by
  intro pins s σ H xs' us Q I rv ⟨f, h, xs, S, R, p⟩
  unfold biRun at p
  split at p
  · -- len
    rename_i v
    obtain ⟨v', rfl, r⟩ := R.one
    split at p
    · rename_i z
      obtain rfl := rv_str r
      split at p
      · rename_i hz
        exact call_len_str pins s σ H _ us Q I rv ⟨z, rfl, hz, now S (mk_int _) p⟩
      · exact absurd p id
    · cases e : lenK h v with
      | none => rw [e] at p; exact absurd p id
      | some m =>
        rw [e] at p
        rcases lenK_cases e with ⟨ys, e5, rfl⟩ | ⟨n, kvs, rfl, en, rfl⟩
        · obtain ⟨a, vs, rfl, sq, rr⟩ := S.seqOf r e5
          have q := now S (mk_int _) p
          rw [rr.length] at q
          exact call_len_seq pins s σ H _ us Q I rv ⟨a, vs, rfl, sq.imp id (·.1), q⟩
        · obtain ⟨a, ea, rfl⟩ := rv_ref r
          obtain ⟨gs, hg, rg⟩ := S.dic ea en
          obtain ⟨u, rfl, ru⟩ := vals1 rv
          obtain rfl : u = Value.ref a := ru
          have q := now S (mk_int _) p
          rw [df_len rg] at q
          exact d_len I (.inl hg) fun t s' I' => ⟨.int gs.length, H, I', ⟨t, rfl⟩, q⟩
  · obtain ⟨v', rfl, r⟩ := R.one
    obtain rfl := rv_int r
    exact call_int1 pins s σ H _ us Q I rv (.inl ⟨_, rfl, now S (mk_int _) p⟩)
  · obtain ⟨v', rfl, r⟩ := R.one
    obtain rfl := rv_bl r
    exact call_int1 pins s σ H _ us Q I rv (.inr ⟨_, rfl, now S (mk_int _) p⟩)
  · obtain ⟨v', rfl, r⟩ := R.one
    obtain rfl := rv_int r
    exact call_abs pins s σ H _ us Q I rv ⟨_, rfl, now S (mk_int _) p⟩
  · obtain ⟨v', w', rfl, r, r'⟩ := R.two
    obtain rfl := rv_int r
    obtain rfl := rv_int r'
    exact call_max2 (hc rfl) pins s σ H _ us Q I rv ⟨_, _, rfl, now S (mk_int _) p⟩
  · obtain ⟨v', w', rfl, r, r'⟩ := R.two
    obtain rfl := rv_int r
    obtain rfl := rv_int r'
    exact call_min2 (hc rfl) pins s σ H _ us Q I rv ⟨_, _, rfl, now S (mk_int _) p⟩
  · rename_i i j k
    obtain ⟨u, v', w', rfl, r, r', r''⟩ := R.three
    obtain rfl := rv_int r
    obtain rfl := rv_int r'
    obtain rfl := rv_int r''
    refine call_max3Nu (hc rfl) pins s σ H _ us Q I rv ⟨_, _, _, _, rfl, ?_, now S (mk_int _) p⟩
    by_cases h1 : j > i
    · by_cases h2 : j < k <;> simp [nuMax3, nuMax2, nuLt, nuCB, h1, h2]
    · by_cases h2 : i < k <;> simp [nuMax3, nuMax2, nuLt, nuCB, h1, h2]
  · rename_i i j k
    obtain ⟨u, v', w', rfl, r, r', r''⟩ := R.three
    obtain rfl := rv_int r
    obtain rfl := rv_int r'
    obtain rfl := rv_int r''
    refine call_min3Nu (hc rfl) pins s σ H _ us Q I rv ⟨_, _, _, _, rfl, ?_, now S (mk_int _) p⟩
    by_cases h1 : j < i
    · by_cases h2 : k < j <;> simp [nuMin3, nuMin2, nuLt, nuCB, h1, h2]
    · by_cases h2 : k < i <;> simp [nuMin3, nuMin2, nuLt, nuCB, h1, h2]
  · obtain ⟨v', rfl, r⟩ := R.one
    split at p
    · rename_i v i ns e
      obtain ⟨ys, e1, e2⟩ := Option.bind_eq_some_iff.mp e
      obtain ⟨a, vs, rfl, sq, rr⟩ := S.lstOf r e1
      obtain rfl := ints_ok e2 rr
      refine cr_max (hc rfl) pins s σ H _ us Q I rv ⟨a, i :: ns, rfl, sq, by simp, fun m hm hall => ?_⟩
      obtain ⟨z1, z2⟩ := maxI_mem i ns
      rw [Int.le_antisymm (z2 m hm) (hall _ z1)]
      exact now S (mk_int _) p
    · exact absurd p id
  · obtain ⟨v', rfl, r⟩ := R.one
    split at p
    · rename_i v i ns e
      obtain ⟨ys, e1, e2⟩ := Option.bind_eq_some_iff.mp e
      obtain ⟨a, vs, rfl, sq, rr⟩ := S.lstOf r e1
      obtain rfl := ints_ok e2 rr
      refine cr_min (hc rfl) pins s σ H _ us Q I rv ⟨a, i :: ns, rfl, sq, by simp, fun m hm hall => ?_⟩
      obtain ⟨z1, z2⟩ := minI_mem i ns
      rw [Int.le_antisymm (hall _ z1) (z2 m hm)]
      exact now S (mk_int _) p
    · exact absurd p id
  · obtain ⟨v', rfl, r⟩ := R.one
    rename_i v
    cases e : seqK h v with
    | none => rw [e] at p; exact absurd p id
    | some ys =>
      rw [e] at p
      rcases seqK_cases e with e | ⟨n, kvs, rfl, en, rfl⟩
      · obtain ⟨a, vs, rfl, sq, rr⟩ := S.seqOf r e
        exact call_list_of pins s σ H _ us Q I rv ⟨a, vs, rfl, sq.imp id (·.1), (newL_ok S rr p).2⟩
      · obtain ⟨a, ea, rfl⟩ := rv_ref r
        obtain ⟨gs, hg, rg⟩ := S.dic ea en
        exact call_listD (hc rfl) pins s σ H _ us Q I rv ⟨a, gs, rfl, .inl hg, (newL_ok S (keys_of rg) p).2⟩
  · obtain ⟨v', rfl, r⟩ := R.one
    rename_i v
    cases e : seqOf h v with
    | none => rw [e] at p; exact absurd p id
    | some ys =>
      rw [e] at p
      obtain ⟨a, vs, rfl, sq, rr⟩ := S.seqOf r e
      refine call_tuple_of pins s σ H _ us Q I rv ⟨a, vs, rfl, ?_⟩
      rcases sq with sq | ⟨sq, ev⟩
      · exact .inl ⟨sq, newT_ok S rr p⟩
      · subst ev
        exact .inr ⟨sq, now S r p⟩
  · obtain ⟨v', rfl, r⟩ := R.one
    rename_i v
    cases e : (lstOf h v).bind blsOf with
    | none => rw [e] at p; exact absurd p id
    | some bs =>
      rw [e] at p
      obtain ⟨ys, e1, e2⟩ := Option.bind_eq_some_iff.mp e
      obtain ⟨a, vs, rfl, sq, rr⟩ := S.lstOf r e1
      obtain rfl := bls_ok e2 rr
      exact cr_all (hc rfl) pins s σ H _ us Q I rv ⟨a, bs, rfl, sq, now S (mk_bl _) p⟩
  · obtain ⟨v', rfl, r⟩ := R.one
    rename_i v
    cases e : (lstOf h v).bind blsOf with
    | none => rw [e] at p; exact absurd p id
    | some bs =>
      rw [e] at p
      obtain ⟨ys, e1, e2⟩ := Option.bind_eq_some_iff.mp e
      obtain ⟨a, vs, rfl, sq, rr⟩ := S.lstOf r e1
      obtain rfl := bls_ok e2 rr
      exact cr_any (hc rfl) pins s σ H _ us Q I rv ⟨a, bs, rfl, sq, now S (mk_bl _) p⟩
  · obtain ⟨v', rfl, r⟩ := R.one
    rename_i v
    cases e : (lstOf h v).bind intsOf with
    | none => rw [e] at p; exact absurd p id
    | some ns =>
      rw [e] at p
      obtain ⟨ys, e1, e2⟩ := Option.bind_eq_some_iff.mp e
      obtain ⟨a, vs, rfl, sq, rr⟩ := S.lstOf r e1
      obtain rfl := ints_ok e2 rr
      exact cr_sum (hc rfl) pins s σ H _ us Q I rv ⟨a, ns, rfl, sq, now S (mk_int _) p⟩
  · obtain ⟨v', w', rfl, r, r'⟩ := R.two
    obtain rfl := rv_int r
    obtain rfl := rv_int r'
    split at p
    · rename_i hz
      refine call_divmod pins s σ H _ us Q I rv ⟨_, _, rfl, hz, ?_⟩
      exact newT_ok S (RVs.cons (mk_int _) (RVs.cons (mk_int _) RVs.nil)) p
    · exact absurd p id
  · obtain ⟨v', rfl, r⟩ := R.one
    obtain rfl := rv_int r
    split at p
    · rename_i hz
      exact call_str_int pins s σ H _ us Q I rv ⟨_, rfl, hz, now S (mk_str _) p⟩
    · exact absurd p id
  · obtain ⟨v', rfl, r⟩ := R.one
    rename_i v
    cases e : sortK h v with
    | none =>
      rw [e] at p
      cases e2 : sortT h v with
      | none => rw [e2] at p; exact absurd p id
      | some ys =>
        rw [e2] at p
        unfold sortT at e2
        split at e2
        · rename_i xs e3
          split at e2
          · rename_i ds e4
            split at e2
            · rename_i hk
              cases e2
              obtain ⟨a, vs, rfl, sq, rr⟩ := S.lstOf r e3
              obtain ⟨l, l1, l2, l3, l4⟩ := zip3 rr (rds_dp S _ _ _ _ e4 rr)
              subst l2
              simp only [Bool.and_eq_true, List.all_eq_true, decide_eq_true_eq] at hk
              have hds : ∀ b ∈ l, b.2.2 ∈ ds := fun b hb => by rw [← l3]; exact List.mem_map_of_mem hb
              refine cr_sortD (β := Val × V × PyData) (·.2.1) (·.2.2) hu pins s σ H _ us Q I rv ⟨a, l, rfl, sq, fun b hb => (l4 b hb).2, by rw [l3]; exact fun d hd d' hd' => hk.2 d hd d' hd', fun b hb => ?_, fun b hb => (hk.1 _ (hds b hb)).2, fun q hq => ?_⟩
              · have := (hk.1 _ (hds b hb)).1
                generalize b.2.2 = d at this
                unfold isTupD at this
                split at this
                · exact ⟨_, _, rfl⟩
                · cases this
              · have es : sortB xs ds = (l.mergeSort (PySem.W.dataLe false (·.2.2))).map (·.1) := by
                  unfold sortB
                  rw [← l1, ← List.map_mergeSort (r := PySem.W.dataLe false (·.2.2)) (f := fun b : Val × V × PyData => (b.1, b.2.2)) (fun a _ b _ => rfl), List.map_map]
                  rfl
                rw [es] at p
                exact (newL_ok S (rvs_map fun b hb => (l4 b (List.mem_mergeSort.mp hb)).1) p).2 q hq
            · cases e2
          · cases e2
        · cases e2
    | some ns =>
      rw [e] at p
      rcases sortK_cases e with e | ⟨n, kvs, rfl, en, h64, ei⟩
      rotate_left
      · obtain ⟨a, ea, rfl⟩ := rv_ref r
        obtain ⟨gs, hg, rg⟩ := S.dic ea en
        have ek := ints_keys (ks := kvs.map (·.1)) (by rw [List.map_map]; exact ei)
        have hl : ns.length = kvs.length := by have := congrArg List.length ek; simpa using this.symm
        refine call_sortedDI (hc rfl) pins s σ H _ us Q I rv ⟨a, gs, ns, rfl, .inl hg, by rw [← rg.1]; exact ek, by omega, fun ns' q hp hs hq => ?_⟩
        rw [sort_uniq hp hs]
        exact (newL_ok S (RVs.ints _) p).2 q hq
      obtain ⟨ys, e1, e2⟩ := Option.bind_eq_some_iff.mp e
      obtain ⟨a, vs, rfl, sq, rr⟩ := S.lstOf r e1
      obtain rfl := ints_ok e2 rr
      refine cr_sortedI pins s σ H _ us Q I rv ⟨a, ns, rfl, sq, fun ns' q hp hs hq => ?_⟩
      rw [sort_uniq hp hs]
      exact (newL_ok S (RVs.ints _) p).2 q hq
  · exact absurd p id
variable {W : WX} {a : Expr} {es : List Expr} {das : MA} {pos p : Pos}
theorem s_bi {b : Bi} {x : Str} (hc : calmBi b = true → X.calm = true) (hu : X.A.units + 65 < cLine) (hb : biOf x = some b) (hg : Gl X x) (hm : X.mg x = none) (ha : PA X (a :: es) (GoodA L X.K W das)) (he : starEach (a :: es) X.env = (false, eval a X.env) :: starEach es X.env)
    (hpl : (backTo pos (starEach es X.env)).any (·.1) = false) : PE X (.Call (.Name x p) (a :: es) [] pos) (GoodE L X.K W (eBi b das)) := by
  obtain ⟨hv, hn, hd⟩ := biOf_boot hb
  have k : ∀ σ H Q, GoodE L X.K W (eBi b das) σ H Q → tCB (rCall L X.K (biRun b)) (GoodA L X.K W das) σ H Q := fun σ H Q G => good_call (biRun_nox b) G
  have c := bi_ok (L := L) hu b hc
  cases b
  case int => exact peImp (pe_callTy c hg hm hv ha hn hd he hpl) k
  case list => exact peImp (pe_callTy c hg hm hv ha hn hd he hpl) k
  case tuple => exact peImp (pe_callTy c hg hm hv ha hn hd he hpl) k
  case str => exact peImp (pe_callTy c hg hm hv ha hn hd he hpl) k
  all_goals exact peImp (pe_callB c hg hm hv ha hn hd he hpl) k
end
end Mp
set_option Elab.async false
set_option linter.all false
set_option maxRecDepth 100000
set_option maxHeartbeats 1000000
namespace Mp
open PySem PySem.Spec PyProof.Rows L2
/-! ### a program's defs and classes -/
structure FnD where
  ps : List Str
  dfl : List (Str × Val)
  N : List Str
  sc : Scope
  body : List Stmt
  xs : List Nat := []
  own : Bool := false
  it : Bool := false
structure ClD where
  init : Str
  meths : List (Str × Str)
  props : List (Str × Str)
  flds : List Str
  it : Option Str := none
/-- an own exception class: its __init__ (as a name), the names of its fields, what it is under -/
structure XcD where
  init : Str
  flds : List Str
  sup : List Str
/-- an __init__ of an own exception: super().__init__(f"..{p}"); self.f = copy_of(p) -/
inductive XiD where
  | txt (f : Str)
structure Pg where
  fns : List (Str × FnD)
  tops : List Str
  cls : List (Str × ClD)
  glob : List (Str × Val)
  shapes : List (Str × Nat × List Str)
  xcl : List (Str × XcD) := []
  xin : List (Str × XiD) := []
  hot : Bool := false
  own : Bool := false
  xs : List Nat := []
  it : Bool := false
inductive Src where
  | ps (i : Nat) | kw (j : Nat) | df (v : Val)
def pick1 (us ws : List Val) : Src → Option Val
  | .ps i => us[i]?
  | .kw j => ws[j]?
  | .df v => some v
def selV (us ws : List Val) : List Src → Option (List Val)
  | [] => some []
  | s :: r => match pick1 us ws s, selV us ws r with
    | some v, some vs => some (v :: vs)
    | _, _ => none
def bindGo (n : Nat) (ks : List Str) (dfl : List (Str × Val)) : Nat → List Str → Option (List Src)
  | _, [] => some []
  | i, p :: ps => match (if i < n then some (Src.ps i) else match ks.idxOf? p with
      | some j => some (Src.kw j)
      | none => (dfl.lookup p).map Src.df), bindGo n ks dfl (i + 1) ps with
    | some s, some r => some (s :: r)
    | _, _ => none
def bindV (D : FnD) (n : Nat) (ks : List Str) : Option (List Src) := bindGo n ks D.dfl 0 D.ps
abbrev CallT := Str → List Val → Mem → Res Val
def eCall (m : List Val → Mem → Res Val) (as : MA) : ME := fun ρ h => (as ρ h).bind m
def eCallS (m : List Val → Mem → Res Val) (sel : List Src) (as ks : MA) : ME := fun ρ h => (as ρ h).bind fun us h => (ks ρ h).bind fun ws h => (Res.opt (selV us ws sel) h).bind m
def dropNon (r : Res Val) (v : Val) : Res Val := match r with
  | .ok .non h => .ok v h
  | .exc c fs h => .exc c fs h
  | _ => .bad
/-- C(..): a new instance, then its __init__ -/
def mkI (m : List Val → Mem → Res Val) (c : Str) (sel : List Src) (us ws : List Val) (h : Mem) : Res Val := match selV (.ref h.length :: us) ws sel with
  | some vs => dropNon (m vs (h ++ [.ins c []])) (.ref h.length)
  | none => .bad
def eMake (m : List Val → Mem → Res Val) (c : Str) (sel : List Src) (as ks : MA) : ME := fun ρ h => (as ρ h).bind fun us h => (ks ρ h).bind fun ws h => mkI m c sel us ws h
/-! ### what is known of a def -/
section
variable (L : Lk)
/-- arguments: values; at the places xs also the exception that is handled -/
def ArgR (K : PySem.W.Frag) (xs : List Nat) (f : Nm) (H : Hp) (ts : List Val) (vs : List V) : Prop := ts.length = vs.length ∧ ∀ (i : Nat) t, ts[i]? = some t → ∃ v, vs[i]? = some v ∧ (RV L K f H t v ∨ (i ∈ xs ∧ ∃ c fs, t = .exn c fs ∧ v = .ref L.p.1 ∧ RX L K f H c fs L.p.2.cls L.p.2.dict))
theorem ArgR.of {L : Lk} {K : PySem.W.Frag} {xs : List Nat} {f : Nm} {H : Hp} {ts : List Val} {vs : List V} (r : RVs L K f H ts vs) : ArgR L K xs f H ts vs := by
  refine ⟨r.length, ?_⟩
  induction ts generalizing vs with
  | nil => intro i t e; simp at e
  | cons x ts ih =>
    unfold RVs at r
    obtain ⟨v, r', rfl, h1, h2⟩ := r
    intro i t e
    cases i with
    | zero => simp at e; subst e; exact ⟨v, rfl, .inl h1⟩
    | succ i =>
      obtain ⟨w, e1, e2⟩ := ih h2 i t (by simpa using e)
      refine ⟨w, by simpa using e1, ?_⟩
      rcases e2 with e2 | ⟨hx, c, fs, rfl, e3, e4⟩
      · exact .inl e2
      · exfalso
        have : ∀ (ts : List Val) (vs : List V) (i : Nat), RVs L K f H ts vs → ts[i]? = some (.exn c fs) → False := by
          intro ts
          induction ts with
          | nil => intro vs i _ e; simp at e
          | cons y ys ih =>
            intro vs i r e
            unfold RVs at r
            obtain ⟨v, r', rfl, h1, h2⟩ := r
            cases i with
            | zero => simp at e; subst e; unfold RV at h1; exact h1
            | succ i => exact ih _ i h2 (by simpa using e)
        exact this ts r' i h2 (by simpa using e)
def spF (K : PySem.W.Frag) (n : Nat) (xs : List Nat) (m : List Val → Mem → Res Val) : Sp := fun vs H Q E => vs.length = n ∧ ∃ f h ts, Sim L K f h H ∧ ArgR L K xs f H ts vs ∧ PostG L K (RV L K) (fun cls d _ H' => E cls d H') f [] H Q (m ts h)
def ShpOk (K : PySem.W.Frag) (fd : FuncData) (ps : List Str) (n : Nat) (ks : List Str) (sel : List Src) : Prop := ∃ g gV, KBn K fd ps n ks g gV ∧
  ∀ f H ts zs vs ws us, RVs L K f H ts vs → RVs L K f H zs ws → ts.length = n → zs.length = ks.length → selV ts zs sel = some us → RVs L K f H us (gV vs ws)
/-- a def keeps sp where X runs (also as an __init__ of a class that is called there) -/
def RunX (X : Cx) (fa : Addr) (fd : FuncData) (ps : List Str) (sp : Sp) : Prop :=
  ∀ (A : Around), (A = X.A ∨ (∃ C us kw, A = X.A.under (.builtin "type.__call__" ⟨.ref C :: us, kw⟩)) ∨ A = X.A.in1) → ∀ (pins : List (Addr × Obj)) (σ : L2.St) (H : Hp) (s : Shared), Inv X pins σ H s →
    ∀ (args : Args) (us : List Value) (vs : List V) (Q : VK) (E : XK), BindsTo s fd args (ps.zip us) → Vals vs us → sp vs H Q E → codeAny (model X.prog X.w) A (.call (.ref fa) args) (CR (L2N.CX X.prog X.w) X.stack X.prog X.w H s Q E) s
theorem runX_of {X : Cx} {fa : Addr} {fd : FuncData} {ps : List Str} {sp : Sp} {k : Nat} (F : FnOk X.prog X.w X.K X.mg X.base (L2N.CX X.prog X.w) k fa fd ps sp) (hr : Room (k + 1) X.A) : RunX X fa fd ps sp := by
  intro A hA pins σ H s I args us vs Q E hb r h
  rcases hA with rfl | ⟨C, uu, kw, rfl⟩ | rfl
  · exact F.run X.A X.stack s H args us vs Q E (hr.mono (Nat.le_succ k)) I.env0 hb r h
  · exact F.run _ X.stack s H args us vs Q E (hr.make C uu kw) (I.env0.make C uu kw) hb r h
  · exact F.run _ X.stack s H args us vs Q E hr.in1 I.env0.in1 hb r h
structure FnF (X : Cx) (Γ : Pg) (call : CallT) (g : Str) (D : FnD) : Prop where
  ex : ∃ fd, RunX X (L.F g) fd D.ps (spF L X.K D.ps.length D.xs (call g)) ∧ (X.calm = true → ∃ k, FnOk X.prog X.w X.K X.mg X.base (L2N.CX X.prog X.w) k (L.F g) fd D.ps (spF L X.K D.ps.length D.xs (call g)) ∧ Room (k + 1) X.A) ∧
    ∀ n ks sel, (g, n, ks) ∈ Γ.shapes → bindV D n ks = some sel → ShpOk L X.K fd D.ps n ks sel ∧ (ks = [] → n = D.ps.length → Binds X.K fd D.ps [])
  kp : PySem.W.keepIn X.K (.ref (L.F g)) = true
  fi : PySem.W.fnIn X.K (L.F g) = true
structure ClF (K : PySem.W.Frag) (c : Str) (C : ClD) : Prop where
  cl : Cls K (L.C c)
  mak : Mk K (L.C c) (L.F C.init)
  no : ∀ x ∈ C.flds, NoAttr K (L.C c) x
  me : ∀ p ∈ C.meths, Meth K (L.C c) p.1 (L.F p.2)
  pr : ∀ p ∈ C.props, ∃ q, PropOf K (L.C c) p.1 q (L.F p.2)
  sq : (C.meths.lookup ("__setitem__" : Str)).isSome = true → PySem.W.noSeq K (L.C c) = true
end
section
variable {L : Lk} {X : Cx} {W : WX} {pos : Pos}
/-! ### argument lists -/
def noStar : Expr → Bool
  | .Starred _ _ => false
  | _ => true
theorem star_cons {e : Expr} {es : List Expr} {env : PySem.Env} (h : noStar e = true) : starEach (e :: es) env = (false, eval e env) :: starEach es env := by
  cases e <;> first | rfl | (simp [noStar] at h)
theorem star_any {env : PySem.Env} {pos : Pos} : ∀ {es : List Expr}, es.all noStar = true → (backTo pos (starEach es env)).any (·.1) = false
  | [], _ => rfl
  | e :: es, h => by
    simp only [List.all_cons, Bool.and_eq_true] at h
    rw [star_cons h.1]
    show (false || (backTo pos (starEach es env)).any (·.1)) = false
    rw [star_any h.2]
    rfl
theorem kw_all {env : PySem.Env} {pos : Pos} : ∀ {kws : List Keyword}, kws.all (·.arg.isSome) = true → (backToKw pos (keywordEach kws env)).all (·.1.isSome) = true ∧ (backToKw pos (keywordEach kws env)).any (·.1.isNone) = false ∧
    (backToKw pos (keywordEach kws env)).filterMap (·.1) = kws.filterMap (·.arg)
  | [], _ => ⟨rfl, rfl, rfl⟩
  | ⟨nm, e, p⟩ :: kws, h => by
    simp only [List.all_cons, Bool.and_eq_true] at h
    obtain ⟨h1, h2, h3⟩ := kw_all (env := env) (pos := pos) h.2
    cases nm with
    | none => simp at h
    | some x =>
      refine ⟨?_, ?_, ?_⟩
      · show ((some x).isSome && (backToKw pos (keywordEach kws env)).all (·.1.isSome)) = true
        rw [h1]; rfl
      · show ((some x).isNone || (backToKw pos (keywordEach kws env)).any (·.1.isNone)) = false
        rw [h2]; rfl
      · show x :: (backToKw pos (keywordEach kws env)).filterMap (·.1) = x :: kws.filterMap (·.arg)
        rw [h3]
theorem pkImp {X : Cx} {e : List Keyword} {t t' : TA} (h : PK X e t) (i : ∀ σ H Q, t' σ H Q → t σ H Q) : PK X e t' := ⟨fun pos pins s σ H Q I q => h.run pos pins s σ H Q I (i σ H Q q)⟩
theorem k_nil : PK X [] (GoodA L X.K W aNil) := pkImp pk_nil fun σ H Q ⟨f, ρ, h, S, E, p⟩ => p f H [] (Ext.refl _ _) S RVs.nil
theorem k_cons {nm : Option Str} {e : Expr} {kp : Pos} {kws : List Keyword} {da : ME} {das : MA} (ha : PE X e (GoodE L X.K W da)) (hr : PK X kws (GoodA L X.K W das)) : PK X (⟨nm, e, kp⟩ :: kws) (GoodA L X.K W (aCons da das)) := by
  refine pkImp (pk_cons ha hr) fun σ H Q ⟨f, ρ, h, S, E, p⟩ => ?_
  refine ⟨f, ρ, h, S, E, (PostG.bind (R := RV L X.K) p).imp fun x' H1 ⟨f1, x, h1, e1, X1, S1, R1, p1⟩ => ?_⟩
  refine ⟨f1, ρ, h1, S1, E.mono S X1, (PostG.bind (R := RVs L X.K) p1).imp fun xs' H2 ⟨f2, xs, h2, e2, X2, S2, R2, p2⟩ => ?_⟩
  exact p2 f2 H2 _ (Ext.refl _ _) S2 (RVs.cons (R1.mono S1 X2) R2)
theorem goodA_nil {σ : L2.St} {H : Hp} {Q : List V → Hp → Prop} {das : MA} (e : das = aNil) (G : GoodA L X.K W das σ H Q) : Q [] H := by
  subst e
  obtain ⟨f, ρ, h, S, E, p⟩ := G
  exact p f H [] (Ext.refl _ _) S RVs.nil
/-- the arguments of a call, then the call -/
theorem call_args {fv : Value} {first : List Value} {es : List Expr} {kws : List Keyword} {das dks : MA} (hk : PySem.W.keepIn X.K fv = true) (ha : PA X es (GoodA L X.K W das)) (hkw : PK X kws (GoodA L X.K W dks)) (hst : es.all noStar = true) (hnm : kws.all (·.arg.isSome) = true)
    (hz : es = [] → das = aNil) (hz2 : kws = [] → dks = aNil) {pins : List (Addr × Obj)} {s : Shared} {σ : L2.St} {H : Hp} {Q : Value → Shared → Prop} (I : Inv X pins σ H s)
    (h : GoodA L X.K W das σ H fun vs H1 => GoodA L X.K W dks σ H1 fun zs H2 => ∀ s2 us ws, Inv X pins σ H2 s2 → Vals vs us → Vals zs ws → wpAny (model X.prog X.w) X.A (call fv (first ++ us) ((kws.filterMap (·.arg)).zip ws)) Q X.xe s2) :
    wpAny (model X.prog X.w) X.A (callWith pos fv first (backTo pos (starEach es X.env)) (backToKw pos (keywordEach kws X.env))) Q X.xe s := by
  obtain ⟨k1, k2, k3⟩ := kw_all (env := X.env) (pos := pos) hnm
  have hany := star_any (env := X.env) (pos := pos) hst
  cases es with
  | nil =>
    have h2 := goodA_nil (hz rfl) h
    cases kws with
    | nil => exact PySem.W.callWith_K0 I.kIn hk (goodA_nil (hz2 rfl) h2 s [] [] I .nil .nil)
    | cons k kws =>
      refine PySem.W.callWith_KW0 (h₀ := X.base) I.ok.mod.kin hk k1 (thn (hkw.run pos pins s σ H _ I h2) fun ws s2 ⟨zs, H2, I2, rz, q2⟩ => ⟨I2.kIn, ?_⟩) (by rw [k2]; rfl)
      rw [k3]
      exact q2 s2 [] ws I2 .nil rz
  | cons e es =>
    simp only [List.all_cons, Bool.and_eq_true] at hst
    cases kws with
    | nil =>
      refine PySem.W.callWith_K (h₀ := X.base) I.ok.mod.kin hk (thn (ha.run pos pins s σ H _ I h) fun us s1 ⟨vs, H1, I1, r, q⟩ => ⟨I1.kIn, ?_⟩) (star_cons hst.1) (star_any hst.2)
      exact goodA_nil (hz2 rfl) q s1 us [] I1 r .nil
    | cons k kws =>
      refine PySem.W.callWith_KW (h₀ := X.base) I.ok.mod.kin hk k1 (thn (ha.run pos pins s σ H _ I h) fun us s1 ⟨vs, H1, I1, r, q⟩ => ?_) (by rw [k2, hany]; rfl) (star_cons hst.1)
      refine thn (hkw.run pos pins s1 σ H1 _ I1 q) fun ws s2 ⟨zs, H2, I2, rz, q2⟩ => ⟨I2.kIn, ?_⟩
      rw [k3]
      exact q2 s2 us ws I2 r rz
/-! ### a def runs -/
theorem run_shapeA {A : Around} (hA : A = X.A ∨ A = X.A.in1) {n : Nat} {fa : Addr} {fd : FuncData} {ps ks : List Str} {sp : Sp} {E : L2.St → XK} {g : List Value → List Value → List Value} {gV : List V → List V → List V} {pins : List (Addr × Obj)} {σ : L2.St} {H : Hp} {s : Shared} {Q : VK} {us ws : List Value} {vs zs : List V}
    (F : RunX X fa fd ps sp) (hb : KBn X.K fd ps n ks g gV) (hx : PassesAt (L2N.CX X.prog X.w) X σ (E σ)) (I : Inv X pins σ H s) (r : Vals vs us) (rz : Vals zs ws) (l1 : vs.length = n) (l2 : zs.length = ks.length) (h : sp (gV vs zs) H Q (E σ)) :
    wpAny (model X.prog X.w) A (call (.ref fa) us (ks.zip ws)) (EP X pins σ Q) X.xe s := by
  have r2 := hb.rel r rz
  refine wpAny_call (codeAny_mono (F A (hA.elim .inl fun z => .inr (.inr z)) pins σ H s I ⟨us, ks.zip ws⟩ (g us ws) (gV vs zs) Q (E σ) (hb.to s us ws I.kIn (r.length.symm.trans l1) (rz.length.symm.trans l2)) r2 h) fun r s' hq => ?_)
  cases r with
  | error e => exact hx pins H s e s' I hq
  | ok fl =>
    cases fl with
    | ret u => exact I.after hq
    | next => exact False.elim hq
    | brk => exact False.elim hq
    | cont => exact False.elim hq
theorem run_shape {n : Nat} {fa : Addr} {fd : FuncData} {ps ks : List Str} {sp : Sp} {E : L2.St → XK} {g : List Value → List Value → List Value} {gV : List V → List V → List V} {pins : List (Addr × Obj)} {σ : L2.St} {H : Hp} {s : Shared} {Q : VK} {us ws : List Value} {vs zs : List V}
    (F : RunX X fa fd ps sp) (hb : KBn X.K fd ps n ks g gV) (hx : PassesAt (L2N.CX X.prog X.w) X σ (E σ)) (I : Inv X pins σ H s) (r : Vals vs us) (rz : Vals zs ws) (l1 : vs.length = n) (l2 : zs.length = ks.length) (h : sp (gV vs zs) H Q (E σ)) :
    wpAny (model X.prog X.w) X.A (call (.ref fa) us (ks.zip ws)) (EP X pins σ Q) X.xe s :=
  run_shapeA (.inl rfl) F hb hx I r rz l1 l2 h
theorem run_makeN {n : Nat} {C fa : Addr} {fd : FuncData} {ps ks : List Str} {sp : Sp} {E : L2.St → XK} {g : List Value → List Value → List Value} {gV : List V → List V → List V} {pins : List (Addr × Obj)} {σ : L2.St} {H : Hp} {s : Shared} {Q : VK} {us ws : List Value} {vs zs : List V}
    (M : Mk X.K C fa) (F : RunX X fa fd ps sp) (hb : KBn X.K fd ps (n + 1) ks g gV) (hx : PassesAt (L2N.CX X.prog X.w) X σ (E σ)) (I : Inv X pins σ H s) (r : Vals vs us) (rz : Vals zs ws) (l1 : vs.length = n) (l2 : zs.length = ks.length)
    (h : ∀ x dx, H x = none → H dx = none → dx ≠ x → sp (gV (.ref x :: vs) zs) (upd (upd H dx (.own x)) x (.ins C dx [])) (fun v H2 => v = .non ∧ Q (.ref x) H2) (E σ)) :
    wpAny (model X.prog X.w) X.A (call (.ref C) us (ks.zip ws)) (EP X pins σ Q) X.xe s := by
  have hq := h (s.heap.objs.size + 1) s.heap.objs.size (I.hok.fresh (Nat.le_succ _)) (I.hok.fresh (Nat.le_refl _)) (Nat.ne_of_lt (Nat.lt_succ_self _))
  have I2 := Inv.made (C := C) I
  have r1 : Vals (V.ref (s.heap.objs.size + 1) :: vs) (Value.ref (s.heap.objs.size + 1) :: us) := .cons rfl r
  have r2 := hb.rel r1 rz
  have bt := hb.to _ (Value.ref (s.heap.objs.size + 1) :: us) ws I2.kIn (by rw [List.length_cons, ← r.length, l1]) (rz.length.symm.trans l2)
  refine wpAny_call (make_map (f := fa) I.kIn M.makes M.init (beq_iff_eq.mp M.fn) (codeAny_mono (F _ (.inr (.inl ⟨C, us, ks.zip ws, rfl⟩)) pins σ _ _ I2 ⟨Value.ref (s.heap.objs.size + 1) :: us, ks.zip ws⟩ _ _ _ (E σ) bt r2 hq) fun r s' hq' => ?_))
  cases r with
  | error e => exact hx pins _ _ e s' I2 hq'
  | ok fl =>
    cases fl with
    | ret u =>
      obtain ⟨v, H', I3, rv, ev, q3⟩ := I2.after hq'
      subst ev
      exact ⟨rv, ⟨V.ref (s.heap.objs.size + 1), H', I3, rfl, q3⟩⟩
    | next => exact False.elim hq'
    | brk => exact False.elim hq'
    | cont => exact False.elim hq'
/-- the promise of a def, met -/
theorem sp_of {K : PySem.W.Frag} {f : Nm} {h : Mem} {H : Hp} {σ : L2.St} {n : Nat} {xs : List Nat} {m : List Val → Mem → Res Val} {ts : List Val} {vs : List V} {Q : VK} (S : Sim L K f h H) (r : RVs L K f H ts vs) (hl : ts.length = n) (p : PostG L K (RV L K) W f σ H Q (m ts h)) :
    spF L K n xs m vs H Q (WE W σ) := by
  refine ⟨by rw [← r.length]; exact hl, f, h, ts, S, ArgR.of r, ?_⟩
  cases e : m ts h with
  | ok v h' => rw [e] at p; exact p
  | exc c fs h' => rw [e] at p; exact p
  | bad => rw [e] at p; exact p
theorem selV_len {us ws : List Val} : ∀ {sel : List Src} {vs : List Val}, selV us ws sel = some vs → vs.length = sel.length
  | [], vs, e => by simp [selV] at e; subst e; rfl
  | s :: r, vs, e => by
    simp only [selV] at e
    split at e
    · rename_i v ws e1 e2
      cases e
      rw [List.length_cons, List.length_cons, selV_len e2]
    · cases e
theorem bindGo_len {n : Nat} {ks : List Str} {dfl : List (Str × Val)} : ∀ {ps : List Str} {i : Nat} {sel : List Src}, bindGo n ks dfl i ps = some sel → sel.length = ps.length
  | [], _, sel, e => by simp [bindGo] at e; subst e; rfl
  | p :: ps, i, sel, e => by
    simp only [bindGo] at e
    split at e
    · rename_i s r e1 e2
      cases e
      rw [List.length_cons, List.length_cons, bindGo_len e2]
    · cases e
section
variable {Γ : Pg} {call : CallT} {g : Str} {D : FnD} {k : Nat} {es : List Expr} {kws : List Keyword} {das dks : MA} {sel : List Src} {p : Pos}
/-- f(..) of a def of the module -/
theorem s_callS (tk : L2N.Takes X W) (F : FnF L X Γ call g D) (hg : Gl X g) (hm : X.mg g = some (.ref (L.F g))) (hdb : (g == ("__debug__" : Str)) = false) (ha : PA X es (GoodA L X.K W das)) (hkw : PK X kws (GoodA L X.K W dks))
    (hst : es.all noStar = true) (hnm : kws.all (·.arg.isSome) = true) (hz : es = [] → das = aNil) (hz2 : kws = [] → dks = aNil) (hl : ∀ ρ h us h', das ρ h = .ok us h' → us.length = es.length) (hl2 : ∀ ρ h us h', dks ρ h = .ok us h' → us.length = kws.length)
    (hsh : (g, es.length, kws.filterMap (·.arg)) ∈ Γ.shapes) (hb : bindV D es.length (kws.filterMap (·.arg)) = some sel) (hkl : (kws.filterMap (·.arg)).length = kws.length) :
    PE X (.Call (.Name g p) es kws pos) (GoodE L X.K W (eCallS (call g) sel das dks)) := by
  refine ⟨fun pins s σ H Q I ⟨f, ρ, h, S, E, pp⟩ => ?_⟩
  refine wpAny_Call_Name_kw (ld_glob I hg hm ?_ hdb)
  obtain ⟨fd, Fo, _, Sh⟩ := F.ex
  obtain ⟨⟨gg, gV, kb, rel⟩, _⟩ := Sh _ _ _ hsh hb
  refine call_args (L := L) (W := W) F.kp ha hkw hst hnm hz hz2 I ⟨f, ρ, h, S, E, (PostG.bind (R := RVs L X.K) pp).imp fun vs H1 ⟨f1, us, h1, e1, X1, S1, R1, p1⟩ => ?_⟩
  refine ⟨f1, ρ, h1, S1, E.mono S X1, (PostG.bind (R := RVs L X.K) p1).imp fun zs H2 ⟨f2, ws, h2, e2, X2, S2, R2, p2⟩ => ?_⟩
  intro s2 uu ww I2 ru rw'
  cases es2 : selV us ws sel with
  | none => rw [es2] at p2; exact absurd p2 id
  | some ts =>
    rw [es2, Res.opt_some, Res.bind_ok] at p2
    have l1 := hl _ _ _ _ e1
    have l2 := hl2 _ _ _ _ e2
    have R1' := R1.mono S1 X2
    have RR := rel f2 H2 us ws vs zs ts R1' R2 l1 (by rw [l2, hkl]) es2
    refine run_shape (us := uu) (ws := ww) Fo kb (L2N.passAt tk σ) I2 ru rw' (by rw [← R1'.length, l1]) (by rw [← R2.length, l2, hkl]) ?_
    refine sp_of S2 RR ?_ p2
    rw [selV_len es2, bindGo_len hb]
/-- .. every parameter by position -/
theorem selV_id {us : List Val} : ∀ {m : Nat} {sel : List Src} {ps : List Str} {dfl : List (Str × Val)}, bindGo us.length [] dfl m ps = some sel → m + ps.length = us.length → selV us [] sel = some (us.drop m)
  | m, sel, [], dfl, e, hl => by
    simp [bindGo] at e
    subst e
    have : us.drop m = [] := List.drop_eq_nil_of_le (by simp at hl; omega)
    rw [this]
    rfl
  | m, sel, p :: ps, dfl, e, hl => by
    have hm : m < us.length := by rw [List.length_cons] at hl; omega
    simp only [bindGo, if_pos hm] at e
    split at e
    · rename_i s r e1 e2
      cases e1
      cases e
      have ih := selV_id e2 (by rw [List.length_cons] at hl; omega)
      simp only [selV, pick1]
      rw [ih, List.getElem?_eq_getElem hm]
      show some (us[m] :: us.drop (m + 1)) = _
      rw [← List.drop_eq_getElem_cons hm]
    · cases e
theorem s_call (tk : L2N.Takes X W) (F : FnF L X Γ call g D) (hg : Gl X g) (hm : X.mg g = some (.ref (L.F g))) (hdb : (g == ("__debug__" : Str)) = false) (ha : PA X es (GoodA L X.K W das))
    (hst : es.all noStar = true) (hz : es = [] → das = aNil) (hl : ∀ ρ h us h', das ρ h = .ok us h' → us.length = es.length)
    (hsh : (g, es.length, []) ∈ Γ.shapes) (hn : es.length = D.ps.length) :
    PE X (.Call (.Name g p) es [] pos) (GoodE L X.K W (eCall (call g) das)) := by
  cases hb : bindV D es.length [] with
  | none =>
    exfalso
    have : ∀ (ps : List Str) (i m : Nat), i + ps.length ≤ m → bindGo m [] D.dfl i ps ≠ none := by
      intro ps
      induction ps with
      | nil => intro i m _ e; simp [bindGo] at e
      | cons q qs ih =>
        intro i m hm e
        rw [List.length_cons] at hm
        have hi : i < m := by omega
        simp only [bindGo, if_pos hi] at e
        have i2 := ih (i + 1) m (by omega)
        cases z : bindGo m [] D.dfl (i + 1) qs with
        | none => exact i2 z
        | some r => rw [z] at e; cases e
    exact this D.ps 0 es.length (by omega) hb
  | some sel =>
    refine peImp (s_callS (dks := aNil) tk F hg hm hdb ha k_nil hst rfl hz (fun _ => rfl) hl (fun ρ h us h' e => by cases e; rfl) hsh hb rfl) fun σ H Q ⟨f, ρ, h, S, E, p⟩ => ⟨f, ρ, h, S, E, ?_⟩
    unfold eCallS
    unfold eCall at p
    cases e : das ρ h with
    | bad => rw [e] at p; exact p
    | exc c fs h' => rw [e] at p; exact p
    | ok us h1 =>
      rw [e] at p
      show PostG L X.K (RV L X.K) W f σ H Q ((Res.opt (selV us [] sel) h1).bind (call g))
      have l1 := hl _ _ _ _ e
      have := selV_id (us := us) (m := 0) (sel := sel) (ps := D.ps) (dfl := D.dfl) (by rw [l1]; exact hb) (by rw [l1, hn]; simp)
      rw [this, List.drop_zero]
      exact p
end
end
end Mp
set_option Elab.async false
set_option linter.all false
set_option maxRecDepth 100000
set_option maxHeartbeats 1000000
namespace Mp
open PySem PySem.Spec PyProof.Rows L2
/-! ### the machine: attributes, methods, isinstance, slices -/
def putFd (x : Str) (v : Val) : List (Str × Val) → List (Str × Val)
  | [] => [(x, v)]
  | (g, w) :: r => if g = x then (g, v) :: r else (g, w) :: putFd x v r
def attrOf (Γ : Pg) (call : CallT) (x : Str) (v : Val) (h : Mem) : Res Val := match v with
  | .ref n => match h[n]? with
    | some (.ins c fs) => match Γ.cls.lookup c with
      | some C => match C.props.lookup x with
        | some g => (call g [v] h).shut
        | none => if C.flds.contains x then Res.opt (fs.lookup x) h else .bad
      | none => .bad
    | _ => .bad
  | _ => .bad
def eAttr (Γ : Pg) (call : CallT) (x : Str) (a : ME) : ME := e1 (attrOf Γ call x) a
def setAttrM (Γ : Pg) (x : Str) (o v : Val) (h : Mem) : Res Val := match o with
  | .ref n => match h[n]? with
    | some (.ins c fs) => match Γ.cls.lookup c with
      | some C => if C.flds.contains x && decide (fs.length < 1000) then .ok .non (h.set n (.ins c (putFd x v fs))) else .bad
      | none => .bad
    | _ => .bad
  | _ => .bad
def sSetAttr (Γ : Pg) (x : Str) (o e : ME) : MS := fun ρ h => onE (e ρ h) ρ fun v h => onE (o ρ h) ρ fun ov h => onE (setAttrM Γ x ov v h) ρ fun _ h => .ok (.nx ρ) h
def sAugAttr (Γ : Pg) (x : Str) (o : ME) (op : Operator) (e : ME) : MS := fun ρ h => onE (o ρ h) ρ fun ov h => match ov with
  | .ref n => match h[n]? with
    | some (.ins c fs) => match Γ.cls.lookup c with
      | some C => if C.flds.contains x then (match fs.lookup x with
        | some v => onE (e ρ h) ρ fun y h => onE (augop op v y h) ρ fun z h => match h[n]? with
          | some (.ins c' fs') => if c' = c ∧ fs'.length < 1000 then .ok (.nx ρ) (h.set n (.ins c' (putFd x z fs'))) else .bad
          | _ => .bad
        | none => .bad) else .bad
      | none => .bad
    | _ => .bad
  | _ => .bad
/-- the methods of a list -/
inductive Lm where
  | append | extend | pop | clear | reverse | remove | index | insert | count
def lmTab : List (Str × Lm) := [("append", .append), ("extend", .extend), ("pop", .pop), ("clear", .clear), ("reverse", .reverse), ("remove", .remove), ("index", .index), ("insert", .insert), ("count", .count)]
def lmOf (m : Str) : Option Lm := lmTab.lookup m
def lmRun (m : Lm) (n : Nat) (args : List Val) (h : Mem) : Res Val := match h[n]? with
  | some (.lst xs) => match m, args with
    | .append, [y] => if xs.length < sizeLine then .ok .non (h.set n (.lst (xs ++ [y]))) else .bad
    | .extend, [.ref b] => match h[b]? with
      | some (.lst zs) => if xs.length + zs.length ≤ sizeLine then .ok .non (h.set n (.lst (xs ++ zs))) else .bad
      | _ => .bad
    | .pop, [] => match xs[xs.length - 1]? with
      | some y => .ok y (h.set n (.lst xs.dropLast))
      | none => .bad
    | .pop, [.int i] => match ixN xs.length i with
      | some k => match xs[k]? with
        | some y => .ok y (h.set n (.lst (xs.eraseIdx k)))
        | none => .bad
      | none => .bad
    | .clear, [] => .ok .non (h.set n (.lst []))
    | .reverse, [] => .ok .non (h.set n (.lst xs.reverse))
    | .remove, [.int i] => match intsOf xs with
      | some ns => if i ∈ ns then .ok .non (h.set n (.lst ((ns.erase i).map .int))) else .bad
      | none => .bad
    | .index, [y] => if (flat y && xs.all flat) = true then (match xs.findIdx? (fun z => eqF z y) with
      | some j => .ok (.int (j : Nat)) h
      | none => .bad) else .bad
    | .insert, [.int i, y] => if xs.length < sizeLine ∧ 0 ≤ i ∧ i < 2 ^ 63 then .ok .non (h.set n (.lst (xs.take i.toNat ++ [y] ++ xs.drop i.toNat))) else .bad
    | .count, [.int i] => match intsOf xs with
      | some ns => .ok (.int ((ns.count i : Nat) : Int)) h
      | none => .bad
    | _, _ => .bad
  | _ => .bad
/-- a def called with n values by position and the keywords ks -/
def callBy (Γ : Pg) (call : CallT) (g : Str) (n : Nat) (ks : List Str) (us ws : List Val) (h : Mem) : Res Val := match Γ.fns.lookup g with
  | some D => if decide ((g, n, ks) ∈ Γ.shapes) then (match bindV D n ks with
    | some sel => (Res.opt (selV us ws sel) h).bind (call g)
    | none => .bad) else .bad
  | none => .bad
/-- d.pop(k) -/
def dPop (a : Nat) (us : List Val) (h : Mem) : Res Val := match us with
  | [y] => match h[a]? with
    | some (.dic kvs) => match keyOf y with
      | some k => match dGet kvs k with
        | some v => .ok v (h.set a (.dic (dDrop kvs k)))
        | none => .bad
      | none => .bad
    | _ => .bad
  | _ => .bad
/-- d.get(k, x) -/
def dGetM (a : Nat) (us : List Val) (h : Mem) : Res Val := match us with
  | [y, d] => match h[a]? with
    | some (.dic kvs) => match keyOf y with
      | some k => .ok ((dGet kvs k).getD d) h
      | none => .bad
    | _ => .bad
  | _ => .bad
/-- sep.join(xs) -/
def strsOf : List Val → Option (List Str)
  | [] => some []
  | .str z :: xs => (strsOf xs).map (z :: ·)
  | _ => none
def sJoin (z : Str) (us : List Val) (h : Mem) : Res Val := match us with
  | [v] => match (lstOf h v).bind strsOf with
    | some ys => if (ys.map (·.length)).sum + ys.length * z.length ≤ 16777216 then .ok (.str (Txt.join z ys)) h else .bad
    | none => .bad
  | _ => .bad
/-- the methods of a text -/
inductive Sm where
  | join | find | rfind | startswith | endswith | count | upper | split
def smTab : List (Str × Sm) := [("join", .join), ("find", .find), ("rfind", .rfind), ("startswith", .startswith), ("endswith", .endswith), ("count", .count), ("upper", .upper), ("split", .split)]
def smOf (m : Str) : Option Sm := smTab.lookup m
def smRun (m : Sm) (z : Str) (us : List Val) (h : Mem) : Res Val := match m, us with
  | .join, us => sJoin z us h
  | .find, [.str b] => .ok (.int (Txt.find z b)) h
  | .rfind, [.str b] => .ok (.int (Txt.rfind z b)) h
  | .startswith, [.str b] => .ok (.bl (Txt.startswith z b)) h
  | .endswith, [.str b] => .ok (.bl (Txt.endswith z b)) h
  | .count, [.str b] => .ok (.int (Txt.count z b)) h
  | .upper, [] => if z.length ≤ 5592405 then .ok (.str (Txt.upper z)) h else .bad
  | .split, [.str b] => if (b.length == 0) = false ∧ z.length + 2 ≤ sizeLine then newL ((Txt.split z b).map .str) h else .bad
  | .split, [] => if z.length + 2 ≤ sizeLine then newL ((Txt.words z).map .str) h else .bad
  | _, _ => .bad
/-- t.index(a text), t a tuple of texts -/
def tIndex (ts : List Val) (us : List Val) (h : Mem) : Res Val := match us with
  | [.str z] => match strsOf ts with
    | some ys => match ys.findIdx? (fun y => decide (y = z)) with
      | some j => .ok (.int (j : Nat)) h
      | none => .bad
    | none => .bad
  | _ => .bad
/-- NAME.index(a text), NAME a tuple of the program -/
def eTIdx (ts : List Val) (a : ME) : ME := fun ρ h => (a ρ h).bind fun v h => tIndex ts [v] h
/-- such a tuple has no attributes of its own -/
def TupPl (K : PySem.W.Frag) (v : Val) (v' : V) : Prop := ∀ ts, v = .tup ts → ∃ a o, v' = .ref a ∧ K.lookup a = some o ∧ o.cls = .type "tuple" ∧ o.dict = none
/-- o.m(..): the object decides -/
def methBy (Γ : Pg) (call : CallT) (m : Str) (n : Nat) (ks : List Str) (as kas : MA) (ρ : Env) (v : Val) (h : Mem) : Res Val := match v with
  | .ref a => match h[a]? with
    | some (.ins c fs) => match Γ.cls.lookup c with
      | some C => match C.meths.lookup m with
        | some g => if (fs.lookup m).isNone then (as ρ h).bind fun us h => (kas ρ h).bind fun ws h => callBy Γ call g (n + 1) ks (v :: us) ws h else .bad
        | none => .bad
      | none => .bad
    | some (.lst _) => match lmOf m, ks with
      | some k, [] => (as ρ h).bind fun us h => lmRun k a us h
      | _, _ => .bad
    | some (.dic _) => match ks with
      | [] => if m = "pop" then (as ρ h).bind fun us h => dPop a us h else if m = "get" then (as ρ h).bind fun us h => dGetM a us h else .bad
      | _ => .bad
    | _ => .bad
  | .str z => match ks with
    | [] => match smOf m with
      | some k => (as ρ h).bind fun us h => smRun k z us h
      | none => .bad
    | _ => .bad
  | _ => .bad
/-- x in o, x not in o: o may be an object -/
def inM (Γ : Pg) (call : CallT) (neg : Bool) (x y : Val) (h : Mem) : Res Val := match y with
  | .ref n => match h[n]? with
    | some (.ins c _) => match Γ.cls.lookup c with
      | some C => match C.meths.lookup ("__contains__" : Str) with
        | some g => match callBy Γ call g 2 [] [y, x] [] h with
          | .ok (.bl b) h => .ok (.bl (b != neg)) h
          | _ => .bad
        | none => .bad
      | none => .bad
    | _ => cmpR (if neg then .NotIn else .In) x y h
  | _ => cmpR (if neg then .NotIn else .In) x y h
/-- o[i]: o may be an object -/
def idxM (Γ : Pg) (call : CallT) (x y : Val) (h : Mem) : Res Val := match x with
  | .ref n => match h[n]? with
    | some (.ins c _) => match Γ.cls.lookup c with
      | some C => match C.meths.lookup ("__getitem__" : Str) with
        | some g => callBy Γ call g 2 [] [.ref n, y] [] h
        | none => .bad
      | none => .bad
    | _ => Res.opt (idx h (.ref n) y) h
  | x => Res.opt (idx h x y) h
def eIdxM (Γ : Pg) (call : CallT) (a b : ME) : ME := e2 (idxM Γ call) a b
def idleV (r : Res Val) : Res Val := match r with
  | .ok _ h => .ok .non h
  | r => r
/-- o[i] = v: o may be an object -/
def setIdxM (Γ : Pg) (call : CallT) (o i v : Val) (h : Mem) : Res Val := match o with
  | .ref n => match h[n]? with
    | some (.ins c _) => match Γ.cls.lookup c with
      | some C => match C.meths.lookup ("__setitem__" : Str) with
        | some g => idleV (callBy Γ call g 3 [] [.ref n, i, v] [] h)
        | none => .bad
      | none => .bad
    | _ => setIdx (.ref n) i v h
  | o => setIdx o i v h
def sSetIdxM (Γ : Pg) (call : CallT) (o i e : ME) : MS := fun ρ h => onE (e ρ h) ρ fun v h => onE (o ρ h) ρ fun ov h => onE (i ρ h) ρ fun iv h => onE (setIdxM Γ call ov iv v h) ρ fun _ h => .ok (.nx ρ) h
def eIn (Γ : Pg) (call : CallT) (neg : Bool) (a b : ME) : ME := e2 (inM Γ call neg) a b
def eMeth (Γ : Pg) (call : CallT) (m : Str) (n : Nat) (ks : List Str) (o : ME) (as kas : MA) : ME := fun ρ h => (o ρ h).bind fun v h => methBy Γ call m n ks as kas ρ v h
/-- the built-in type of a value -/
def tyOf (h : Mem) : Val → Option String
  | .non => some "NoneType"
  | .bl _ => some "bool"
  | .int _ => some "int"
  | .str _ => some "str"
  | .tup _ => some "tuple"
  | .ref n => match h[n]? with
    | some (.lst _) => some "list"
    | some (.rol _) => some "list"
    | _ => none
  | .fn _ => none
  | .exn _ _ => none
def tyNames : List (Str × String) := [("int", "int"), ("bool", "bool"), ("str", "str"), ("list", "list"), ("tuple", "tuple"), ("dict", "dict")]
def subTy (t T : String) : Bool := t == T || (t == "bool" && T == "int")
def isiV (Ts : List String) (v : Val) (h : Mem) : Res Val := match tyOf h v with
  | some t => .ok (.bl (Ts.any (subTy t))) h
  | none => .bad
def eIsi (Ts : List String) (a : ME) : ME := e1 (isiV Ts) a
def cut {α : Type} (xs : List α) (lo hi : Option Int) : List α := (xs.drop (HT.sIx xs.length 0 lo)).take (HT.sIx xs.length xs.length hi - HT.sIx xs.length 0 lo)
def sliceV (v : Val) (lo hi : Option Int) (h : Mem) : Res Val := match v with
  | .tup ts => .ok (.tup (cut ts lo hi)) h
  | .str z => if z.length ≤ sizeLine then .ok (.str (Txt.slice z lo hi)) h else .bad
  | .ref n => match h[n]? with
    | some (.lst xs) => newL (cut xs lo hi) h
    | some (.rol xs) => newL (cut xs lo hi) h
    | _ => .bad
  | _ => .bad
abbrev MO := Env → Mem → Res (Option Int)
def oNone : MO := fun _ h => .ok none h
def oSome (e : ME) : MO := fun ρ h => (e ρ h).bind fun v h => match v with
  | .int i => .ok (some i) h
  | _ => .bad
def eSlice (a : ME) (lo hi : MO) : ME := fun ρ h => (a ρ h).bind fun v h => (lo ρ h).bind fun l h => (hi ρ h).bind fun u h => sliceV v l u h
def rgOk (a b : Int) : Bool := small62 a && small62 b && decide ((b - a).toNat ≤ 2 ^ 24)
def rgL (a b : Int) : List Val := (List.range (b - a).toNat).map fun i => .int (a + (i : Nat))
/-- list(range(..)) -/
def eListR1 (a : ME) : ME := e1 (fun v h => match v with
  | .int j => if rgOk 0 j then newL (rgL 0 j) h else .bad
  | _ => .bad) a
def eListR2 (a b : ME) : ME := e2 (fun v u h => match v, u with
  | .int i, .int j => if rgOk i j then newL (rgL i j) h else .bad
  | _, _ => .bad) a b
section
variable {L : Lk} {X : Cx} {W : WX} {pos : Pos} {a b c : Expr} {da db dc : ME} {Γ : Pg} {call : CallT} {k : Nat}
theorem Res.shut_post {K : PySem.W.Frag} {f : Nm} {σ : L2.St} {H : Hp} {Q : VK} {r : Res Val} (p : PostG L K (RV L K) W f σ H Q r.shut) : PostG L K (RV L K) WF f σ H Q r := by
  cases r with
  | ok v h => exact p
  | exc c fs h => exact absurd p id
  | bad => exact p
theorem base_ok {o : Expr} {x : Str} (h : (match o with | .Call (.Name _ _) [] [] _ => false | _ => true) = true) : attributeBase o x X.env (eval o X.env) = eval o X.env := by
  unfold attributeBase
  split
  · simp at h
  · rfl
theorem rf_get {K : PySem.W.Frag} {f : Nm} {H : Hp} {x : Str} : ∀ {fs : List (Str × Val)} {gs : List (Str × V)}, RFs L K f H fs gs → (∀ v, fs.lookup x = some v → ∃ v', gs.lookup x = some v' ∧ RV L K f H v v') ∧ (fs.lookup x = none → gs.lookup x = none)
  | [], gs, r => by
    obtain ⟨r1, r2⟩ := r
    have : gs = [] := by cases gs <;> simp at r1 ⊢
    subst this
    exact ⟨fun v e => (by cases e), fun _ => rfl⟩
  | (g, w) :: fs, gs, r => by
    obtain ⟨r1, r2⟩ := r
    cases gs with
    | nil => simp at r1
    | cons q gs =>
      obtain ⟨g', w'⟩ := q
      simp only [List.map_cons, List.cons.injEq] at r1
      obtain ⟨rfl, r1⟩ := r1
      simp only [List.map_cons] at r2
      unfold RVs at r2
      obtain ⟨v0, q0, e0, z1, z2⟩ := r2
      simp only [List.cons.injEq] at e0
      obtain ⟨e1, e2⟩ := e0
      subst e1
      subst e2
      obtain ⟨i1, i2⟩ := rf_get (x := x) (fs := fs) (gs := gs) ⟨r1, z2⟩
      by_cases hx : (x == g) = true
      · simp only [List.lookup_cons, hx]
        exact ⟨fun v e => by cases e; exact ⟨w', rfl, z1⟩, fun e => by cases e⟩
      · have hx : (x == g) = false := by simpa using hx
        simp only [List.lookup_cons, hx]
        exact ⟨i1, i2⟩
theorem rf_put {K : PySem.W.Frag} {f : Nm} {H : Hp} {x : Str} {v : Val} {v' : V} (rv : RV L K f H v v') : ∀ {fs : List (Str × Val)} {gs : List (Str × V)}, RFs L K f H fs gs → RFs L K f H (putFd x v fs) (putF x v' gs)
  | [], gs, r => by
    obtain ⟨r1, r2⟩ := r
    have : gs = [] := by cases gs <;> simp at r1 ⊢
    subst this
    exact ⟨rfl, RVs.cons rv RVs.nil⟩
  | (g, w) :: fs, gs, r => by
    obtain ⟨r1, r2⟩ := r
    cases gs with
    | nil => simp at r1
    | cons q gs =>
      obtain ⟨g', w'⟩ := q
      simp only [List.map_cons, List.cons.injEq] at r1
      obtain ⟨rfl, r1⟩ := r1
      simp only [List.map_cons] at r2
      unfold RVs at r2
      obtain ⟨v0, q0, e0, z1, z2⟩ := r2
      simp only [List.cons.injEq] at e0
      obtain ⟨e1, e2⟩ := e0
      subst e1
      subst e2
      unfold putFd putF
      by_cases hx : g = x
      · rw [if_pos hx, if_pos hx]
        exact ⟨by simp [r1], RVs.cons rv z2⟩
      · rw [if_neg hx, if_neg hx]
        obtain ⟨i1, i2⟩ := rf_put (x := x) (v := v) (v' := v') rv (fs := fs) (gs := gs) ⟨r1, z2⟩
        exact ⟨by simp [i1], RVs.cons z1 i2⟩
theorem Sim.ins {K : PySem.W.Frag} {f : Nm} {h : Mem} {H : Hp} (S : Sim L K f h H) {n : Nat} {ad : Addr} {cl : Str} {fs : List (Str × Val)} (e : f n = some ad) (q : h[n]? = some (.ins cl fs)) : ∃ dx gs, H ad = some (.ins (L.C cl) dx gs) ∧ RFs L K f H fs gs := by
  obtain ⟨o, q', r⟩ := S.at_ n ad e
  rw [q] at q'; cases q'
  exact r
theorem flds_of {C : ClD} {x : Str} (h : C.flds.contains x = true) : x ∈ C.flds := by simpa using h
theorem passLN {X : Cx} : Passes (L2N.CX X.prog X.w) X E0 := fun pins σ H s e s' I c => by
  obtain ⟨_, _, _, _, _, _, _, _, _, _, _, _, z⟩ := c
  exact z.elim
/-- e.x -/
theorem s_attr {x : Str} (ha : PE X a (GoodE L X.K W da)) (CF : ∀ c C, Γ.cls.lookup c = some C → ClF L X.K c C) (PF : ∀ c C g, Γ.cls.lookup c = some C → C.props.lookup x = some g → ∃ D, FnF L X Γ call g D ∧ D.ps.length = 1 ∧ (g, 1, []) ∈ Γ.shapes ∧ ∃ sel, bindV D 1 [] = some sel) (hc : X.calm = true)
    (hab : attributeBase a x X.env (eval a X.env) = eval a X.env) : PE X (.Attribute a x pos) (GoodE L X.K W (eAttr Γ call x da)) := by
  refine ⟨fun pins s σ H Q I ⟨f, ρ, h, S, E, p⟩ => ?_⟩
  have q := PostG.bind (R := RV L X.K) p
  have other : (∀ v h1, da ρ h = .ok v h1 → False) → wpAny (model X.prog X.w) X.A (eval (.Attribute a x pos) X.env) (EP X pins σ Q) X.xe s := fun no => by
    refine (pe_fld ha hab).run pins s σ H Q I ⟨f, ρ, h, S, E, q.imp fun v' H1 ⟨f1, v, h1, e1, _⟩ => absurd e1 (fun z => no _ _ z)⟩
  cases e : da ρ h with
  | bad => exact other fun v h1 z => by rw [e] at z; cases z
  | exc c fs h1 => exact other fun v h1 z => by rw [e] at z; cases z
  | ok v h1 =>
    have p0 : PostG L X.K (RV L X.K) W f σ H Q (attrOf Γ call x v h1) := by
      unfold eAttr e1 at p
      rw [e] at p
      exact p
    cases v with
    | ref n =>
      cases eo : h1[n]? with
      | none => simp only [attrOf, eo] at p0; exact absurd p0 id
      | some o =>
        cases o with
        | lst xs => simp only [attrOf, eo] at p0; exact absurd p0 id
        | rol xs => simp only [attrOf, eo] at p0; exact absurd p0 id
        | dic kvs => simp only [attrOf, eo] at p0; exact absurd p0 id
        | frd kvs => simp only [attrOf, eo] at p0; exact absurd p0 id
        | ins cl fs =>
          cases ec : Γ.cls.lookup cl with
          | none => simp only [attrOf, eo, ec] at p0; exact absurd p0 id
          | some C =>
            have cf := CF cl C ec
            cases ep : C.props.lookup x with
            | some g =>
              obtain ⟨D, F, hl1, hsh, sel, hb⟩ := PF cl C g ec ep
              obtain ⟨fd, _, Fc, Sh⟩ := F.ex
              obtain ⟨k, Fo, hr⟩ := Fc hc
              obtain ⟨_, bb⟩ := Sh _ _ _ hsh hb
              obtain ⟨pq, pr⟩ := cf.pr (x, g) (PySem.mem_of_lookup ep)
              refine (pe_prop ha cf.cl pr Fo hr (bb rfl hl1.symm) .nil passLN hab).run pins s σ H Q I ⟨f, ρ, h, S, E, ?_⟩
              rw [e]
              intro f1 H1 v' X1 S1 R1
              obtain ⟨ad, ea, rfl⟩ := rv_ref R1
              obtain ⟨dx, gs, hi, rf⟩ := S1.ins ea eo
              refine ⟨ad, dx, gs, rfl, hi, ?_⟩
              simp only [attrOf, eo, ec, ep] at p0
              have p1 := PostG.ext (Res.shut_post p0) X1
              exact sp_of (W := WF) (σ := σ) S1 (RVs.cons R1 RVs.nil) (by rw [hl1]; rfl) p1
            | none =>
              refine (pe_fld ha hab).run pins s σ H Q I ⟨f, ρ, h, S, E, ?_⟩
              rw [e]
              intro f1 H1 v' X1 S1 R1
              obtain ⟨ad, ea, rfl⟩ := rv_ref R1
              obtain ⟨dx, gs, hi, rf⟩ := S1.ins ea eo
              simp only [attrOf, eo, ec, ep] at p0
              split at p0
              · rename_i hf
                cases el : fs.lookup x with
                | none => rw [el] at p0; exact absurd p0 id
                | some v =>
                  rw [el] at p0
                  obtain ⟨w, l1, l2⟩ := (rf_get (x := x) rf).1 v el
                  exact ⟨ad, _, dx, gs, w, rfl, hi, cf.cl, cf.no x (flds_of hf), l1, p0 f1 H1 w X1 S1 l2⟩
              · exact absurd p0 id
    | non => simp only [attrOf] at p0; exact absurd p0 id
    | bl _ => simp only [attrOf] at p0; exact absurd p0 id
    | int _ => simp only [attrOf] at p0; exact absurd p0 id
    | str _ => simp only [attrOf] at p0; exact absurd p0 id
    | tup _ => simp only [attrOf] at p0; exact absurd p0 id
    | fn _ => simp only [attrOf] at p0; exact absurd p0 id
    | exn _ _ => simp only [attrOf] at p0; exact absurd p0 id
theorem setAttr_ok {f : Nm} {h : Mem} {H : Hp} {σ : L2.St} {x : Str} {o v : Val} {o' v' : V} {Q : V → Hp → Prop} (CF : ∀ c C, Γ.cls.lookup c = some C → ClF L X.K c C) (S : Sim L X.K f h H) (ro : RV L X.K f H o o') (rv : RV L X.K f H v v')
    (p : PostG L X.K (RV L X.K) W f σ H Q (setAttrM Γ x o v h)) : ∃ ad C dx fs, o' = .ref ad ∧ H ad = some (.ins C dx fs) ∧ Cls X.K C ∧ NoAttr X.K C x ∧ fs.length < 1000 ∧ Q .non (upd H ad (.ins C dx (putF x v' fs))) := by
  cases o with
  | ref n =>
    obtain ⟨ad, ea, rfl⟩ := rv_ref ro
    simp only [setAttrM] at p
    cases eo : h[n]? with
    | none => rw [eo] at p; exact absurd p id
    | some ob =>
      rw [eo] at p
      cases ob with
      | lst xs => exact absurd p id
      | rol xs => exact absurd p id
      | dic kvs => exact absurd p id
      | frd kvs => exact absurd p id
      | ins cl fs =>
        dsimp only at p
        cases ec : Γ.cls.lookup cl with
        | none => rw [ec] at p; exact absurd p id
        | some C =>
          rw [ec] at p
          have cf := CF cl C ec
          dsimp only at p
          split at p
          · rename_i hz
            rw [Bool.and_eq_true] at hz
            obtain ⟨dx, gs, hi, rf⟩ := S.ins ea eo
            have hlen : fs.length = gs.length := by
              have := congrArg List.length rf.1
              simpa using this
            refine ⟨ad, _, dx, gs, rfl, hi, cf.cl, cf.no x (flds_of hz.1), by rw [← hlen]; exact of_decide_eq_true hz.2, ?_⟩
            have xx := ext_upd (o := .ins (L.C cl) dx (putF x v' gs)) ea hi
            have rp := rf_put (x := x) rv rf
            exact p f _ .non xx (S.wr ea hi ⟨dx, _, upd_same, rp.1, rp.2.mono S xx⟩) mk_non
          · exact absurd p id
  | _ => simp only [setAttrM] at p; exact absurd p id
theorem st_setAttr {x : Str} {tp : Pos} (CF : ∀ c C, Γ.cls.lookup c = some C → ClF L X.K c C) (ha : PE X a (GoodE L X.K W da)) (hb : PE X b (GoodE L X.K W db)) (hs : swapsWith b (some (.Attribute a x tp)) pos.line X.env = pure false) :
    PS X (.Assign [.Attribute a x tp] b pos) (GoodS L X.K W (sSetAttr Γ x da db)) := by
  refine psImp (ps_fld ha hb hs) fun D σ H ⟨f, ρ, h, S, E, p⟩ => ?_
  refine ⟨f, ρ, h, S, E, (PostS.onE (R := RV L X.K) E S p).imp fun v' H1 ⟨f1, v, h1, e1, X1, S1, E1, R1, p1⟩ => ?_⟩
  refine ⟨f1, ρ, h1, S1, E1, (PostS.onE (R := RV L X.K) E1 S1 p1).imp fun o' H2 ⟨f2, o, h2, e2, X2, S2, E2, R2, p2⟩ => ?_⟩
  refine setAttr_ok (W := W) (σ := σ) (Q := fun _ H3 => D.nx σ H3) CF S2 R2 (R1.mono S1 X2) ?_
  exact (PostS.onE (R := RV L X.K) E2 S2 p2).imp fun v' H4 ⟨f4, v4, h4, e4, X4, S4, E4, R4, p4⟩ => p4 f4 H4 σ (Ext.refl _ _) S4 E4
theorem st_augAttr {x : Str} {op : Operator} {tp : Pos} (CF : ∀ c C, Γ.cls.lookup c = some C → ClF L X.K c C) (ha : PE X a (GoodE L X.K W da)) (hb : PE X b (GoodE L X.K W db)) :
    PS X (.AugAssign (.Attribute a x tp) op b pos) (GoodS L X.K W (sAugAttr Γ x da op db)) := by
  refine psImp (ps_fldaug ha hb (rd := ipV L X.K op) (fun pins s σ H x y u v Q I r1 r2 q => ipV_ok op pins s σ H x y u v Q I r1 r2 q)) fun D σ H ⟨f, ρ, h, S, E, p⟩ => ?_
  refine ⟨f, ρ, h, S, E, (PostS.onE (R := RV L X.K) E S p).imp fun o' H1 ⟨f1, o, h1, e1, X1, S1, E1, R1, p1⟩ => ?_⟩
  cases o with
  | ref n =>
    obtain ⟨ad, ea, rfl⟩ := rv_ref R1
    dsimp only at p1
    cases eo : h1[n]? with
    | none => rw [eo] at p1; exact absurd p1 id
    | some ob =>
      rw [eo] at p1
      cases ob with
      | lst xs => exact absurd p1 id
      | rol xs => exact absurd p1 id
      | dic kvs => exact absurd p1 id
      | frd kvs => exact absurd p1 id
      | ins cl fs =>
        dsimp only at p1
        cases ec : Γ.cls.lookup cl with
        | none => rw [ec] at p1; exact absurd p1 id
        | some C =>
          rw [ec] at p1
          have cf := CF cl C ec
          dsimp only at p1
          split at p1
          · rename_i hz
            obtain ⟨dx, gs, hi, rf⟩ := S1.ins ea eo
            cases el : fs.lookup x with
            | none => rw [el] at p1; exact absurd p1 id
            | some v =>
              rw [el] at p1
              dsimp only at p1
              obtain ⟨w, l1, l2⟩ := (rf_get (x := x) rf).1 v el
              refine ⟨ad, _, dx, gs, w, rfl, hi, cf.cl, cf.no x (flds_of hz), l1, ?_⟩
              refine ⟨f1, ρ, h1, S1, E1, (PostS.onE (R := RV L X.K) E1 S1 p1).imp fun y' H2 ⟨f2, y, h2, e2, X2, S2, E2, R2, p2⟩ => ?_⟩
              refine ⟨f2, h2, v, y, S2, l2.mono S1 X2, R2, ((PostS.onE (R := RV L X.K) E2 S2 p2).nox (augop_nox _ _ _ _)).imp fun z' H3 ⟨f3, z, h3, e3, X3, S3, E3, R3, p3⟩ => ?_⟩
              have ea3 : f3 n = some ad := X3.le n ad (X2.le n ad ea)
              cases eo3 : h3[n]? with
              | none => rw [eo3] at p3; exact absurd p3 id
              | some ob3 =>
                rw [eo3] at p3
                cases ob3 with
                | lst xs => exact absurd p3 id
                | rol xs => exact absurd p3 id
                | dic kvs => exact absurd p3 id
                | frd kvs => exact absurd p3 id
                | ins c3 fs3 =>
                  dsimp only at p3
                  split at p3
                  · rename_i hy
                    obtain ⟨rfl, hy⟩ := hy
                    obtain ⟨dx3, gs3, hi3, rf3⟩ := S3.ins ea3 eo3
                    have hlen : fs3.length = gs3.length := by
                      have := congrArg List.length rf3.1
                      simpa using this
                    refine ⟨dx3, gs3, hi3, by rw [← hlen]; exact hy, ?_⟩
                    have xx := ext_upd (o := .ins (L.C c3) dx3 (putF x z' gs3)) ea3 hi3
                    have rp := rf_put (x := x) R3 rf3
                    exact p3 f3 _ σ xx (S3.wr ea3 hi3 ⟨dx3, _, upd_same, rp.1, rp.2.mono S3 xx⟩) (E3.mono S3 xx)
                  · exact absurd p3 id
          · exact absurd p1 id
  | _ => dsimp only at p1; exact absurd p1 id
end
end Mp
set_option Elab.async false
set_option linter.all false
set_option maxRecDepth 100000
set_option maxHeartbeats 1000000
namespace Mp
open PySem PySem.Spec PyProof.Rows L2
section
variable {L : Lk} {X : Cx} {W : WX} {pos : Pos} {a b c o : Expr} {da db dc do_ : ME} {Γ : Pg} {call : CallT} {k : Nat} {es : List Expr} {kws : List Keyword} {das dks : MA}
/-! ### C(..) -/
theorem dropNon_ok {K : PySem.W.Frag} {f f' : Nm} {H H' : Hp} {σ : L2.St} {Q : VK} {r : Res Val} {n : Nat} {x : Addr} (xx : Ext f f' H H') (en : f' n = some x) (p : PostG L K (RV L K) W f σ H Q (dropNon r (.ref n))) :
    PostG L K (RV L K) W f' σ H' (fun v H2 => v = .non ∧ Q (.ref x) H2) r := by
  cases r with
  | ok v h =>
    cases v with
    | non =>
      intro f2 H2 v' X2 S2 R2
      exact ⟨rv_non R2, p f2 H2 _ (xx.trans X2) S2 (mk_ref (X2.le _ _ en))⟩
    | _ => exact absurd p id
  | exc c fs h => exact fun f2 H2 cls d X2 S2 rx => p f2 H2 cls d (xx.trans X2) S2 rx
  | bad => exact p
theorem s_make {cl : Str} {C : ClD} {D : FnD} {sel : List Src} {p : Pos} (tk : L2N.Takes X W) (cf : ClF L X.K cl C) (F : FnF L X Γ call C.init D) (hg : Gl X cl) (hm : X.mg cl = some (.ref (L.C cl))) (hdb : (cl == ("__debug__" : Str)) = false)
    (ha : PA X es (GoodA L X.K W das)) (hkw : PK X kws (GoodA L X.K W dks)) (hst : es.all noStar = true) (hnm : kws.all (·.arg.isSome) = true) (hz : es = [] → das = aNil) (hz2 : kws = [] → dks = aNil)
    (hl : ∀ ρ h us h', das ρ h = .ok us h' → us.length = es.length) (hl2 : ∀ ρ h us h', dks ρ h = .ok us h' → us.length = kws.length)
    (hsh : (C.init, es.length + 1, kws.filterMap (·.arg)) ∈ Γ.shapes) (hb : bindV D (es.length + 1) (kws.filterMap (·.arg)) = some sel) (hkl : (kws.filterMap (·.arg)).length = kws.length) :
    PE X (.Call (.Name cl p) es kws pos) (GoodE L X.K W (eMake (call C.init) cl sel das dks)) := by
  refine ⟨fun pins s σ H Q I ⟨f, ρ, h, S, E, pp⟩ => ?_⟩
  refine wpAny_Call_Name_kw (ld_glob I hg hm ?_ hdb)
  obtain ⟨fd, Fo, _, Sh⟩ := F.ex
  obtain ⟨⟨gg, gV, kb, rel⟩, _⟩ := Sh _ _ _ hsh hb
  refine call_args (L := L) (W := W) cf.mak.kp ha hkw hst hnm hz hz2 I ⟨f, ρ, h, S, E, (PostG.bind (R := RVs L X.K) pp).imp fun vs H1 ⟨f1, us, h1, e1, X1, S1, R1, p1⟩ => ?_⟩
  refine ⟨f1, ρ, h1, S1, E.mono S X1, (PostG.bind (R := RVs L X.K) p1).imp fun zs H2 ⟨f2, ws, h2, e2, X2, S2, R2, p2⟩ => ?_⟩
  intro s2 uu ww I2 ru rw'
  have l1 := hl _ _ _ _ e1
  have l2 := hl2 _ _ _ _ e2
  have R1' := R1.mono S1 X2
  refine run_makeN (us := uu) (ws := ww) cf.mak Fo kb (L2N.passAt tk σ) I2 ru rw' (by rw [← R1'.length, l1]) (by rw [← R2.length, l2, hkl]) ?_
  intro x dx hx hdx ne
  unfold mkI at p2
  cases es2 : selV (.ref h2.length :: us) ws sel with
  | none => rw [es2] at p2; exact absurd p2 id
  | some ts =>
    rw [es2] at p2
    dsimp only at p2
    have hx1 : upd H2 dx (.own x) x = none := by rw [upd_ne (Ne.symm ne)]; exact hx
    have S3 := S2.out (o := .own x) hdx
    have S4 := S3.alloc (o := .ins (L.C cl) dx []) (ob := .ins cl []) hx1 ⟨dx, [], upd_same, rfl, RVs.nil⟩
    have X4 : Ext f2 (put f2 h2.length x) H2 (upd (upd H2 dx (.own x)) x (.ins (L.C cl) dx [])) := (ext_new hdx).trans (ext_put S3 hx1)
    have Rself : RVs L X.K (put f2 h2.length x) (upd (upd H2 dx (.own x)) x (.ins (L.C cl) dx [])) (.ref h2.length :: us) (.ref x :: vs) := RVs.cons (mk_ref put_same) (R1'.mono S2 X4)
    have RR := rel _ _ (.ref h2.length :: us) ws (.ref x :: vs) zs ts Rself (R2.mono S2 X4) (by rw [List.length_cons, l1]) (by rw [l2, hkl]) es2
    exact sp_of S4 RR (by rw [selV_len es2, bindGo_len hb]) (dropNon_ok X4 put_same p2)
/-! ### o.m(..) -/
theorem meth_tree {m : Str} {apos : Pos} (hb : attributeBase o m X.env (eval o X.env) = eval o X.env) (hf : methodCallForm (es.length + kws.length) (backTo pos (starEach es X.env)) (backToKw pos (keywordEach kws X.env)) = true) (hl : (apos.endLine == pos.line) = true) :
    eval (.Call (.Attribute o m apos) es kws pos) X.env = (do
      let ov ← eval o X.env
      standAt apos.atName
      let (f, first) ← holding [ov] (getMethod ov m (do return (← importBound o X.env).getD true))
      callWith pos f first (backTo pos (starEach es X.env)) (backToKw pos (keywordEach kws X.env))) := by
  rw [arm_eval_Call, hb]
  simp only [methodCall, calleeOf, hf, if_true, methodCallPos, hl, Bool.not_true, Bool.false_or, pure_bind]
theorem star_all {env : PySem.Env} {pos : Pos} : ∀ {es : List Expr}, es.all noStar = true → (backTo pos (starEach es env)).all (!·.1) = true
  | [], _ => rfl
  | e :: es, h => by
    simp only [List.all_cons, Bool.and_eq_true] at h
    rw [star_cons h.1]
    show (true && (backTo pos (starEach es env)).all (!·.1)) = true
    rw [star_all h.2]
    rfl
theorem few_ok (hst : es.all noStar = true) (hnm : kws.all (·.arg.isSome) = true) (hn : es.length + kws.length + 1 < 30) : methodCallForm (es.length + kws.length) (backTo pos (starEach es X.env)) (backToKw pos (keywordEach kws X.env)) = true := by
  unfold methodCallForm
  rw [star_all hst, (kw_all hnm).1]
  simp only [Bool.and_self, Bool.true_and, decide_eq_true_eq]
  split <;> omega
/-- what a list's method asks -/
def rLm (L : Lk) (K : PySem.W.Frag) (m : Lm) : V → List V → Hp → VK → Prop := fun x xs' H Q => ∃ f h n ad us, x = .ref ad ∧ f n = some ad ∧ Sim L K f h H ∧ RVs L K f H us xs' ∧ PostG L K (RV L K) WF f [] H Q (lmRun m n us h)
def Lm.id : Lm → String
  | .append => "list.append"
  | .extend => "list.extend"
  | .pop => "list.pop"
  | .clear => "list.clear"
  | .reverse => "list.reverse"
  | .remove => "list.remove"
  | .index => "list.index"
  | .insert => "list.insert"
  | .count => "list.count"
theorem RVs.zero {K : PySem.W.Frag} {f : Nm} {H : Hp} {vs : List V} (r : RVs L K f H [] vs) : vs = [] := by unfold RVs at r; exact r
theorem lmRun_nox (m : Lm) (n : Nat) (us : List Val) (h : Mem) : NoX (lmRun m n us h) := by
  unfold lmRun
  split
  · split <;> (try split) <;> (try split) <;> exact True.intro
  · exact True.intro
theorem idx_le : ∀ {ns : List Int} {m : Nat} {y : Int}, ns[m]? = some y → ns.idxOf y ≤ m
  | n :: ns, 0, y, e => by
    have : n = y := by simpa using e
    simp [this]
  | n :: ns, m + 1, y, e => by
    have ih := idx_le (ns := ns) (m := m) (y := y) (by simpa using e)
    rw [List.idxOf_cons]
    cases n == y <;> simp <;> omega
theorem lm_ok (m : Lm) : MtR X m.id (rLm L X.K m) := by
  intro pins s σ H x' xs' v us Q I rx rv ⟨f, h, n, ad, us', ex, ea, S, R, p⟩
  subst ex
  unfold lmRun at p
  split at p
  · rename_i xs q
    obtain ⟨vs, hv, rvs⟩ := S.lst ea q
    split at p
    · split at p
      · rename_i y hz
        obtain ⟨y', rfl, ry⟩ := R.one
        refine mt_append pins s σ H _ _ v us Q I rx rv ⟨ad, vs, y', rfl, rfl, hv, by rw [← rvs.length]; exact hz, ?_⟩
        have xx := ext_upd (o := .lst (vs ++ [y'])) ea hv
        exact p f _ _ xx (S.wr ea hv ⟨_, upd_same, (rvs.append (RVs.cons ry RVs.nil)).mono S xx⟩) mk_non
      · exact absurd p id
    · split at p
      · rename_i bb zs qb
        split at p
        · rename_i hz
          obtain ⟨y', rfl, ry⟩ := R.one
          obtain ⟨ab, eb, rfl⟩ := rv_ref ry
          obtain ⟨ws, hw, rws⟩ := S.lst eb qb
          refine mt_extend pins s σ H _ _ v us Q I rx rv ⟨ad, ab, vs, ws, rfl, rfl, hv, hw, by rw [← rvs.length, ← rws.length]; exact hz, ?_⟩
          have xx := ext_upd (o := .lst (vs ++ ws)) ea hv
          exact p f _ _ xx (S.wr ea hv ⟨_, upd_same, (rvs.append rws).mono S xx⟩) mk_non
        · exact absurd p id
      · exact absurd p id
    · split at p
      · rename_i y ey
        obtain rfl := R.zero
        obtain ⟨y', q1, q2⟩ := rvs.get ey
        rw [rvs.length] at q1
        refine mt_pop pins s σ H _ _ v us Q I rx rv ⟨ad, vs, y', rfl, rfl, hv, q1, ?_⟩
        have xx := ext_upd (o := .lst vs.dropLast) ea hv
        exact p f _ _ xx (S.wr ea hv ⟨_, upd_same, rvs.dropLast.mono S xx⟩) (q2.mono S xx)
      · exact absurd p id
    · split at p
      · rename_i i _ kk ek
        split at p
        · rename_i y ey
          obtain ⟨i', rfl, ri⟩ := R.one
          obtain rfl := rv_int ri
          obtain ⟨y', q1, q2⟩ := rvs.get ey
          obtain ⟨h1, h2, h3, h4⟩ := ixN_seq ek
          have hz := (I.lst hv)
          obtain ⟨_, _, _, _, hzz⟩ := hz
          have hn := line63
          rw [rvs.length] at h1 h2 h3 h4
          refine mt_popAt pins s σ H _ _ v us Q I rx rv ⟨ad, vs, i, kk, y', rfl, rfl, hv, by omega, by omega, h1, q1, ?_⟩
          have xx := ext_upd (o := .lst (vs.eraseIdx kk)) ea hv
          exact p f _ _ xx (S.wr ea hv ⟨_, upd_same, (rvs.eraseIdx kk).mono S xx⟩) (q2.mono S xx)
        · exact absurd p id
      · exact absurd p id
    · obtain rfl := R.zero
      refine mt_clear pins s σ H _ _ v us Q I rx rv ⟨ad, vs, rfl, rfl, hv, ?_⟩
      have xx := ext_upd (o := .lst []) ea hv
      exact p f _ _ xx (S.wr ea hv ⟨_, upd_same, RVs.nil⟩) mk_non
    · obtain rfl := R.zero
      refine mt_reverse pins s σ H _ _ v us Q I rx rv ⟨ad, vs, rfl, rfl, hv, ?_⟩
      have xx := ext_upd (o := .lst vs.reverse) ea hv
      exact p f _ _ xx (S.wr ea hv ⟨_, upd_same, rvs.reverse.mono S xx⟩) mk_non
    · split at p
      · rename_i i _ ns en
        split at p
        · rename_i hk
          obtain ⟨i', rfl, ri⟩ := R.one
          obtain rfl := rv_int ri
          obtain rfl := ints_ok en rvs
          obtain ⟨j, j1, j2, j3, j4⟩ := first_at hk
          refine mt_remove pins s σ H _ _ v us Q I rx rv ⟨ad, ns, i, j, rfl, rfl, hv, j2, j3, ?_⟩
          rw [j4]
          have xx := ext_upd (o := .lst ((ns.erase i).map V.int)) ea hv
          exact p f _ _ xx (S.wr ea hv ⟨_, upd_same, RVs.ints _⟩) mk_non
        · exact absurd p id
      · exact absurd p id
    · split at p
      · rename_i y hfl
        rw [Bool.and_eq_true] at hfl
        obtain ⟨f1, f2⟩ := hfl
        split at p
        · rename_i j hj
          obtain ⟨y', rfl, ry⟩ := R.one
          obtain ⟨hjl, hj1, hj2⟩ := List.findIdx?_eq_some_iff_getElem.mp hj
          have ez : xs[j]? = some xs[j] := List.getElem?_eq_getElem hjl
          obtain ⟨z', ez', rz⟩ := rvs.get ez
          have fj : flat xs[j] = true := List.all_eq_true.mp f2 _ (List.mem_of_getElem? ez)
          refine mt_index pins s σ H _ _ v us Q I rx rv ⟨ad, vs, y', j, z', rfl, rfl, .inl (.inl hv), flat_of ry f1, (any_of ry f1 rvs f2).1, ez', ?_, fun m z2 hm e2 => ?_, now S (mk_int _) p⟩
          · rw [← eqF_of rz ry fj f1]
            exact hj1
          · have hml : m < xs.length := by omega
            have em : xs[m]? = some xs[m] := List.getElem?_eq_getElem hml
            obtain ⟨z3, e3, r3⟩ := rvs.get em
            rw [e2] at e3
            cases e3
            have fm : flat xs[m] = true := List.all_eq_true.mp f2 _ (List.mem_of_getElem? em)
            rw [← eqF_of r3 ry fm f1]
            have := hj2 m hm
            simpa using this
        · exact absurd p id
      · exact absurd p id
    · split at p
      · rename_i i y hz
        obtain ⟨i', y', rfl, ri, ry⟩ := R.two
        obtain rfl := rv_int ri
        refine mt_insert pins s σ H _ _ v us Q I rx rv ⟨ad, vs, i, y', rfl, rfl, hv, by rw [← rvs.length]; exact hz.1, hz.2.1, hz.2.2, ?_⟩
        have xx := ext_upd (o := .lst (vs.take i.toNat ++ [y'] ++ vs.drop i.toNat)) ea hv
        exact p f _ _ xx (S.wr ea hv ⟨_, upd_same, (((rvs.take _).append (RVs.cons ry RVs.nil)).append (rvs.drop _)).mono S xx⟩) mk_non
      · exact absurd p id
    · split at p
      · rename_i i _ ns en
        obtain ⟨i', rfl, ri⟩ := R.one
        obtain rfl := rv_int ri
        obtain rfl := ints_ok en rvs
        exact mt_lcount pins s σ H _ _ v us Q I rx rv ⟨ad, ns, i, rfl, rfl, SqL.of hv, now S (mk_int _) p⟩
      · exact absurd p id
    · exact absurd p id
  · exact absurd p id
theorem lm_pe {m : Str} {lm : Lm} {apos : Pos} {e : Expr} (hm : lmOf m = some lm) (ho : PE X o (GoodE L X.K W do_)) (ha : PA X (e :: es) (GoodA L X.K W das)) (hbase : attributeBase o m X.env (eval o X.env) = eval o X.env) (hst : (e :: es).all noStar = true) (hn : (e :: es).length + 1 < 30) (hline : (apos.endLine == pos.line) = true) :
    PE X (.Call (.Attribute o m apos) (e :: es) [] pos) (tBM X.K "list" (rLm L X.K lm) (GoodE L X.K W do_) (GoodA L X.K W das)) := by
  have hfew := few_ok (X := X) (pos := pos) (es := e :: es) (kws := []) hst rfl (by simpa using hn)
  simp only [List.all_cons, Bool.and_eq_true] at hst
  have h1 := star_cons (es := es) (env := X.env) hst.1
  have h2 := star_any (env := X.env) (pos := pos) hst.2
  have mm := PySem.mem_of_lookup hm
  simp only [lmTab, List.mem_cons, Prod.mk.injEq, List.not_mem_nil, or_false] at mm
  rcases mm with ⟨rfl, rfl⟩ | ⟨rfl, rfl⟩ | ⟨rfl, rfl⟩ | ⟨rfl, rfl⟩ | ⟨rfl, rfl⟩ | ⟨rfl, rfl⟩ | ⟨rfl, rfl⟩ | ⟨rfl, rfl⟩ | ⟨rfl, rfl⟩
  · exact pe_bm PySem.F.plainAttrs_list PySem.F.slot_list_append PySem.F.type_list_append (lm_ok .append) ho ha hbase hfew hline h1 h2
  · exact pe_bm PySem.F.plainAttrs_list PySem.F.slot_list_extend PySem.F.type_list_extend (lm_ok .extend) ho ha hbase hfew hline h1 h2
  · exact pe_bm PySem.F.plainAttrs_list PySem.F.slot_list_pop PySem.F.type_list_pop (lm_ok .pop) ho ha hbase hfew hline h1 h2
  · exact pe_bm PySem.F.plainAttrs_list PySem.F.slot_list_clear PySem.F.type_list_clear (lm_ok .clear) ho ha hbase hfew hline h1 h2
  · exact pe_bm PySem.F.plainAttrs_list PySem.F.slot_list_reverse PySem.F.type_list_reverse (lm_ok .reverse) ho ha hbase hfew hline h1 h2
  · exact pe_bm PySem.F.plainAttrs_list PySem.F.slot_list_remove PySem.F.type_list_remove (lm_ok .remove) ho ha hbase hfew hline h1 h2
  · exact pe_bm PySem.F.plainAttrs_list PySem.F.slot_list_index PySem.F.type_list_index (lm_ok .index) ho ha hbase hfew hline h1 h2
  · exact pe_bm PySem.F.plainAttrs_list PySem.F.slot_list_insert PySem.F.type_list_insert (lm_ok .insert) ho ha hbase hfew hline h1 h2
  · exact pe_bm PySem.F.plainAttrs_list PySem.F.slot_list_count PySem.F.type_list_count (lm_ok .count) ho ha hbase hfew hline h1 h2
theorem lm_pe0 {m : Str} {lm : Lm} {apos : Pos} (hm : lmOf m = some lm) (ho : PE X o (GoodE L X.K W do_)) (hbase : attributeBase o m X.env (eval o X.env) = eval o X.env) (hline : (apos.endLine == pos.line) = true) :
    PE X (.Call (.Attribute o m apos) [] [] pos) (tBM0 X.K "list" (rLm L X.K lm) (GoodE L X.K W do_)) := by
  have mm := PySem.mem_of_lookup hm
  simp only [lmTab, List.mem_cons, Prod.mk.injEq, List.not_mem_nil, or_false] at mm
  rcases mm with ⟨rfl, rfl⟩ | ⟨rfl, rfl⟩ | ⟨rfl, rfl⟩ | ⟨rfl, rfl⟩ | ⟨rfl, rfl⟩ | ⟨rfl, rfl⟩ | ⟨rfl, rfl⟩ | ⟨rfl, rfl⟩ | ⟨rfl, rfl⟩
  · exact pe_bm0 PySem.F.plainAttrs_list PySem.F.slot_list_append PySem.F.type_list_append (lm_ok .append) ho hbase hline
  · exact pe_bm0 PySem.F.plainAttrs_list PySem.F.slot_list_extend PySem.F.type_list_extend (lm_ok .extend) ho hbase hline
  · exact pe_bm0 PySem.F.plainAttrs_list PySem.F.slot_list_pop PySem.F.type_list_pop (lm_ok .pop) ho hbase hline
  · exact pe_bm0 PySem.F.plainAttrs_list PySem.F.slot_list_clear PySem.F.type_list_clear (lm_ok .clear) ho hbase hline
  · exact pe_bm0 PySem.F.plainAttrs_list PySem.F.slot_list_reverse PySem.F.type_list_reverse (lm_ok .reverse) ho hbase hline
  · exact pe_bm0 PySem.F.plainAttrs_list PySem.F.slot_list_remove PySem.F.type_list_remove (lm_ok .remove) ho hbase hline
  · exact pe_bm0 PySem.F.plainAttrs_list PySem.F.slot_list_index PySem.F.type_list_index (lm_ok .index) ho hbase hline
  · exact pe_bm0 PySem.F.plainAttrs_list PySem.F.slot_list_insert PySem.F.type_list_insert (lm_ok .insert) ho hbase hline
  · exact pe_bm0 PySem.F.plainAttrs_list PySem.F.slot_list_count PySem.F.type_list_count (lm_ok .count) ho hbase hline
end
end Mp
set_option Elab.async false
set_option linter.all false
set_option maxRecDepth 100000
set_option maxHeartbeats 1000000
namespace Mp
open PySem PySem.Spec PyProof.Rows L2
section
variable {L : Lk} {X : Cx} {W : WX} {pos : Pos} {a b c o : Expr} {da db dc do_ : ME} {Γ : Pg} {call : CallT} {k : Nat} {es : List Expr} {kws : List Keyword} {das dks : MA}
theorem dPop_nox (a : Nat) (us : List Val) (h : Mem) : NoX (dPop a us h) := by
  unfold dPop
  split <;> (try split) <;> (try split) <;> (try split) <;> exact True.intro
def rDPop (L : Lk) (K : PySem.W.Frag) : V → List V → Hp → VK → Prop := fun x xs' H Q => ∃ f h n ad us, x = .ref ad ∧ f n = some ad ∧ Sim L K f h H ∧ RVs L K f H us xs' ∧ PostG L K (RV L K) WF f [] H Q (dPop n us h)
theorem dpop_ok : MtR X "dict.pop" (rDPop L X.K) := by
  intro pins s σ H x' xs' v us Q I rx rv ⟨f, h, n, ad, us', ex, ea, S, R, p⟩
  subst ex
  obtain rfl : v = Value.ref ad := rx
  unfold dPop at p
  split at p
  · rename_i y
    split at p
    · rename_i kvs en
      split at p
      · rename_i k ek
        split at p
        · rename_i w ew
          obtain ⟨y', rfl, ry⟩ := R.one
          obtain ⟨gs, hg, rg⟩ := S.dic ea en
          obtain rfl := key_rel ry ek
          obtain ⟨w', e1, e2⟩ := (df_get rg k).1 w ew
          obtain ⟨u, rfl, ru⟩ := vals1 rv
          have x := ext_upd (o := .dK (dropK gs k)) ea hg
          have z := df_drop k rg
          have q := p f _ w' x (S.wr ea hg ⟨_, upd_same, z.1, z.2.mono S x⟩) (e2.mono S x)
          exact d_pop I hg ru e1 (.inl rfl) fun w2 s' I' rw' => ⟨w', _, I', rw', q⟩
        · exact absurd p id
      · exact absurd p id
    · exact absurd p id
  · exact absurd p id
theorem dGetM_nox (a : Nat) (us : List Val) (h : Mem) : NoX (dGetM a us h) := by
  unfold dGetM
  split <;> (try split) <;> (try split) <;> exact True.intro
def rDGet (L : Lk) (K : PySem.W.Frag) : V → List V → Hp → VK → Prop := fun x xs' H Q => ∃ f h n ad us, x = .ref ad ∧ f n = some ad ∧ Sim L K f h H ∧ RVs L K f H us xs' ∧ PostG L K (RV L K) WF f [] H Q (dGetM n us h)
theorem dget_ok : MtR X "dict.get" (rDGet L X.K) := by
  intro pins s σ H x' xs' v us Q I rx rv ⟨f, h, n, ad, us', ex, ea, S, R, p⟩
  subst ex
  obtain rfl : v = Value.ref ad := rx
  unfold dGetM at p
  split at p
  · rename_i y d0
    split at p
    · rename_i kvs en
      split at p
      · rename_i k ek
        obtain ⟨y', d', rfl, ry, rd⟩ := R.two
        obtain ⟨gs, hg, rg⟩ := S.dic ea en
        obtain rfl := key_rel ry ek
        obtain ⟨u1, u2, rfl, ru1, ru2⟩ := vals2 rv
        obtain ⟨z, hd, vs, rel, dd⟩ := dk_rd I.hok (.inl hg)
        have ex : ∃ w', RV L X.K f H ((dGet kvs k).getD d0) w' ∧ (valV gs k).getD d' = w' := by
          cases eg : dGet kvs k with
          | none =>
            have : dGet gs k = none := (df_get rg k).2 eg
            exact ⟨d', rd, by rw [show valV gs k = none from this]; rfl⟩
          | some w =>
            obtain ⟨w', e1, e2⟩ := (df_get rg k).1 w eg
            exact ⟨w', e2, by rw [show valV gs k = some w' from e1]; rfl⟩
        obtain ⟨w', rw', ew⟩ := ex
        have q := now S rw' p
        refine call_meetsIn PySem.F.slot_dict_get dd.typeIs PySem.F.entry_dict_get (PySem.F.args_dict_get_3 _ _ _) (meets_dict_get_default (mixKind X.prog X.w) ad (kV_is ru1) hd u2) ⟨_, dd.mapOf, ⟨w', H, I.tok _, ?_, q⟩⟩
        rw [← ew]
        exact (rel.val k).getD ru2
      · exact absurd p id
    · exact absurd p id
  · exact absurd p id
theorem sJoin_nox (z : Str) (us : List Val) (h : Mem) : NoX (sJoin z us h) := by
  unfold sJoin
  split <;> (try split) <;> (try split) <;> exact True.intro
theorem strs_ok {K : PySem.W.Frag} {f : Nm} {H : Hp} : ∀ {xs : List Val} {vs : List V} {ys : List Str}, strsOf xs = some ys → RVs L K f H xs vs → vs = ys.map V.str
  | [], vs, ys, e, r => by
    unfold RVs at r; subst r
    simp [strsOf] at e; subst e
    rfl
  | x :: xs, vs, ys, e, r => by
    unfold RVs at r
    obtain ⟨v, ws, rfl, r1, r2⟩ := r
    cases x <;> simp only [strsOf] at e
    all_goals try (cases e; done)
    obtain ⟨zs, e1, rfl⟩ := Option.map_eq_some_iff.mp e
    rw [rv_str r1, strs_ok e1 r2]
    rfl
def rSJoin (L : Lk) (K : PySem.W.Frag) : V → List V → Hp → VK → Prop := fun x xs' H Q => ∃ f h z us, x = .str z ∧ Sim L K f h H ∧ RVs L K f H us xs' ∧ PostG L K (RV L K) WF f [] H Q (sJoin z us h)
theorem sjoin_ok : MtR X "str.join" (rSJoin L X.K) := by
  intro pins s σ H x' xs' v us Q I rx rv ⟨f, h, z, us', ex, S, R, p⟩
  subst ex
  unfold sJoin at p
  split at p
  · rename_i y
    split at p
    · rename_i ys ey
      split at p
      · rename_i hz
        obtain ⟨y', rfl, ry⟩ := R.one
        obtain ⟨xs, e1, e2⟩ := Option.bind_eq_some_iff.mp ey
        obtain ⟨a, vs, rfl, sq, rr⟩ := S.lstOf ry e1
        obtain rfl := strs_ok e2 rr
        exact mt_join pins s σ H _ _ v us Q I rx rv ⟨z, a, ys, rfl, rfl, .inl sq, hz, now S (mk_str _) p⟩
      · exact absurd p id
    · exact absurd p id
  · exact absurd p id
def Sm.id : Sm → String
  | .join => "str.join"
  | .find => "str.find"
  | .rfind => "str.rfind"
  | .startswith => "str.startswith"
  | .endswith => "str.endswith"
  | .count => "str.count"
  | .upper => "str.upper"
  | .split => "str.split"
theorem smRun_nox (m : Sm) (z : Str) (us : List Val) (h : Mem) : NoX (smRun m z us h) := by
  unfold smRun
  split <;> (try split) <;> first | exact True.intro | exact sJoin_nox _ _ _ | exact newL_nox _ _
def rSm (L : Lk) (K : PySem.W.Frag) (m : Sm) : V → List V → Hp → VK → Prop := fun x xs' H Q => ∃ f h z us, x = .str z ∧ Sim L K f h H ∧ RVs L K f H us xs' ∧ PostG L K (RV L K) WF f [] H Q (smRun m z us h)
theorem RVs.strs {K : PySem.W.Frag} {f : Nm} {H : Hp} : ∀ zs : List Str, RVs L K f H (zs.map Val.str) (zs.map V.str)
  | [] => RVs.nil
  | z :: zs => RVs.cons (mk_str z) (RVs.strs zs)
theorem sm_ok (m : Sm) : MtR X m.id (rSm L X.K m) := by
  intro pins s σ H x' xs' v us Q I rx rv ⟨f, h, z, us', ex, S, R, p⟩
  subst ex
  unfold smRun at p
  split at p
  · exact sjoin_ok (L := L) pins s σ H _ _ v us Q I rx rv ⟨f, h, z, us', rfl, S, R, p⟩
  · obtain ⟨y, rfl, ry⟩ := R.one
    obtain rfl := rv_str ry
    exact mt_find pins s σ H _ _ v us Q I rx rv ⟨z, _, rfl, rfl, now S (mk_int _) p⟩
  · obtain ⟨y, rfl, ry⟩ := R.one
    obtain rfl := rv_str ry
    exact mt_rfind pins s σ H _ _ v us Q I rx rv ⟨z, _, rfl, rfl, now S (mk_int _) p⟩
  · obtain ⟨y, rfl, ry⟩ := R.one
    obtain rfl := rv_str ry
    exact mt_startswith pins s σ H _ _ v us Q I rx rv ⟨z, _, rfl, rfl, now S (mk_bl _) p⟩
  · obtain ⟨y, rfl, ry⟩ := R.one
    obtain rfl := rv_str ry
    exact mt_endswith pins s σ H _ _ v us Q I rx rv ⟨z, _, rfl, rfl, now S (mk_bl _) p⟩
  · obtain ⟨y, rfl, ry⟩ := R.one
    obtain rfl := rv_str ry
    exact mt_count pins s σ H _ _ v us Q I rx rv ⟨z, _, rfl, rfl, now S (mk_int _) p⟩
  · split at p
    · rename_i hz
      obtain rfl := R.zero
      exact mt_upper pins s σ H _ _ v us Q I rx rv ⟨z, rfl, rfl, hz, now S (mk_str _) p⟩
    · exact absurd p id
  · split at p
    · rename_i b hz
      obtain ⟨y, rfl, ry⟩ := R.one
      obtain rfl := rv_str ry
      exact mt_split pins s σ H _ _ v us Q I rx rv ⟨z, _, rfl, rfl, hz.1, hz.2, (newL_ok S (RVs.strs _) p).2⟩
    · exact absurd p id
  · split at p
    · rename_i hz
      obtain rfl := R.zero
      exact mt_words pins s σ H _ _ v us Q I rx rv ⟨z, rfl, rfl, hz, (newL_ok S (RVs.strs _) p).2⟩
    · exact absurd p id
  · exact absurd p id
theorem sm_pe {m : Str} {sm : Sm} {apos : Pos} {e : Expr} (hm : smOf m = some sm) (ho : PE X o (GoodE L X.K W do_)) (ha : PA X (e :: es) (GoodA L X.K W das)) (hbase : attributeBase o m X.env (eval o X.env) = eval o X.env) (hst : (e :: es).all noStar = true) (hn : (e :: es).length + 1 < 30) (hline : (apos.endLine == pos.line) = true) :
    PE X (.Call (.Attribute o m apos) (e :: es) [] pos) (tBM X.K "str" (rSm L X.K sm) (GoodE L X.K W do_) (GoodA L X.K W das)) := by
  have hfew := few_ok (X := X) (pos := pos) (es := e :: es) (kws := []) hst rfl (by simpa using hn)
  simp only [List.all_cons, Bool.and_eq_true] at hst
  have h1 := star_cons (es := es) (env := X.env) hst.1
  have h2 := star_any (env := X.env) (pos := pos) hst.2
  have mm := PySem.mem_of_lookup hm
  simp only [smTab, List.mem_cons, Prod.mk.injEq, List.not_mem_nil, or_false] at mm
  rcases mm with ⟨rfl, rfl⟩ | ⟨rfl, rfl⟩ | ⟨rfl, rfl⟩ | ⟨rfl, rfl⟩ | ⟨rfl, rfl⟩ | ⟨rfl, rfl⟩ | ⟨rfl, rfl⟩ | ⟨rfl, rfl⟩
  · exact pe_bm PySem.F.plainAttrs_str PySem.F.slot_str_join PySem.F.type_str_join (sm_ok .join) ho ha hbase hfew hline h1 h2
  · exact pe_bm PySem.F.plainAttrs_str PySem.F.slot_str_find PySem.F.type_str_find (sm_ok .find) ho ha hbase hfew hline h1 h2
  · exact pe_bm PySem.F.plainAttrs_str PySem.F.slot_str_rfind PySem.F.type_str_rfind (sm_ok .rfind) ho ha hbase hfew hline h1 h2
  · exact pe_bm PySem.F.plainAttrs_str PySem.F.slot_str_startswith PySem.F.type_str_startswith (sm_ok .startswith) ho ha hbase hfew hline h1 h2
  · exact pe_bm PySem.F.plainAttrs_str PySem.F.slot_str_endswith PySem.F.type_str_endswith (sm_ok .endswith) ho ha hbase hfew hline h1 h2
  · exact pe_bm PySem.F.plainAttrs_str PySem.F.slot_str_count PySem.F.type_str_count (sm_ok .count) ho ha hbase hfew hline h1 h2
  · exact pe_bm PySem.F.plainAttrs_str PySem.F.slot_str_upper PySem.F.type_str_upper (sm_ok .upper) ho ha hbase hfew hline h1 h2
  · exact pe_bm PySem.F.plainAttrs_str PySem.F.slot_str_split PySem.F.type_str_split (sm_ok .split) ho ha hbase hfew hline h1 h2
theorem sm_pe0 {m : Str} {sm : Sm} {apos : Pos} (hm : smOf m = some sm) (ho : PE X o (GoodE L X.K W do_)) (hbase : attributeBase o m X.env (eval o X.env) = eval o X.env) (hline : (apos.endLine == pos.line) = true) :
    PE X (.Call (.Attribute o m apos) [] [] pos) (tBM0 X.K "str" (rSm L X.K sm) (GoodE L X.K W do_)) := by
  have mm := PySem.mem_of_lookup hm
  simp only [smTab, List.mem_cons, Prod.mk.injEq, List.not_mem_nil, or_false] at mm
  rcases mm with ⟨rfl, rfl⟩ | ⟨rfl, rfl⟩ | ⟨rfl, rfl⟩ | ⟨rfl, rfl⟩ | ⟨rfl, rfl⟩ | ⟨rfl, rfl⟩ | ⟨rfl, rfl⟩ | ⟨rfl, rfl⟩
  · exact pe_bm0 PySem.F.plainAttrs_str PySem.F.slot_str_join PySem.F.type_str_join (sm_ok .join) ho hbase hline
  · exact pe_bm0 PySem.F.plainAttrs_str PySem.F.slot_str_find PySem.F.type_str_find (sm_ok .find) ho hbase hline
  · exact pe_bm0 PySem.F.plainAttrs_str PySem.F.slot_str_rfind PySem.F.type_str_rfind (sm_ok .rfind) ho hbase hline
  · exact pe_bm0 PySem.F.plainAttrs_str PySem.F.slot_str_startswith PySem.F.type_str_startswith (sm_ok .startswith) ho hbase hline
  · exact pe_bm0 PySem.F.plainAttrs_str PySem.F.slot_str_endswith PySem.F.type_str_endswith (sm_ok .endswith) ho hbase hline
  · exact pe_bm0 PySem.F.plainAttrs_str PySem.F.slot_str_count PySem.F.type_str_count (sm_ok .count) ho hbase hline
  · exact pe_bm0 PySem.F.plainAttrs_str PySem.F.slot_str_upper PySem.F.type_str_upper (sm_ok .upper) ho hbase hline
  · exact pe_bm0 PySem.F.plainAttrs_str PySem.F.slot_str_split PySem.F.type_str_split (sm_ok .split) ho hbase hline
/-! t.index(a text) -/
theorem tIndex_nox (ts us : List Val) (h : Mem) : NoX (tIndex ts us h) := by
  unfold tIndex
  split <;> (try split) <;> (try split) <;> exact True.intro
def rTIdx (L : Lk) (K : PySem.W.Frag) : V → List V → Hp → VK → Prop := fun x xs' H Q => ∃ f h ts us, RV L K f H (.tup ts) x ∧ Sim L K f h H ∧ RVs L K f H us xs' ∧ PostG L K (RV L K) WF f [] H Q (tIndex ts us h)
theorem tidx_ok : MtR X "tuple.index" (rTIdx L X.K) := by
  intro pins s σ H x' xs' v us Q I rx rv ⟨f, h, ts, us', Rt, S, R, p⟩
  obtain ⟨a, vs, ex, sq, rr⟩ := rv_tup Rt
  subst ex
  unfold tIndex at p
  split at p
  · rename_i z
    split at p
    · rename_i ys ey
      split at p
      · rename_i j hj
        obtain ⟨y, rfl, ry⟩ := R.one
        obtain rfl := rv_str ry
        obtain rfl := strs_ok ey rr
        obtain ⟨hjl, hj1, hj2⟩ := List.findIdx?_eq_some_iff_getElem.mp hj
        refine mt_tup_index pins s σ H _ _ v us Q I rx rv ⟨a, ys, z, j, rfl, rfl, sq, ?_, fun m hm e => ?_, now S (mk_int _) p⟩
        · rw [List.getElem?_eq_getElem hjl]
          exact congrArg some (of_decide_eq_true hj1)
        · have hml : m < ys.length := by omega
          rw [List.getElem?_eq_getElem hml] at e
          have := hj2 m hm
          simp only [Bool.not_eq_true, decide_eq_false_iff_not] at this
          exact this (Option.some.inj e)
      · exact absurd p id
    · exact absurd p id
  · exact absurd p id
theorem s_tidx {x : Str} {p apos : Pos} {ts : List Val} {v' : V} {u : Value} (hg : Gl X x) (hm : X.mg x = some u) (r : RelV v' u) (hv : ∀ f H, RV L X.K f H (.tup ts) v') (pl : TupPl X.K (.tup ts) v') (hd : (x == ("__debug__" : Str)) = false)
    (ha : PE X a (GoodE L X.K W da)) (hst : noStar a = true) (hline : (apos.endLine == pos.line) = true) : PE X (.Call (.Attribute (.Name x p) "index" apos) [a] [] pos) (GoodE L X.K W (eTIdx ts da)) := by
  have hfew := few_ok (X := X) (pos := pos) (es := [a]) (kws := []) (by simp [hst]) rfl (by simp)
  have h1 := star_cons (es := []) (env := X.env) hst
  have h2 := star_any (es := []) (env := X.env) (pos := pos) rfl
  refine ⟨fun pins s σ H Q I ⟨f, ρ, h, S, E, q⟩ => ?_⟩
  refine (pe_bm (T := "tuple") PySem.F.plainAttrs_tuple PySem.F.slot_tuple_index PySem.F.type_tuple_index (tidx_ok (L := L)) (pe_glob (pos := p) hg hm r hd) (pa_cons ha pa_nil h1) rfl hfew hline h1 h2).run pins s σ H Q I ?_
  obtain ⟨b, o, eb, lk, oc, od⟩ := pl ts rfl
  refine ⟨?_, f, ρ, h, S, E, (PostG.bind (R := RV L X.K) q).imp fun y' H2 ⟨f2, y, h2, e2, X2, S2, R2, p2⟩ => ⟨f2, h2, ts, [y], hv f2 H2, S2, RVs.cons R2 RVs.nil, p2.nox (tIndex_nox _ _ _)⟩⟩
  subst eb
  exact .inr (.inl ⟨rfl, o, lk, oc, od⟩)
theorem s_meth {m : Str} {apos : Pos} (tk : L2N.Takes X W) (CF : ∀ c C, Γ.cls.lookup c = some C → ClF L X.K c C) (MF : ∀ g D, Γ.fns.lookup g = some D → FnF L X Γ call g D) (ho : PE X o (GoodE L X.K W do_))
    (ha : PA X es (GoodA L X.K W das)) (hkw : PK X kws (GoodA L X.K W dks)) (hst : es.all noStar = true) (hnm : kws.all (·.arg.isSome) = true) (hz : es = [] → das = aNil) (hz2 : kws = [] → dks = aNil)
    (hl : ∀ ρ h us h', das ρ h = .ok us h' → us.length = es.length) (hl2 : ∀ ρ h us h', dks ρ h = .ok us h' → us.length = kws.length) (hkl : (kws.filterMap (·.arg)).length = kws.length)
    (hbase : attributeBase o m X.env (eval o X.env) = eval o X.env) (hn : es.length + kws.length + 1 < 30) (hline : (apos.endLine == pos.line) = true) :
    PE X (.Call (.Attribute o m apos) es kws pos) (GoodE L X.K W (eMeth Γ call m es.length (kws.filterMap (·.arg)) do_ das dks)) := by
  refine ⟨fun pins s σ H Q I ⟨f, ρ, h, S, E, p⟩ => ?_⟩
  have tree := meth_tree (X := X) (o := o) (m := m) (apos := apos) (pos := pos) (es := es) (kws := kws) hbase (few_ok hst hnm hn) hline
  have q := PostG.bind (R := RV L X.K) p
  have other : (∀ v h1, do_ ρ h = .ok v h1 → False) → wpAny (model X.prog X.w) X.A (eval (.Call (.Attribute o m apos) es kws pos) X.env) (EP X pins σ Q) X.xe s := fun no => by
    refine PySem.W.methodCall_KW (pl := do return (← importBound o X.env).getD true) (thn (ho.run pins s σ H (fun _ _ => False) I ⟨f, ρ, h, S, E, q.imp fun v' H1 ⟨f1, v, h1, e1, _⟩ => absurd e1 (fun z => no _ _ z)⟩) fun u s1 ⟨x, H1, I1, rx, z⟩ => z.elim) tree
  cases e : do_ ρ h with
  | bad => exact other fun v h1 z => by rw [e] at z; cases z
  | exc c fs h1 => exact other fun v h1 z => by rw [e] at z; cases z
  | ok v h1 =>
    have p0 : PostG L X.K (RV L X.K) W f σ H Q (methBy Γ call m es.length (kws.filterMap (·.arg)) das dks ρ v h1) := by
      unfold eMeth at p
      rw [e] at p
      exact p
    cases v with
    | ref n =>
      cases eo : h1[n]? with
      | none => simp only [methBy, eo] at p0; exact absurd p0 id
      | some ob =>
        cases ob with
        | rol xs => simp only [methBy, eo] at p0; exact absurd p0 id
        | frd xs => simp only [methBy, eo] at p0; exact absurd p0 id
        | dic kvs =>
          simp only [methBy, eo] at p0
          cases ek : kws.filterMap (·.arg) with
          | cons k1 kr => rw [ek] at p0; exact absurd p0 id
          | nil =>
            rw [ek] at p0
            dsimp only at p0
            split at p0
            · rename_i hm
              subst hm
              have hk0 : kws = [] := List.eq_nil_of_length_eq_zero (by rw [← hkl, ek]; rfl)
              subst hk0
              cases es with
              | nil =>
                have hd : das = aNil := hz rfl
                subst hd
                exact absurd p0 id
              | cons e1 es =>
                have hfew := few_ok (X := X) (pos := pos) (es := e1 :: es) (kws := []) hst rfl (by simpa using hn)
                have hst' := hst
                simp only [List.all_cons, Bool.and_eq_true] at hst'
                refine (pe_bm PySem.F.plainAttrs_dict PySem.F.slot_dict_pop PySem.F.type_dict_pop (dpop_ok (L := L)) ho ha hbase hfew hline (star_cons (es := es) (env := X.env) hst'.1) (star_any (env := X.env) (pos := pos) hst'.2)).run pins s σ H Q I ⟨f, ρ, h, S, E, ?_⟩
                rw [e]
                intro f1 H1 v' X1 S1 R1
                obtain ⟨ad, ea, rfl⟩ := rv_ref R1
                obtain ⟨gs, hg, rg⟩ := S1.dic ea eo
                refine ⟨?_, f1, ρ, h1, S1, E.mono S X1, (PostG.bind (R := RVs L X.K) (PostG.ext p0 X1)).imp fun xs' H2 ⟨f2, us, h2, e2, X2, S2, R2, p2⟩ => ?_⟩
                · exact .inr (.inr (.inl ⟨rfl, .inl ⟨_, hg⟩⟩))
                · exact ⟨f2, h2, n, ad, us, rfl, X2.le _ _ ea, S2, R2, p2.nox (dPop_nox _ _ _)⟩
            · split at p0
              · rename_i hm
                subst hm
                have hk0 : kws = [] := List.eq_nil_of_length_eq_zero (by rw [← hkl, ek]; rfl)
                subst hk0
                cases es with
                | nil =>
                  have hd : das = aNil := hz rfl
                  subst hd
                  exact absurd p0 id
                | cons e1 es =>
                  have hfew := few_ok (X := X) (pos := pos) (es := e1 :: es) (kws := []) hst rfl (by simpa using hn)
                  have hst' := hst
                  simp only [List.all_cons, Bool.and_eq_true] at hst'
                  refine (pe_bm PySem.F.plainAttrs_dict PySem.F.slot_dict_get PySem.F.type_dict_get (dget_ok (L := L)) ho ha hbase hfew hline (star_cons (es := es) (env := X.env) hst'.1) (star_any (env := X.env) (pos := pos) hst'.2)).run pins s σ H Q I ⟨f, ρ, h, S, E, ?_⟩
                  rw [e]
                  intro f1 H1 v' X1 S1 R1
                  obtain ⟨ad, ea, rfl⟩ := rv_ref R1
                  obtain ⟨gs, hg, rg⟩ := S1.dic ea eo
                  refine ⟨?_, f1, ρ, h1, S1, E.mono S X1, (PostG.bind (R := RVs L X.K) (PostG.ext p0 X1)).imp fun xs' H2 ⟨f2, us, h2, e2, X2, S2, R2, p2⟩ => ?_⟩
                  · exact .inr (.inr (.inl ⟨rfl, .inl ⟨_, hg⟩⟩))
                  · exact ⟨f2, h2, n, ad, us, rfl, X2.le _ _ ea, S2, R2, p2.nox (dGetM_nox _ _ _)⟩
              · exact absurd p0 id
        | ins cl fs =>
          simp only [methBy, eo] at p0
          cases ec : Γ.cls.lookup cl with
          | none => rw [ec] at p0; exact absurd p0 id
          | some C =>
            rw [ec] at p0
            dsimp only at p0
            have cf := CF cl C ec
            cases em : C.meths.lookup m with
            | none => rw [em] at p0; exact absurd p0 id
            | some g =>
              rw [em] at p0
              dsimp only at p0
              split at p0
              · rename_i hfn
                have hfn : fs.lookup m = none := by simpa using hfn
                have me := cf.me (m, g) (PySem.mem_of_lookup em)
                refine PySem.W.methodCall_KW (pl := do return (← importBound o X.env).getD true) (thn (ho.run pins s σ H (fun v' H1 => ∃ f1, Ext f f1 H H1 ∧ Sim L X.K f1 h1 H1 ∧ RV L X.K f1 H1 (.ref n) v') I ⟨f, ρ, h, S, E, by rw [e]; exact fun f1 H1 v' X1 S1 R1 => ⟨f1, X1, S1, R1⟩⟩) fun u s1 ⟨x, H1, I1, rx, f1, X1, S1, R1⟩ => ?_) tree
                obtain ⟨ad, ea, rfl⟩ := rv_ref R1
                obtain rfl : u = Value.ref ad := rx
                obtain ⟨dx, gs, hi, rf⟩ := S1.ins ea eo
                refine getmeth_ok I1 hi cf.cl me ((rf_get (x := m) rf).2 hfn) ?_
                have p1 := PostG.ext p0 X1
                have E1 := E.mono S X1
                refine call_args (L := L) (W := W) (first := [.ref ad]) me.kp ha hkw hst hnm hz hz2 I1 ⟨f1, ρ, h1, S1, E1, (PostG.bind (R := RVs L X.K) p1).imp fun vs H2 ⟨f2, us, h2, e2, X2, S2, R2, p2⟩ => ?_⟩
                refine ⟨f2, ρ, h2, S2, E1.mono S1 X2, (PostG.bind (R := RVs L X.K) p2).imp fun zs H3 ⟨f3, ws, h3, e3, X3, S3, R3, p3⟩ => ?_⟩
                intro s3 uu ww I3 ru rw'
                unfold callBy at p3
                cases eD : Γ.fns.lookup g with
                | none => rw [eD] at p3; exact absurd p3 id
                | some D =>
                  rw [eD] at p3
                  dsimp only at p3
                  split at p3
                  · rename_i hsh
                    have hsh := of_decide_eq_true hsh
                    cases hb : bindV D (es.length + 1) (kws.filterMap (·.arg)) with
                    | none => rw [hb] at p3; exact absurd p3 id
                    | some sel =>
                      rw [hb] at p3
                      dsimp only at p3
                      cases es2 : selV (.ref n :: us) ws sel with
                      | none => rw [es2] at p3; exact absurd p3 id
                      | some ts =>
                        rw [es2, Res.opt_some, Res.bind_ok] at p3
                        obtain ⟨fd, Fo, _, Sh⟩ := (MF g D eD).ex
                        obtain ⟨⟨gg, gV, kb, rel⟩, _⟩ := Sh _ _ _ hsh hb
                        have l1 := hl _ _ _ _ e2
                        have l2 := hl2 _ _ _ _ e3
                        have R0 := (R1.mono S1 X2).mono S2 X3
                        have R2' := R2.mono S2 X3
                        have RR := rel f3 H3 (.ref n :: us) ws (.ref ad :: vs) zs ts (RVs.cons R0 R2') R3 (by rw [List.length_cons, l1]) (by rw [l2, hkl]) es2
                        refine run_shape (us := .ref ad :: uu) (ws := ww) (vs := .ref ad :: vs) Fo kb (L2N.passAt tk σ) I3 (.cons rfl ru) rw' (by rw [List.length_cons, ← R2'.length, l1]) (by rw [← R3.length, l2, hkl]) ?_
                        exact sp_of S3 RR (by rw [selV_len es2, bindGo_len hb]) p3
                  · exact absurd p3 id
              · exact absurd p0 id
        | lst xs =>
          simp only [methBy, eo] at p0
          cases em : lmOf m with
          | none => rw [em] at p0; exact absurd p0 id
          | some lm =>
            rw [em] at p0
            cases ek : kws.filterMap (·.arg) with
            | cons k1 kr => rw [ek] at p0; exact absurd p0 id
            | nil =>
              rw [ek] at p0
              dsimp only at p0
              have hk0 : kws = [] := List.eq_nil_of_length_eq_zero (by rw [← hkl, ek]; rfl)
              subst hk0
              cases es with
              | nil =>
                refine (lm_pe0 (L := L) (W := W) em ho hbase hline).run pins s σ H Q I ⟨f, ρ, h, S, E, ?_⟩
                rw [e]
                intro f1 H1 v' X1 S1 R1
                obtain ⟨ad, ea, rfl⟩ := rv_ref R1
                obtain ⟨vs, hv, rvs⟩ := S1.lst ea eo
                have hd : das = aNil := hz rfl
                subst hd
                exact ⟨.inl ⟨rfl, vs, SqL.of hv⟩, f1, h1, n, ad, [], rfl, ea, S1, RVs.nil, (PostG.ext (r := lmRun lm n [] h1) p0 X1).nox (lmRun_nox _ _ _ _)⟩
              | cons e1 es =>
                refine (lm_pe (L := L) (W := W) em ho ha hbase hst (by simpa using hn) hline).run pins s σ H Q I ⟨f, ρ, h, S, E, ?_⟩
                rw [e]
                intro f1 H1 v' X1 S1 R1
                obtain ⟨ad, ea, rfl⟩ := rv_ref R1
                obtain ⟨vs, hv, rvs⟩ := S1.lst ea eo
                refine ⟨.inl ⟨rfl, vs, SqL.of hv⟩, f1, ρ, h1, S1, E.mono S X1, (PostG.bind (R := RVs L X.K) (PostG.ext p0 X1)).imp fun xs' H2 ⟨f2, us, h2, e2, X2, S2, R2, p2⟩ => ?_⟩
                exact ⟨f2, h2, n, ad, us, rfl, X2.le _ _ ea, S2, R2, p2.nox (lmRun_nox _ _ _ _)⟩
    | non => simp only [methBy] at p0; exact absurd p0 id
    | bl _ => simp only [methBy] at p0; exact absurd p0 id
    | int _ => simp only [methBy] at p0; exact absurd p0 id
    | str z =>
      simp only [methBy] at p0
      cases ek : kws.filterMap (·.arg) with
      | cons k1 kr => rw [ek] at p0; exact absurd p0 id
      | nil =>
        rw [ek] at p0
        dsimp only at p0
        cases em : smOf m with
        | none => rw [em] at p0; exact absurd p0 id
        | some sm =>
          rw [em] at p0
          dsimp only at p0
          have hk0 : kws = [] := List.eq_nil_of_length_eq_zero (by rw [← hkl, ek]; rfl)
          subst hk0
          cases es with
          | nil =>
            have hd : das = aNil := hz rfl
            subst hd
            refine (sm_pe0 (L := L) (W := W) em ho hbase hline).run pins s σ H Q I ⟨f, ρ, h, S, E, ?_⟩
            rw [e]
            intro f1 H1 v' X1 S1 R1
            obtain rfl := rv_str R1
            refine ⟨?_, f1, h1, z, [], rfl, S1, RVs.nil, (PostG.ext p0 X1).nox (smRun_nox _ _ _ _)⟩
            first | exact .inl ⟨rfl, _, rfl⟩ | exact .inr (.inl ⟨rfl, _, rfl⟩) | exact .inr (.inr (.inl ⟨rfl, _, rfl⟩)) | rfl | (unfold tyV; simp)
          | cons e1 es =>
            refine (sm_pe (L := L) (W := W) em ho ha hbase hst (by simpa using hn) hline).run pins s σ H Q I ⟨f, ρ, h, S, E, ?_⟩
            rw [e]
            intro f1 H1 v' X1 S1 R1
            obtain rfl := rv_str R1
            refine ⟨?_, f1, ρ, h1, S1, E.mono S X1, (PostG.bind (R := RVs L X.K) (PostG.ext p0 X1)).imp fun xs' H2 ⟨f2, us, h2, e2, X2, S2, R2, p2⟩ => ?_⟩
            · first | exact .inl ⟨rfl, _, rfl⟩ | exact .inr (.inl ⟨rfl, _, rfl⟩) | exact .inr (.inr (.inl ⟨rfl, _, rfl⟩)) | rfl | (unfold tyV; simp)
            · exact ⟨f2, h2, z, us, rfl, S2, R2, p2.nox (smRun_nox _ _ _ _)⟩
    | tup _ => simp only [methBy] at p0; exact absurd p0 id
    | fn _ => simp only [methBy] at p0; exact absurd p0 id
    | exn _ _ => simp only [methBy] at p0; exact absurd p0 id
/-! ### x in o -/
theorem inM_nox (Γ : Pg) (call : CallT) (neg : Bool) (x y : Val) (h : Mem) : NoX (inM Γ call neg x y h) := by
  unfold inM
  split
  · split
    · split
      · split
        · split <;> exact True.intro
        · exact True.intro
      · exact True.intro
    · exact cmpR_nox _ _ _ _
  · exact cmpR_nox _ _ _ _
theorem sinM (hu : X.A.units + 65 < cLine) (neg : Bool) (tk : L2N.Takes X W) (CF : ∀ c C, Γ.cls.lookup c = some C → ClF L X.K c C) (MF : ∀ g D, Γ.fns.lookup g = some D → FnF L X Γ call g D) :
    OpR X (compareOp (if neg then .NotIn else .In)) (rOpV L X.K (inM Γ call neg)) := by
  intro pins s σ H x' y' v u Q I rx ry ⟨f, h, x, y, S, Rx, Ry, p⟩
  have old : PostG L X.K (RV L X.K) WF f [] H Q (cmpR (if neg then .NotIn else .In) x y h) → wpAny (model X.prog X.w) X.A (compareOp (if neg then .NotIn else .In) v u) (EP X pins σ Q) X.xe s := fun p => scmp (L := L) hu _ pins s σ H x' y' v u Q I rx ry ⟨f, h, x, y, S, Rx, Ry, p⟩
  unfold inM at p
  split at p
  · rename_i n
    split at p
    · rename_i c fs en
      split at p
      · rename_i C ec
        split at p
        · rename_i g eg
          have cf := CF c C ec
          have me := cf.me ("__contains__", g) (PySem.mem_of_lookup eg)
          obtain ⟨ad, ea, rfl⟩ := rv_ref Ry
          obtain rfl : u = Value.ref ad := ry
          obtain ⟨dx, gs, hi, rf⟩ := S.ins ea en
          obtain ⟨mA, O, _, _, _, _⟩ := ins_get I.hok hi
          obtain ⟨od, J, _⟩ := O.look
          obtain ⟨m, fr⟩ := I.fr
          -- the call
          have key : ∀ (Q2 : VK), (∀ (b : Bool) f' H' h', callBy Γ call g 2 [] [.ref n, x] [] h = .ok (.bl b) h' → Ext f f' H H' → Sim L X.K f' h' H' → Q2 (.bl b) H') → wpAny (model X.prog X.w) X.A (PySem.call (.ref (L.F g)) [.ref ad, v]) (EP X pins σ Q2) X.xe s := fun Q2 q2 => by
            cases er : callBy Γ call g 2 [] [.ref n, x] [] h with
            | bad => rw [er] at p; exact absurd p id
            | exc c1 fs1 h1 => rw [er] at p; exact absurd p id
            | ok w h1 =>
              have er0 := er
              unfold callBy at er
              cases eD : Γ.fns.lookup g with
              | none => rw [eD] at er; cases er
              | some D =>
                rw [eD] at er
                dsimp only at er
                split at er
                · rename_i hsh
                  have hsh := of_decide_eq_true hsh
                  cases hb : bindV D 2 [] with
                  | none => rw [hb] at er; cases er
                  | some sel =>
                    rw [hb] at er
                    dsimp only at er
                    cases es2 : selV [.ref n, x] [] sel with
                    | none => rw [es2] at er; cases er
                    | some ts =>
                      rw [es2, Res.opt_some, Res.bind_ok] at er
                      obtain ⟨fd, Fo, _, Sh⟩ := (MF g D eD).ex
                      obtain ⟨⟨gg, gV, kb, rel⟩, _⟩ := Sh _ _ _ hsh hb
                      have RR := rel f H [.ref n, x] [] [.ref ad, x'] [] ts (RVs.cons (mk_ref ea) (RVs.cons Rx RVs.nil)) RVs.nil rfl rfl es2
                      refine run_shape (us := [.ref ad, v]) (ws := []) (vs := [.ref ad, x']) (zs := []) Fo kb (L2N.passAt tk σ) I (.cons rfl (.cons rx .nil)) .nil rfl rfl ?_
                      refine sp_of S RR (by rw [selV_len es2, bindGo_len hb]) ?_
                      rw [er]
                      intro f' H' v' X' S' R'
                      cases w with
                      | bl b =>
                        obtain rfl := rv_bl R'
                        exact q2 b f' H' h1 er0 X' S'
                      | _ => rw [er0] at p; exact absurd p id
                · cases er
          have fin : ∀ (b : Bool) f' H' h', callBy Γ call g 2 [] [.ref n, x] [] h = .ok (.bl b) h' → Ext f f' H H' → Sim L X.K f' h' H' → Q (.bl (b != neg)) H' := fun b f' H' h' er X' S' => by
            rw [er] at p
            exact p f' H' _ X' S' (mk_bl _)
          cases neg with
          | false =>
            refine PySem.W.in_K fr I.ok.mod.kin J me.at_ me.fn (thn (key (fun w H' => ∃ b, w = .bl b ∧ Q (.bl b) H') (fun b f' H' h' er X' S' => ⟨b, rfl, by simpa using fin b f' H' h' er X' S'⟩)) fun r s1 ⟨w, H1, I1, rw', b, ew, q⟩ => ?_)
            subst ew
            obtain rfl : r = Value.bool b := rw'
            exact wpAny_truthy_bool ⟨.bl b, H1, I1, rfl, q⟩
          | true =>
            refine PySem.W.notIn_K fr I.ok.mod.kin J me.at_ me.fn (thn (key (fun w H' => ∃ b, w = .bl b ∧ Q (.bl (!b)) H') (fun b f' H' h' er X' S' => ⟨b, rfl, by simpa using fin b f' H' h' er X' S'⟩)) fun r s1 ⟨w, H1, I1, rw', b, ew, q⟩ => ?_)
            subst ew
            obtain rfl : r = Value.bool b := rw'
            exact wpAny_truthy_bool ⟨.bl (!b), H1, I1, rfl, q⟩
        · exact absurd p id
      · exact absurd p id
    · exact old p
  · exact old p
theorem s_in (hu : X.A.units + 65 < cLine) (neg : Bool) (tk : L2N.Takes X W) (CF : ∀ c C, Γ.cls.lookup c = some C → ClF L X.K c C) (MF : ∀ g D, Γ.fns.lookup g = some D → FnF L X Γ call g D)
    (ha : PE X a (GoodE L X.K W da)) (hb : PE X b (GoodE L X.K W db)) (hm : behindInMarks (if neg then .NotIn else .In) b = false) : PE X (.Compare a [if neg then .NotIn else .In] [b] pos) (GoodE L X.K W (eIn Γ call neg da db)) :=
  peImp (pe_cmpR (sinM (L := L) hu neg tk CF MF) ha hb hm) fun σ H Q G => good_e2 (inM_nox Γ call neg) G
theorem inM_bl {neg : Bool} {x y : Val} {h : Mem} {z : Val} {h' : Mem} (e : inM Γ call neg x y h = .ok z h') : ∃ k, z = .bl k := by
  unfold inM at e
  split at e
  · split at e
    · split at e
      · split at e
        · split at e
          · cases e; exact ⟨_, rfl⟩
          · cases e
        · cases e
      · cases e
    · exact cmpR_bl e
  · exact cmpR_bl e
theorem t_in (hu : X.A.units + 65 < cLine) (neg : Bool) (tk : L2N.Takes X W) (CF : ∀ c C, Γ.cls.lookup c = some C → ClF L X.K c C) (MF : ∀ g D, Γ.fns.lookup g = some D → FnF L X Γ call g D)
    (ha : PE X a (GoodE L X.K W da)) (hb : PE X b (GoodE L X.K W db)) (hm : behindInMarks (if neg then .NotIn else .In) b = false) : PT X (.Compare a [if neg then .NotIn else .In] [b] pos) (GoodT L X.K W (tE (eIn Γ call neg da db))) := by
  refine t_of_val (pt_cmpR (sinM (L := L) hu neg tk CF MF) ha hb hm) (fun σ H Q G => good_e2 (inM_nox Γ call neg) G) fun ρ h x h1 e1 => ?_
  unfold eIn e2 at e1
  cases q : da ρ h with
  | ok y h2 =>
    rw [q] at e1
    cases q2 : db ρ h2 with
    | ok z h3 => rw [Res.bind_ok, q2] at e1; exact inM_bl e1
    | exc _ _ _ => rw [Res.bind_ok, q2] at e1; cases e1
    | bad => rw [Res.bind_ok, q2] at e1; cases e1
  | exc _ _ _ => rw [q] at e1; cases e1
  | bad => rw [q] at e1; cases e1
/-! ### isinstance -/
theorem ty_ok {K : PySem.W.Frag} {f : Nm} {h : Mem} {H : Hp} (S : Sim L K f h H) {v : Val} {v' : V} {t : String} (r : RV L K f H v v') (e : tyOf h v = some t) : TyX K H v' (.type t) ∧ t ∈ ["NoneType", "bool", "int", "str", "tuple", "list"] := by
  cases v with
  | non => obtain rfl := rv_non r; cases e; exact ⟨.base .non, by simp⟩
  | bl x => obtain rfl := rv_bl r; cases e; exact ⟨.base (.bl x), by simp⟩
  | int x => obtain rfl := rv_int r; cases e; exact ⟨.base (.int x), by simp⟩
  | str x => obtain rfl := rv_str r; cases e; exact ⟨.base (.str x), by simp⟩
  | tup ts =>
    cases e
    obtain ⟨ad, vs, rfl, sa, ra⟩ := rv_tup r
    refine ⟨?_, by simp⟩
    rcases sa with (sa | ⟨ob, sa⟩) | ⟨ob, its, n, h1, h2, _⟩
    · exact .base (.tup sa)
    · exact .fTuple sa
    · exact .kTuple h1 h2
  | ref n =>
    obtain ⟨ad, ea, rfl⟩ := rv_ref r
    simp only [tyOf] at e
    cases q : h[n]? with
    | none => rw [q] at e; cases e
    | some ob =>
      rw [q] at e
      cases ob with
      | lst xs => cases e; exact ⟨S.tyL ea (.inl q), by simp⟩
      | rol xs => cases e; exact ⟨S.tyL ea (.inr q), by simp⟩
      | dic kvs => cases e
      | frd kvs => cases e
      | ins c fs => cases e
  | fn g => cases e
  | exn _ _ => cases e
theorem kit_tab : (["NoneType", "bool", "int", "str", "tuple", "list"].all fun t => tyNames.all fun T => decide (kitB t T.2 = some (subTy t T.2))) = true := by decide +kernel
theorem ty_boot : (tyNames.all fun T => decide (bootBuiltins T.1 = some (.type T.2)) && decide (T.1 ≠ "__name__") && decide ((T.1 == ("__debug__" : Str)) = false)) = true := by decide +kernel
theorem kit_sub {K : PySem.W.Frag} {t : String} {x : Str} {T : String} (ht : t ∈ ["NoneType", "bool", "int", "str", "tuple", "list"]) (hT : (x, T) ∈ tyNames) : PySem.W.kitOne K (.type t) (.type T) = some (subTy t T) :=
  kit_ty (of_decide_eq_true (List.all_eq_true.mp (List.all_eq_true.mp kit_tab t ht) (x, T) hT))
theorem boot_ty {x : Str} {T : String} (hT : (x, T) ∈ tyNames) : bootBuiltins x = some (.type T) ∧ x ≠ "__name__" ∧ (x == ("__debug__" : Str)) = false := by
  have h := List.all_eq_true.mp ty_boot _ hT
  simp only [Bool.and_eq_true, decide_eq_true_eq] at h
  exact ⟨h.1.1, h.1.2, h.2⟩
theorem s_isi1 {x : Str} {T : String} {p p1 pos : Pos} (hg : Gl X "isinstance") (hm : X.mg "isinstance" = none) (hT : (x, T) ∈ tyNames) (hgx : Gl X x) (hmx : X.mg x = none) (ha : PE X a (GoodE L X.K W da)) (hst : noStar a = true) :
    PE X (.Call (.Name "isinstance" p) [a, .Name x p1] [] pos) (GoodE L X.K W (eIsi [T] da)) := by
  obtain ⟨bv, bn, bd⟩ := boot_ty hT
  refine peImp (pe_callB call_isi hg hm boot_isinstance (pa_cons ha (pa_cons (pe_bltn (v := .ty T) hgx hmx bv rfl bn bd) pa_nil rfl) (star_cons hst)) (by decide) (by decide) (star_cons hst) rfl) fun σ H Q ⟨f, ρ, h, S, E, p⟩ => ?_
  refine ⟨f, ρ, h, S, E, (PostG.bind (R := RV L X.K) p).imp fun v' H1 ⟨f1, v, h1, e1, X1, S1, R1, p1⟩ => ?_⟩
  unfold isiV at p1
  cases et : tyOf h1 v with
  | none => rw [et] at p1; exact absurd p1 id
  | some t =>
    rw [et] at p1
    obtain ⟨ty, tm⟩ := ty_ok S1 R1 et
    refine ⟨v', .ty T, _, _, subTy t T, rfl, .ty T, ty, kit_sub tm hT, ?_⟩
    have z := now S1 (mk_bl _) p1
    simpa using z
theorem clsV_tys : ∀ {xs : List (Str × String)}, (∀ q ∈ xs, q ∈ tyNames) → ∀ {t : String}, t ∈ ["NoneType", "bool", "int", "str", "tuple", "list"] → ∀ {K : PySem.W.Frag}, PySem.W.kitAny K (.type t) (xs.map fun q => Value.type q.2) = some ((xs.map (·.2)).any (subTy t))
  | [], _, t, _, K => kitAny_nil
  | q :: xs, hq, t, ht, K => by
    have h1 := kit_sub (K := K) ht (hq q List.mem_cons_self)
    have h2 := clsV_tys (xs := xs) (fun q hq' => hq q (List.mem_cons_of_mem _ hq')) ht (K := K)
    rw [List.map_cons, List.map_cons, List.any_cons]
    refine kitAny_cons h1 (fun e => ?_) (fun e => by rw [e]; rfl)
    rw [e, Bool.false_or]
    exact h2
theorem paired_ty : ∀ xs : List (Str × String), Paired ClsV (xs.map fun q => V.ty q.2) (xs.map fun q => Value.type q.2)
  | [] => .nil
  | q :: xs => .cons (.ty q.2) (paired_ty xs)
/-- the names of types in a tuple -/
theorem pa_tys : ∀ {xs : List (Str × String)} {es : List Expr}, es.map (fun e => match e with | .Name x _ => some x | _ => none) = xs.map (fun q => some q.1) → (∀ q ∈ xs, q ∈ tyNames ∧ Gl X q.1 ∧ X.mg q.1 = none) → PA X es (fun _ H Q => Q (xs.map fun q => V.ty q.2) H)
  | [], [], _, _ => paImp pa_nil fun σ H Q h => h
  | [], _ :: _, e, _ => by simp at e
  | _ :: _, [], e, _ => by simp at e
  | q :: xs, e :: es, he, hq => by
    simp only [List.map_cons, List.cons.injEq] at he
    obtain ⟨h1, h2⟩ := he
    obtain ⟨hT, hg, hm⟩ := hq q List.mem_cons_self
    obtain ⟨bv, bn, bd⟩ := boot_ty (x := q.1) (T := q.2) hT
    cases e with
    | Name x p =>
      simp only [Option.some.injEq] at h1
      subst h1
      exact paImp (pa_cons (pe_bltn (v := .ty q.2) hg hm bv rfl bn bd) (pa_tys h2 fun r hr => hq r (List.mem_cons_of_mem _ hr)) rfl) fun σ H Q h => h
    | _ => simp at h1
theorem s_isiT {xs : List (Str × String)} {k : Nat} {p p1 pos : Pos} (hg : Gl X "isinstance") (hm : X.mg "isinstance" = none) (hxs : es.map (fun e => match e with | .Name x _ => some x | _ => none) = xs.map (fun q => some q.1)) (hq : ∀ q ∈ xs, q ∈ tyNames ∧ Gl X q.1 ∧ X.mg q.1 = none)
    (ha : PE X a (GoodE L X.K W da)) (hst : noStar a = true) (hlen : xs.length ≤ sizeLine) : PE X (.Call (.Name "isinstance" p) [a, .Tuple es k p1] [] pos) (GoodE L X.K W (eIsi (xs.map (·.2)) da)) := by
  refine peImp (pe_callB call_isiT hg hm boot_isinstance (pa_cons ha (pa_cons (pe_tup (pa_tys hxs hq)) pa_nil rfl) (star_cons hst)) (by decide) (by decide) (star_cons hst) rfl) fun σ H Q ⟨f, ρ, h, S, E, p⟩ => ?_
  refine ⟨f, ρ, h, S, E, (PostG.bind (R := RV L X.K) p).imp fun v' H1 ⟨f1, v, h1, e1, X1, S1, R1, p1⟩ => ?_⟩
  unfold isiV at p1
  refine ⟨by rw [List.length_map]; exact hlen, fun tp htp => ?_⟩
  cases et : tyOf h1 v with
  | none => rw [et] at p1; exact absurd p1 id
  | some t =>
    rw [et] at p1
    have x2 := ext_new (f := f1) (o := .tup (xs.map fun q => V.ty q.2)) htp
    have S2 := S1.out (o := .tup (xs.map fun q => V.ty q.2)) htp
    obtain ⟨ty, tm⟩ := ty_ok S2 (R1.mono S1 x2) et
    refine ⟨v', tp, _, _, _, _, rfl, upd_same, paired_ty xs, ty, clsV_tys (fun q z => (hq q z).1) tm, ?_⟩
    exact p1 f1 _ _ x2 S2 (mk_bl _)
end
end Mp
set_option Elab.async false
set_option linter.all false
set_option maxRecDepth 100000
set_option maxHeartbeats 2000000
namespace Mp
open PySem PySem.Spec PyProof.Rows L2
/-! ### own brackets -/
section
variable {L : Lk} {X : Cx} {W : WX} {a b c : Expr} {da db dc : ME} {pos : Pos} {Γ : Pg} {call : CallT}
theorem own_call {A : Around} (hA : A = X.A ∨ A = X.A.in1) (tk : L2N.Takes X W) (MF : ∀ g D, Γ.fns.lookup g = some D → FnF L X Γ call g D) {g : Str} {n : Nat} {f : Nm} {h : Mem} {ts : List Val} {us : List Value} {vs : List V} {pins : List (Addr × Obj)} {σ : L2.St} {H : Hp} {s : Shared} {Q : VK}
    (I : Inv X pins σ H s) (S : Sim L X.K f h H) (R : RVs L X.K f H ts vs) (r : Vals vs us) (l : ts.length = n) (p : PostG L X.K (RV L X.K) W f σ H Q (callBy Γ call g n [] ts [] h)) :
    wpAny (model X.prog X.w) A (PySem.call (.ref (L.F g)) us) (EP X pins σ Q) X.xe s := by
  unfold callBy at p
  cases eD : Γ.fns.lookup g with
  | none => rw [eD] at p; exact absurd p id
  | some D =>
    rw [eD] at p
    dsimp only at p
    split at p
    · rename_i hsh
      have hsh := of_decide_eq_true hsh
      cases hb : bindV D n [] with
      | none => rw [hb] at p; exact absurd p id
      | some sel =>
        rw [hb] at p
        dsimp only at p
        cases es2 : selV ts [] sel with
        | none => rw [es2] at p; exact absurd p id
        | some ws =>
          rw [es2, Res.opt_some, Res.bind_ok] at p
          obtain ⟨fd, Fo, _, Sh⟩ := (MF g D eD).ex
          obtain ⟨⟨gg, gV, kb, rel⟩, _⟩ := Sh _ _ _ hsh hb
          have RR := rel f H ts [] vs [] ws R RVs.nil l rfl es2
          refine run_shapeA hA (us := us) (ws := []) (vs := vs) (zs := []) Fo kb (L2N.passAt tk σ) I r .nil (by rw [← R.length]; exact l) rfl ?_
          exact sp_of S RR (by rw [selV_len es2, bindGo_len hb]) p
    · exact absurd p id
/-- not a slice -/
def PlainI2 (b : Expr) : Prop := ∀ v u : Value, subscripted b true v u = runValue (.builtin "lifetime.subscript" ⟨[v, u], []⟩)
theorem s_idxM (hu : X.A.units + 65 < cLine) (tk : L2N.Takes X W) (CF : ∀ c C, Γ.cls.lookup c = some C → ClF L X.K c C) (MF : ∀ g D, Γ.fns.lookup g = some D → FnF L X Γ call g D)
    (ha : PE X a (GoodE L X.K W da)) (hb : PE X b (GoodE L X.K W db)) (hs : PlainIx b) (hs2 : PlainI2 b) : PE X (.Subscript a b pos) (GoodE L X.K W (eIdxM Γ call da db)) := by
  refine ⟨fun pins s σ H Q I ⟨f, ρ, h, S, E, p⟩ => ?_⟩
  have G : GoodE L X.K W da σ H fun x' H1 => GoodE L X.K W db σ H1 fun y' H2 => ∃ f2 h2 x y, Sim L X.K f2 h2 H2 ∧ RV L X.K f2 H2 x x' ∧ RV L X.K f2 H2 y y' ∧ PostG L X.K (RV L X.K) W f2 σ H2 Q (idxM Γ call x y h2) := by
    refine ⟨f, ρ, h, S, E, (PostG.bind (R := RV L X.K) p).imp fun x' H1 ⟨f1, x, h1, e1, X1, S1, R1, p1⟩ => ?_⟩
    refine ⟨f1, ρ, h1, S1, E.mono S X1, (PostG.bind (R := RV L X.K) p1).imp fun y' H2 ⟨f2, y, h2, e2, X2, S2, R2, p2⟩ => ?_⟩
    exact ⟨f2, h2, x, y, S2, R1.mono S1 X2, R2, p2⟩
  refine Subscript_ (binT ha hb I G fun v u s2 x' y' H2 I2 rx ry ⟨f2, h2, x, y, S2, Rx, Ry, p2⟩ => ?_)
  have old : PostG L X.K (RV L X.K) W f2 σ H2 Q (Res.opt (idx h2 x y) h2) → wpAny (model X.prog X.w) X.A (subscriptTail a b v u) (EP X pins σ Q) X.xe s2 := fun p => ix_any hu a b pins s2 σ H2 x' y' v u Q I2 rx ry (idx_ok S2 Rx Ry p) (hs _ _)
  unfold idxM at p2
  split at p2
  · rename_i n
    split at p2
    · rename_i c fs en
      split at p2
      · rename_i C ec
        split at p2
        · rename_i g eg
          have cf := CF c C ec
          have me := cf.me ("__getitem__", g) (PySem.mem_of_lookup eg)
          obtain ⟨ad, ea, rfl⟩ := rv_ref Rx
          obtain rfl : v = Value.ref ad := rx
          obtain ⟨dx, gs, hi, rf⟩ := S2.ins ea en
          obtain ⟨mA, O, _, _, _, _⟩ := ins_get I2.hok hi
          obtain ⟨od, J, _⟩ := O.look
          obtain ⟨m, fr⟩ := I2.fr
          have fi : PySem.W.fnIn X.K (L.F g) = true := by
            cases eD : Γ.fns.lookup g with
            | none => unfold callBy at p2; rw [eD] at p2; exact absurd p2 id
            | some D => exact (MF g D eD).fi
          exact PySem.W.sub_K fr I2.ok.mod.kin J me.at_ fi me.fn (own_call (.inr rfl) tk MF I2 S2 (RVs.cons (mk_ref ea) (RVs.cons Ry RVs.nil)) (.cons rfl (.cons ry .nil)) rfl p2) (hs2 _ _)
        · exact absurd p2 id
      · exact absurd p2 id
    · exact old p2
  · exact old p2
/-! o[i] = v -/
def PSetG (X : Cx) (t : L2.St → TSet) : Prop :=
  ∀ (pins : List (Addr × Obj)) (s : Shared) (σ : L2.St) (H : Hp) (o i v : V) (ov iv u : Value) (Q : Hp → Prop), Inv X pins σ H s → RelV o ov → RelV i iv → RelV v u → t σ o i v H Q →
    wpAny (model X.prog X.w) X.A (setItem ov iv u) (fun _ s' => ∃ H', Inv X pins σ H' s' ∧ Q H') X.xe s
def gSubG (to ti : TE) (t : L2.St → TSet) : TG := fun v σ H Q => to σ H fun o H1 => ti σ H1 fun i H2 => t σ o i v H2 fun H3 => Q σ H3
theorem pg_subG {o i : Expr} {to ti : TE} {t : L2.St → TSet} (ho : PE X o to) (hi : PE X i ti) (hs : PSetG X t)
    (ha : ∀ v, assign (.Subscript o i pos) X.env v = (do
      let ov ← holding [v] (eval o X.env)
      let iv ← holding [v, ov] (eval i X.env)
      standAt pos
      holding [v, ov, iv] (setItem ov iv v)
      release [v, ov, iv] [])) : PG X (.Subscript o i pos) (gSubG to ti t) := by
  refine ⟨fun pins s σ H v u Q I r h => ?_⟩
  rw [ha]
  refine wpAny_bind (wpAny_holding (thn (ho.run pins s σ H _ I h) fun ov s1 ⟨x, H1, I1, r1, q1⟩ => ?_))
  refine wpAny_bind (wpAny_holding (thn (hi.run pins s1 σ H1 _ I1 q1) fun iv s2 ⟨y, H2, I2, r2, q2⟩ => ?_))
  refine wpAny_bind (wpAny_standAt (wpAny_bind (wpAny_holding (thn (hs pins s2 σ H2 x y v ov iv u _ I2 r1 r2 r q2) fun _ s3 ⟨H3, I3, q3⟩ => ?_))))
  exact wpAny_release ⟨σ, H3, I3, q3⟩
def rSetM (L : Lk) (K : PySem.W.Frag) (W : WX) (Γ : Pg) (call : CallT) : L2.St → TSet := fun σ o' i' v' H Q => ∃ f h o i v, Sim L K f h H ∧ RV L K f H o o' ∧ RV L K f H i i' ∧ RV L K f H v v' ∧ PostG L K (RV L K) W f σ H (fun _ H2 => Q H2) (setIdxM Γ call o i v h)
theorem set_own (hu : X.A.units + 65 < cLine) (tk : L2N.Takes X W) (CF : ∀ c C, Γ.cls.lookup c = some C → ClF L X.K c C) (MF : ∀ g D, Γ.fns.lookup g = some D → FnF L X Γ call g D) : PSetG X (rSetM L X.K W Γ call) := by
  intro pins s σ H o' i' v' ov iv u Q I ro ri rv ⟨f, h, o, i, v, S, Ro, Ri, Rv, p⟩
  have old : PostG L X.K (RV L X.K) W f σ H (fun _ H2 => Q H2) (setIdx o i v h) → wpAny (model X.prog X.w) X.A (setItem ov iv u) (fun _ s' => ∃ H', Inv X pins σ H' s' ∧ Q H') X.xe s := fun p =>
    set_any hu pins s σ H o' i' v' ov iv u Q I ro ri rv (setIdx_ok (W := W) (σ := σ) (Q := fun _ H2 => Q H2) S Ro Ri Rv p)
  unfold setIdxM at p
  split at p
  · rename_i n
    split at p
    · rename_i c fs en
      split at p
      · rename_i C ec
        split at p
        · rename_i g eg
          have cf := CF c C ec
          have me := cf.me ("__setitem__", g) (PySem.mem_of_lookup eg)
          obtain ⟨ad, ea, rfl⟩ := rv_ref Ro
          obtain rfl : ov = Value.ref ad := ro
          obtain ⟨dx, gs, hi, rf⟩ := S.ins ea en
          obtain ⟨mA, O, _, _, _, _⟩ := ins_get I.hok hi
          obtain ⟨od, J, _⟩ := O.look
          obtain ⟨m, fr⟩ := I.fr
          have p2 : PostG L X.K (RV L X.K) W f σ H (fun _ H2 => Q H2) (callBy Γ call g 3 [] [.ref n, i, v] [] h) := by
            cases er : callBy Γ call g 3 [] [.ref n, i, v] [] h with
            | ok w h' =>
              rw [er] at p
              exact fun f' H' v' X' S' _ => p f' H' .non X' S' mk_non
            | exc c fs h' => rw [er] at p; exact p
            | bad => rw [er] at p; exact p
          exact PySem.W.ksp_setItem fr I.ok.mod.kin J (cf.sq (by rw [eg]; rfl)) me.at_ me.fn (wpAny_mono (own_call (.inl rfl) tk MF I S (RVs.cons (mk_ref ea) (RVs.cons Ri (RVs.cons Rv RVs.nil))) (.cons rfl (.cons ri (.cons rv .nil))) rfl p2) (fun _ s' ⟨_, H', I', _, q⟩ => ⟨H', I', q⟩) fun _ _ z => z)
        · exact absurd p id
      · exact absurd p id
    · exact old p
  · exact old p
theorem g_idxM {D : Ends} {σ : L2.St} {H : Hp} {oi ii ei : ME} (G : GoodS L X.K W (sSetIdxM Γ call oi ii ei) D σ H) : tAsg (GoodE L X.K W ei) (gSubG (GoodE L X.K W oi) (GoodE L X.K W ii) (rSetM L X.K W Γ call)) D σ H := by
  obtain ⟨f, ρ, h, S, E, p⟩ := G
  refine ⟨f, ρ, h, S, E, (PostS.onE (R := RV L X.K) E S p).imp fun v' H1 ⟨f1, v, h1, e1, X1, S1, E1, R1, p1⟩ => ?_⟩
  refine ⟨f1, ρ, h1, S1, E1, (PostS.onE (R := RV L X.K) E1 S1 p1).imp fun o' H2 ⟨f2, o, h2, e2, X2, S2, E2, R2, p2⟩ => ?_⟩
  refine ⟨f2, ρ, h2, S2, E2, (PostS.onE (R := RV L X.K) E2 S2 p2).imp fun i' H3 ⟨f3, i, h3, e3, X3, S3, E3, R3, p3⟩ => ?_⟩
  refine ⟨f3, h3, o, i, v, S3, R2.mono S2 X3, R3, (R1.mono S1 X2).mono S2 X3, ?_⟩
  exact (PostS.onE (R := RV L X.K) E3 S3 p3).imp fun v' H4 ⟨f4, v4, h4, e4, X4, S4, E4, R4, p4⟩ => p4 f4 H4 σ (Ext.refl _ _) S4 E4
theorem st_setIdxM {tpos : Pos} (hu : X.A.units + 65 < cLine) (tk : L2N.Takes X W) (CF : ∀ c C, Γ.cls.lookup c = some C → ClF L X.K c C) (MF : ∀ g D, Γ.fns.lookup g = some D → FnF L X Γ call g D)
    (ha : PE X a (GoodE L X.K W da)) (hb : PE X b (GoodE L X.K W db)) (hc : PE X c (GoodE L X.K W dc)) (hs : swapsWithSole [.Subscript a b tpos] c pos.line X.env = pure false) (hw : swappedStores [.Subscript a b tpos] c X.env = pure none)
    (hg : ∀ v, assign (.Subscript a b tpos) X.env v = (do
      let ov ← holding [v] (eval a X.env)
      let iv ← holding [v, ov] (eval b X.env)
      standAt tpos
      holding [v, ov, iv] (setItem ov iv v)
      release [v, ov, iv] [])) : PS X (.Assign [.Subscript a b tpos] c pos) (GoodS L X.K W (sSetIdxM Γ call da db dc)) :=
  psImp (ps_asg hc (pg_subG ha hb (set_own hu tk CF MF) hg) hs hw rfl) fun D σ H G => g_idxM G
end
end Mp
set_option Elab.async false
set_option linter.all false
set_option maxRecDepth 100000
set_option maxHeartbeats 2000000
namespace Mp
open PySem PySem.Spec PyProof.Rows L2 NdefX
/-! ### the own exceptions: __init__ with super().__init__(..) -/
section
variable {X : Cx} {pins : List (Addr × Obj)} {σ : L2.St} {H : Hp} {s : Shared} {a C u : Addr} {A : Around} {E : Value → Shared → Prop}
/-- ValueError.__init__ bound to the exception that is being made, called -/
theorem call_mw {us : List Value} {Q : Value → Shared → Prop} (T : OexC X.K C) (I : Inv X pins σ H s) (e : H a = some (exo a C none)) (hu : s.heap.get? u = some (PySem.W.kxs_mw "ValueError.__init__" a)) (hl : us.length ≤ sizeLine) (h : ∀ s', Inv X pins σ H s' → Q .none s') :
    wpAny (model X.prog X.w) A (call (.ref u) us) Q E s := by
  obtain ⟨nm, q, N, bs, bm, sn, sub, ab, col, dd, k0, k1, k2, k3, k5, hC, hbm⟩ := T.cls
  obtain ⟨t1, ho⟩ := exo_at I.hok e
  obtain ⟨hp, g, d, t, os⟩ := s
  have fin : ∀ h', (∀ b o, b ≠ a → hp.get? b = some o → h'.get? b = some o) → h'.get? a = some ({ cls := .ref C, dict := none, data := .fields #[.ref hp.objs.size, .none, .none, .none, .bool false, .none] } : Obj) → Q .none ⟨h', g, d, t, os⟩ := fun h' k hx => by
    have J := I.write (t' := t) (x := a) (e := a) (o := exo a C none) (by rw [e]; exact True.intro) (.inl rfl) k ⟨_, hx⟩ (exo_ok hx)
    have eu : upd H a (exo a C none) = H := by
      funext b
      by_cases hb : b = a
      · rw [hb, upd_same, e]
      · rw [upd_ne hb]
    rw [eu] at J
    exact h _ J
  refine wpAny_call (codeAny_of_tree ?_)
  show wpAny _ A.in1 (callAny (.ref u) ⟨us, []⟩) _ _ _
  simp only [callAny]
  refine wpAny_bind (wpAny_load hu ?_)
  simp only [PySem.W.kxs_mw, show (Value.type "method-wrapper" == Value.type "method" || Value.type "method-wrapper" == Value.type "builtin_function_or_method" || Value.type "method-wrapper" == Value.type "method-wrapper") = true by decide, if_true]
  refine PySem.W.KFB.if_so (by decide) ?_
  refine wpAny_bind (PySem.W.check_bound_init F.excBase_ValueError.toExcCallFacts (I.kIn _ _ hC) ho rfl ?_)
  refine wpAny_bind (wpAny_pure (wpAny_pure ?_))
  refine ⟨PySem.plainId_quiet F.excBase_ValueError.init.plain _, codeAny_builtin F.excBase_ValueError.initEntry ?_⟩
  exact PySem.W.exc_init_tree (cls := .ref C) (t0 := t1) (dv := none) (c2 := .none) (c3 := .none) (b4 := .bool false) ho hl fun h' k hx _ => fin h' k hx
end
end Mp
set_option Elab.async false
set_option linter.all false
set_option maxRecDepth 100000
set_option maxHeartbeats 2000000
namespace Mp
open PySem PySem.Spec PyProof.Rows L2 NdefX
/-- the body of such an __init__ -/
def XBody (body : List Stmt) (sf pn fld : Str) : Prop := ∃ (pre : Str) (j : Nat) (p0 p1 p2 p3 p4 p5 p6 p7 p8 q1 q2 q3 q4 q5 q6 : Pos),
  body = [.Expr (.Call (.Attribute (.Call (.Name "super" p0) [] [] p1) "__init__" p2) [.JoinedStr [.Constant (.str pre) j p3, .FormattedValue (.Name pn p4) (-1) none p5] p6] [] p7) p8,
    .Assign [.Attribute (.Name sf q1) fld q2] (.Call (.Name "copy_of" q3) [.Name pn q4] [] q5) q6] ∧ pre.length ≤ 1000 ∧ (p2.endLine == p7.line) = true
/-- what the written part says of a class C whose __init__ is that of D -/
structure XcK (K : PySem.W.Frag) (C D : Addr) (fld : Str) : Prop where
  ox : OexC K C
  mro : PySem.W.mroIn K C (.ref D) = some true
  sup : PySem.W.ks_superIn K C D "__init__" = some (some (.builtin "ValueError.__init__"))
  sub : PySem.W.subIn K (.ref C) (.type "ValueError") = some true
  no : PySem.W.findIn K (.ref C) fld = some none
/-- what it says of the __init__ at fI -/
structure XiK (P : Program) (K : PySem.W.Frag) (mg : Str → Option Value) (fI D : Addr) (fd : FuncData) (sf pn fld : Str) : Prop where
  ex : ∃ (name qual : Str) (params : Arguments) (body : List Stmt) (scope : Scope) (cc ca : Addr) (doc pm ct oc : Value) (od an : Option Addr) (osl : Array (Option Value)) (N : List Str), fd = PySem.W.ksFn name qual params body scope .none .none doc pm an (.ref ca) ct cc ∧
    K.lookup fI = some ⟨oc, od, .func fd, osl⟩ ∧ PySem.W.codeIn K (.ref ca) qual = true ∧
    (∃ ccl cdd vs ccs file tf, K.lookup ca = some ⟨ccl, cdd, .fields vs, ccs⟩ ∧ vs[2]? = some (.str file tf) ∧ ((P.main.file : Str) == file) = true) ∧
    (∃ cl cld csl, K.lookup cc = some ⟨cl, cld, .cell (some (.ref D)), csl⟩) ∧ NScope N [sf, pn] ["__class__"] scope ∧ scope.names.lookup ("super" : Str) = some .globalImplicit ∧ scope.names.lookup ("copy_of" : Str) = some .globalImplicit ∧
    (∃ ar, (params.posonlyargs ++ params.args).head? = some ar ∧ ar.arg = sf) ∧ XBody body sf pn fld
  cd : ∃ cdD, PySem.W.clsIn K D = some cdD
  mgs : mg "super" = none
  top : (P.main.scope.names.lookup ("super" : Str)).isSome = false
  opq : PySem.W.nsIn K PySem.cStatics "thirdparty.any" = some none
  nsf : (sf == ("__debug__" : Str)) = false ∧ (sf == ("__classdict__" : Str)) = false
  npn : (pn == ("__debug__" : Str)) = false ∧ (pn == ("__classdict__" : Str)) = false
/-- a value that a message takes -/
def fmtOk : Val → Bool
  | .str x => decide (x.length ≤ 100000)
  | .int i => decide (i.natAbs.log2 < 1920)
  | _ => false
section
variable (L : Lk)
def spI (K : PySem.W.Frag) (D : Addr) (fld : Str) (m : List Val → Mem → Res Val) : Sp := fun vs H Q E => ∃ a C y' f h y, vs = [.ref a, y'] ∧ H a = some (exo a C none) ∧ XcK K C D fld ∧ Sim L K f h H ∧ RV L K f H y y' ∧ fmtOk y = true ∧
  PostG L K (RV L K) (fun _ _ _ _ => False) f [] H (fun z' H' => ∀ dx, H' dx = none → dx ≠ a → Q .non (upd (upd H' dx (exd dx [(fld, z')])) a (exo a C (some dx)))) (m [y] h)
end
theorem super_tree {X : Cx} {o : Expr} {m : Str} {es : List Expr} {apos pos : Pos} (hf : methodCallForm (es.length + ([] : List Keyword).length) (backTo pos (starEach es X.env)) (backToKw pos (keywordEach [] X.env)) = true) (hl : (apos.endLine == pos.line) = true) :
    eval (.Call (.Attribute o m apos) es [] pos) X.env = (do
      let ov ← attributeBase o m X.env (eval o X.env)
      standAt apos.atName
      let (f, first) ← holding [ov] (getMethod ov m (do return (← importBound o X.env).getD true))
      callWith pos f first (backTo pos (starEach es X.env)) []) := by
  rw [arm_eval_Call]
  simp only [methodCall, calleeOf, hf, if_true, methodCallPos, hl, Bool.not_true, Bool.false_or, pure_bind]
  rfl
theorem int_text_le {i : Int} (h : i.natAbs.log2 < 1920) : (Str.ofString (toString i)).length ≤ 2000 := by
  have e := int_text_length_le (k := 1920) (by decide) h
  rw [PySem.ofString_length]; omega
theorem Sim.exo_out {L : Lk} {K : PySem.W.Frag} {f : Nm} {h : Mem} {H : Hp} {a C : Addr} {d : Option Addr} (S : Sim L K f h H) (e : H a = some (exo a C d)) (n : Nat) : f n ≠ some a := fun z => by
  obtain ⟨o, _, ro⟩ := S.at_ n a z
  cases o with
  | lst xs => obtain ⟨ws, q, _⟩ := ro; rw [q] at e; cases e
  | ins c fs => obtain ⟨dx, gs, q, _⟩ := ro; rw [q] at e; cases e
  | rol xs => obtain ⟨o', ws, q, _⟩ := ro; rw [q] at e; cases e
  | dic kvs => obtain ⟨gs, q, _⟩ := ro; rw [q] at e; cases e
  | frd kvs => obtain ⟨o, gs, q, _⟩ := ro; rw [q] at e; cases e
section
variable {P : Program} {w : World} {K : PySem.W.Frag} {mg : Str → Option Value} {base : Heap} {L : Lk}
theorem init_ok {k : Nat} {fI D fc : Addr} {fd fdc : FuncData} {sf pn cp fld : Str} {m : List Val → Mem → Res Val} (FI : XiK P K mg fI D fd sf pn fld)
    (Fc : FnOk P w K mg base (L2N.CX P w) k fc fdc [cp] (spF L K 1 [] m)) (hmc : mg "copy_of" = some (.ref fc)) (hkc : PySem.W.keepIn K (.ref fc) = true) (hbc : Binds K fdc [cp] []) :
    FnOk P w K mg base (L2N.CX P w) (k + 1) fI fd [sf, pn] (spI L K D fld m) := by
  obtain ⟨⟨name, qual, params, body, scope, cc, ca, doc, pm, ct, oc, od, an, osl, N, rfl, lk, hcd, ⟨ccl, cdd, cvs, ccs, file, tf, lca, hvs, hfile⟩, ⟨cl, cld, csl, lcc⟩, NS, hgs, hgc, ⟨ar, har, hsf⟩, pre, j, p0, p1, p2, p3, p4, p5, p6, p7, p8, q1, q2, q3, q4, q5, q6, hbody, hpre, hline⟩, ⟨cdD, hcD⟩, hms, htop, hopq, hns, hnp⟩ := FI
  subst hsf
  refine ⟨fun vs H Q E h => ?_, fun A outer s H args us vs Q E hr e0 hb r hsp => ?_⟩
  · obtain ⟨a, C, y', f, h, y, rfl, _⟩ := h
    rfl
  · obtain ⟨a, C, y', f, h, y, rfl, ha, xk, S, ry, hfm, post⟩ := hsp
    have KX : K.In s.heap := e0.mod.kin.keeps fun b o e => (e0.bs b o e).1
    have lim : s.heap.NoLimit := e0.mod.nolimit.keeps fun b o e => (e0.bs b o e).1
    have hkind : ∀ z ∈ [ar.arg, pn].zip us, scope.names.lookup z.1 = some .local := fun ⟨n, v⟩ hz => NS.par n (List.of_mem_zip hz).1
    refine ks_codeAny_call_defAt (fd := PySem.W.ksFn name qual params body scope .none .none doc pm an (.ref ca) ct cc) (body := body) (binds := [ar.arg, pn].zip us) hr.depth (KX _ _ lk) rfl lim (PySem.W.codeRec_of KX hcd) rfl hb NS.nocell hkind (fun h₁ hns₁ hk₁ => ?_) NS.co NS.gen NS.kind
    let F : NF := ⟨name, qual, params, body, scope, [("__class__", cc)], ca⟩
    let X : Cx := ncx (L2N.CX P w) P w K mg base N F fI A outer s H E
    have cells : CellsAt F.cl ["__class__"] [none] s.heap H := by
      have hcb : base.get? cc = some ⟨cl, cld, .cell (some (.ref D)), csl⟩ := e0.mod.kin _ _ lcc
      have key : ∀ y c, F.cl.lookup y = some c → y = "__class__" ∧ c = cc := fun y c e => by
        have e' : ([("__class__", cc)] : List (Str × Addr)).lookup y = some c := e
        rw [List.lookup_cons] at e'
        split at e'
        · rename_i z
          exact ⟨beq_iff_eq.mp z, (Option.some.inj e').symm⟩
        · cases e'
      refine ⟨rfl, fun y c e => ?_, fun x y c e1 e2 => ?_, fun i y hi => ?_⟩
      · obtain ⟨_, rfl⟩ := key y c e
        exact ⟨(e0.bs _ _ hcb).2, some (.ref D), _, KX _ _ lcc, rfl⟩
      · rw [(key x c e1).1, (key y c e2).1]
      · cases i with
        | zero =>
          simp at hi
          subst hi
          exact ⟨cc, by simp [F, List.lookup], fun v hv => by simp at hv⟩
        | succ i => simp at hi
    have I0 : Inv X [] (startF N [.ref a, y'] [none]) H { s with heap := h₁, toks := s.toks + ([ar.arg, pn].zip us).length } := inv_startN (F := F) (f := fI) (CX := L2N.CX P w) (E := E) (tk := s.toks + ([ar.arg, pn].zip us).length) NS hr.hd e0 rfl r cells hns₁ hk₁
    generalize hs1 : ({ s with heap := h₁, toks := s.toks + ([ar.arg, pn].zip us).length } : Shared) = s1 at I0
    have hi0 : X.N[0]? = some ar.arg := by
      have e : (N.take 3)[0]? = ([ar.arg, pn, "__class__"] : List Str)[0]? := congrArg (·[0]?) NS.pre
      rw [List.getElem?_take_of_lt (by decide)] at e
      exact e
    have hi1 : X.N[1]? = some pn := by
      have e : (N.take 3)[1]? = ([ar.arg, pn, "__class__"] : List Str)[1]? := congrArg (·[1]?) NS.pre
      rw [List.getElem?_take_of_lt (by decide)] at e
      exact e
    have ks : X.env.kindOf ar.arg = some .local := NS.par ar.arg (by simp)
    have kp : X.env.kindOf pn = some .local := NS.par pn (by simp)
    have kc : X.env.kindOf "__class__" = some .free := NS.frk "__class__" (by simp)
    have vs0 : PE X (.Name ar.arg q1) (tVar 0) := pe_var hi0 (.inl ks) hns.1 hns.2
    have vp : ∀ pos, PE X (.Name pn pos) (tVar 1) := fun pos => pe_var hi1 (.inl kp) hnp.1 hnp.2
    have σ0 : (startF N [.ref a, y'] [none])[0]? = some (some (.ref a)) := rfl
    have σ1 : (startF N [.ref a, y'] [none])[1]? = some (some y') := rfl
    show PySem.wpAt (model X.prog X.w) X.A (.func body X.env) (execs body X.env) _ _ _
    suffices key : ∀ b2, b2 = body → PySem.wpAt (model X.prog X.w) X.A (.func body X.env) (execs b2 X.env) (fun fl s' => CR (L2N.CX P w) outer P w H s Q E (.ok (.ret (match fl with | .ret v => v | _ => .none))) s') X.xe s1 from key body rfl
    intro b2 hb2
    obtain rfl := hb2.trans hbody
    have hint : interactive X.env = false := by
      have : (X.env.scope.kind == ScopeKind.module) = false := by rw [I0.ok.kind]; rfl
      unfold interactive
      rw [this]; rfl
    refine ks_wpAt_execs_cons (ks_wpAt_Expr_any (hi := hint) (ks_wpAt_MethodCall (he := super_tree (few_ok (by rfl) (by rfl) (by show (1 : Nat) + 0 + 1 < 30; decide)) hline) (ks_wpAt_super_base (env := X.env) (fd := PySem.W.ksFn name qual params body scope .none .none doc pm an (.ref ca) ct cc) hgs kc (by decide) rfl (I0.kIn _ _ lk) rfl har rfl (I0.kIn _ _ lca) rfl hvs hfile htop ?_)))
    clear hs1
    obtain ⟨hp, g, d, t, os⟩ := s1
    obtain ⟨mb, hb1, hb2'⟩ := I0.mod.blt
    refine PySem.W.ks_loadName_global I0.ok.kind hgs (Calls.loadGlobal_builtin (by rw [I0.ok.glob]; exact I0.mod.glob.keeps I0.bk) hms (by rw [I0.ok.blt]; exact hb1.keeps I0.bk) ((hb2' "super" (by decide)).trans (by kernel_rfl : bootBuiltins "super" = some (.type "super"))) ⟨rfl, ?_⟩)
    refine wpAny_loadName_free I0.ok.kind kc rfl ⟨_, I0.kIn _ _ lcc, rfl⟩ ?_
    obtain ⟨nm, hn, hl⟩ := id I0.loc
    obtain ⟨u0, ru, lk0⟩ := hl 0 ar.arg (.ref a) hi0 σ0 (.inl ks)
    obtain rfl : u0 = Value.ref a := ru
    have hm0 : nm ar.arg = some (.ref a) := by
      rcases lk0 with ⟨_, q⟩ | ⟨q, _⟩
      · exact q
      · rw [ks] at q
        rcases q with q | q <;> cases q
    refine wpAny_loadName_local I0.ok.kind ks hn hm0 ?_
    obtain ⟨oD, hD1, hD2⟩ : ∃ oD, hp.get? D = some oD ∧ oD.data = .cls cdD := by
      unfold PySem.W.clsIn at hcD
      split at hcD
      · rename_i c d cd' sl ho
        cases hcD
        exact ⟨_, I0.kIn _ _ ho, rfl⟩
      · cases hcD
    refine ks_wpAny_isType_cls hD1 hD2 ⟨rfl, ?_⟩
    obtain ⟨t1, hoa⟩ := exo_at I0.hok ha
    refine ks_wpAny_call_super (C := C) hD1 hD2 hoa rfl (fun c z => by cases z) (PySem.W.looks_mroIn I0.kIn xk.mro) (fun h' hso k => ?_)
    have I1 : Inv X [] (startF N [.ref a, y'] [none]) H ⟨h', g, d, t, os⟩ := I0.kept (t' := t) k
    have inst : PySem.W.InstAt h' a { cls := .ref C, dict := none, data := .fields #[.ref t1, .none, .none, .none, .bool false, .none] } C none := ⟨k _ _ hoa, rfl, rfl, trivial⟩
    obtain ⟨cdC, hcC, hal⟩ : ∃ cdC, PySem.W.clsIn K C = some cdC ∧ PySem.W.alongIn K "__init__" ((cdC.mro.dropWhile (· != .ref D)).drop 1) = some (some (.builtin "ValueError.__init__")) := by
      have := xk.sup
      unfold PySem.W.ks_superIn at this
      cases z : PySem.W.clsIn K C with
      | none => rw [z] at this; cases this
      | some cd => rw [z] at this; exact ⟨cd, rfl, this⟩
    refine PySem.W.kxs_getMethod PySem.W.kxs_ValueError hso (PySem.W.looks_opaque I1.kIn hopq) (l₀ := cdC.mro) (fun A Q E s k q => wpAny_bind ((PySem.W.looks_clsIn I1.kIn hcC) A _ E s k (wpAny_pure q))) rfl I1.kIn hal (inst.type.andThen (PySem.W.looks_subIn I1.kIn xk.sub)) (PySem.W.ks_ne I1.kIn inst hcC) (by decide) ?_
    have I2 : Inv X [] (startF N [.ref a, y'] [none]) H ⟨h'.push (PySem.W.kxs_mw "ValueError.__init__" a), g, d, t + 1, os⟩ := I1.kept (t' := t + 1) (fun b o e => Heap.get?_push_of_some _ e)
    have I3 : Inv X [(h'.objs.size, PySem.W.kxs_mw "ValueError.__init__" a)] (startF N [.ref a, y'] [none]) H ⟨h'.push (PySem.W.kxs_mw "ValueError.__init__" a), g, d, t + 1, os⟩ := I2.pins_of fun p hp => by
      have e : p = (h'.objs.size, PySem.W.kxs_mw "ValueError.__init__" a) := by simpa using hp
      subst e
      exact ⟨Heap.get?_push_size _ rfl, I1.hok.fresh (Nat.le_refl _), Nat.ne_of_gt I1.lt, I1.nofs (Nat.le_refl _), fun v z => by cases z⟩
    refine PySem.W.kxs_callWith (i := "ValueError.__init__") (x := a) rfl ?_
    refine PySem.Calls.evalArgs_plain ?_
    have hmsg : PA X [.JoinedStr [.Constant (.str pre) j p3, .FormattedValue (.Name pn p4) (-1) none p5] p6] (tCons (fun σ H Q => tJs [tC (.str pre), tFmt (tVar 1)] Str.empty σ H fun out H1 => Q (.str out) H1) tNil) :=
      pa_cons (pe_joined (.cons pe_str (.cons (pe_fmt (vp p4)) .nil))) pa_nil
    have hmq : (tCons (fun σ H Q => tJs [tC (.str pre), tFmt (tVar 1)] Str.empty σ H fun out H1 => Q (.str out) H1) tNil) (startF N [.ref a, y'] [none]) H (fun vs H1 => vs.length = 1 ∧ H1 = H) := by
      have emp : Str.empty ++ pre = pre := PySem.Str.append_left_empty rfl
      have app : ∀ x : Str, (pre ++ x).length = pre.length + x.length := fun x => PySem.strLen_append pre x
      refine ⟨pre, rfl, by rw [emp, sizeLine_eq]; omega, ?_⟩
      rw [emp]
      refine ⟨y', σ1, ?_⟩
      cases y with
      | str x =>
        have hx : x.length ≤ 100000 := of_decide_eq_true hfm
        unfold RV at ry
        refine .inl ⟨x, ry, by rw [sizeLine_eq]; omega, x, rfl, by rw [app, sizeLine_eq]; omega, rfl, rfl⟩
      | int i =>
        have hx : i.natAbs.log2 < 1920 := of_decide_eq_true hfm
        unfold RV at ry
        have := int_text_le hx
        refine .inr ⟨i, ry, hx, _, rfl, by rw [app, sizeLine_eq]; omega, rfl, rfl⟩
      | _ => cases hfm
    refine thn (hmsg.run p7 _ _ _ H _ I3 hmq) fun us2 s2 ⟨vs2, H2, I4, r2, hl2, eH⟩ => ?_
    subst eH
    refine ⟨(I4.pin (h'.objs.size, PySem.W.kxs_mw "ValueError.__init__" a) (by simp)).1, ?_⟩
    refine call_mw xk.ox I4 ha (I4.pin (h'.objs.size, PySem.W.kxs_mw "ValueError.__init__" a) (by simp)).1 (by rw [List.nil_append, ← r2.length, hl2, sizeLine_eq]; decide) fun s3 I5 => ?_
    have I6 : Inv X [] (startF N [.ref a, y'] [none]) H2 s3 := I5.pins_of fun p hp => by simp at hp
    have hroom := hr.deeper X.env
    have hcall : PE X (.Call (.Name "copy_of" q3) [.Name pn q4] [] q5) (tCall (spF L K 1 [] m) [] E0 (tCons (tVar 1) tNil)) :=
      pe_call Fc hroom hgc hmc hkc hbc .nil passLN (pa_cons (vp q4) pa_nil)
    refine ks_wpAt_execs_cons (wpAt_of_wpAny (thn ((ps_ost vs0 hcall).run [] s3 _ H2 { nx := fun _ H' => Q .non H', rt := Q } I6 ?_) fun fl s4 hs4 => ?_))
    · refine ⟨y', σ1, ?_⟩
      show spF L K 1 [] m [y'] H2 _ _
      refine ⟨rfl, f, h, [y], S, ArgR.of (RVs.cons ry RVs.nil), ?_⟩
      cases em : m [y] h with
      | bad => rw [em] at post; exact post
      | exc c fs h' => rw [em] at post; exact fun f' H' cls d x S' rx => post f' H' cls d x S' rx
      | ok z h' =>
        rw [em] at post
        intro f' H' z' x S' rz
        exact ⟨.ref a, σ0, a, C, rfl, xk.ox, xk.no, .inl ⟨x.keep a _ ha (S.exo_out ha), fun dx h1 h2 => post f' H' z' x S' rz dx h1 h2⟩⟩
    · cases fl with
      | next =>
        obtain ⟨σ', H', J, q⟩ := hs4
        exact wpAt_of_wpAny (wpAny_execs_nil ⟨.non, H', J.os, J.bare, J.base, J.hok, rfl, q⟩)
      | brk => obtain ⟨_, _, _, z⟩ := hs4; exact z.elim
      | cont => obtain ⟨_, _, _, z⟩ := hs4; exact z.elim
      | ret u =>
        obtain ⟨v, σ', H', J, rv, q⟩ := hs4
        exact ⟨v, H', J.os, J.bare, J.base, J.hok, rv, q⟩
end
end Mp
set_option Elab.async false
set_option linter.all false
set_option maxRecDepth 100000
set_option maxHeartbeats 2000000
namespace Mp
open PySem PySem.Spec PyProof.Rows L2 NdefX
section
variable {X : Cx} {e : Expr} {es : List Expr} {ta : TA} {p pos : Pos}
/-- C(e, ..), raised where nothing is handled -/
theorem pmk_oexN {x : Str} {C fI : Addr} {k : Nat} {fd : FuncData} {ps : List Str} {sp : Sp} (T : OexC X.K C) (iC : PySem.W.findIn X.K (.ref C) "__init__" = some (some (.ref fI))) (tI : PySem.W.typeIn X.K (.ref fI) = some (.type "function"))
    (F1 : FnOk X.prog X.w X.K X.mg X.base (L2N.CX X.prog X.w) k fI fd ps sp) (hr : Room (k + 1) X.A) (hb : Binds X.K fd ps []) (hg : Gl X x) (hm : X.mg x = some (.ref C)) (ha : PA X (e :: es) ta)
    (hdb : (x == ("__debug__" : Str)) = false) (he : starEach (e :: es) X.env = (false, eval e X.env) :: starEach es X.env) (hpl : (backTo pos (starEach es X.env)).any (·.1) = false) :
    L2N.PMk X (.Call (.Name x p) (e :: es) [] pos) (tMkO C sp [] ta) := by
  intro pins s σ H Q I h
  obtain ⟨nm, q, N, bs, bm, sn, sub, ab, col, dd, k0, k1, k2, k3, k5, hC, hbm⟩ := T.cls
  refine wpAny_Call_Name_kw (ld_glob I hg hm ?_ hdb)
  refine PySem.W.callWith_K (h₀ := X.base) I.ok.mod.kin T.kC (thn (ha.run pos pins s σ H _ I h) fun us s1 ⟨vs, H1, I1, r1, hz, q1⟩ => ⟨I1.kIn, ?_⟩) he hpl
  show wpAny _ _ (call (.ref C) us) _ _ _
  obtain ⟨hp, g, dr, tk, os⟩ := s1
  have hsz : hp.objs.size ≤ hp.objs.size + 1 := Nat.le_succ _
  have hn : H1 (hp.objs.size + 1) = none := I1.hok.fresh hsz
  have hq := q1 (hp.objs.size + 1) hn
  rw [List.append_nil] at hq
  have kk : ∀ b o, hp.get? b = some o → ((hp.push (PySem.W.kdv_tup us)).push (PySem.HandSPX.excO C hp.objs.size)).get? b = some o := fun b o e => Heap.get?_push_of_some _ (Heap.get?_push_of_some _ e)
  have hget : ((hp.push (PySem.W.kdv_tup us)).push (PySem.HandSPX.excO C hp.objs.size)).get? (hp.objs.size + 1) = some (PySem.HandSPX.excO C hp.objs.size) := by heap_get
  have I2 : Inv X pins σ (upd H1 (hp.objs.size + 1) (exo (hp.objs.size + 1) C none)) ⟨(hp.push (PySem.W.kdv_tup us)).push (PySem.HandSPX.excO C hp.objs.size), g, dr, tk, os⟩ :=
    I1.laid (t' := tk) (a := hp.objs.size + 1) (o := exo (hp.objs.size + 1) C none) (h' := (hp.push (PySem.W.kdv_tup us)).push (PySem.HandSPX.excO C hp.objs.size)) kk hsz (exo_ok hget)
  have r2 : Vals (V.ref (hp.objs.size + 1) :: vs) (Value.ref (hp.objs.size + 1) :: us) := .cons rfl r1
  have hl : (Value.ref (hp.objs.size + 1) :: us).length = ps.length := by
    have e := r2.length
    rw [F1.len _ _ _ _ hq] at e
    exact e.symm
  have hus : us.length ≤ sizeLine := by
    rw [← Paired.length r1, sizeLine_eq]
    omega
  have hb1 := hb ⟨(hp.push (PySem.W.kdv_tup us)).push (PySem.HandSPX.excO C hp.objs.size), g, dr, tk, os⟩ (Value.ref (hp.objs.size + 1) :: us) I2.kIn (by rw [List.append_nil]; exact hl)
  rw [List.append_nil] at hb1
  refine wpAny_call (PySem.HandSPX.call_own F.excBase_ValueError (fun Y => PySem.HandSPX.refsVE_contains Y bm hbm) (I1.kIn _ _ hC) (PySem.W.looks_findIn I1.kIn iC) (fun self => PySem.W.bind_fn I1.kIn self tI) hus
    (codeAny_mono (F1.run _ X.stack _ _ ⟨Value.ref (hp.objs.size + 1) :: us, []⟩ (Value.ref (hp.objs.size + 1) :: us) _ _ (fun _ _ _ => False) (hr.make C us []) (I2.env0.make C us []) hb1 r2 hq) fun r s' hq' => ?_))
  cases r with
  | error er =>
    obtain ⟨_, _, _, _, _, _, _, _, _, _, _, _, z⟩ := hq'
    exact z.elim
  | ok fl =>
    cases fl with
    | ret u =>
      obtain ⟨v, H2, os2, bare2, un2, hok2, rv, ev, d, fs, ea, ed, hd1, q2⟩ := hq'
      subst ev
      obtain ⟨h2, g2, d2, t2, os'⟩ := s'
      obtain ⟨t0, G, J, kG, ge, hoe, na⟩ := mk_end0 (d2 := d2) (t2 := t2) I1 hsz kk un2 hok2 os2 bare2 ea ed hd1
      exact ⟨rv, hp.objs.size + 1, _, _, ⟨G, g2, d2, t2, os'⟩, _, .ref C, some d, rfl, J, kG, ge, hoe, ⟨rfl, rfl, fun vs e => by cases e; rfl⟩, rfl, rfl, na, rfl, bare2, raises_own T.exC T.tyC, q2⟩
    | next => exact False.elim hq'
    | brk => exact False.elim hq'
    | cont => exact False.elim hq'
end
/-! ### raise, on the machine -/
def sRaise (m : List Val → Mem → Res Val) (c : Str) (flds : List Str) (das : MA) : MS := fun ρ h => onE (das ρ h) ρ fun vs h => if vs.all fmtOk = true then (match m vs h with
  | .ok (.tup ys) h' => .ok (.xc ρ c (flds.zip ys)) h'
  | _ => .bad) else .bad
section
variable {L : Lk} {K : PySem.W.Frag} {f f' : Nm} {h : Mem} {H H' : Hp}
theorem Sim.same (S : Sim L K f h H) (k1 : ∀ n b, f n = some b → H' b = H b) (k2 : ∀ b vs, SqT K H b vs → SqT K H' b vs) : Sim L K f h H' :=
  ⟨S.inj, S.has, fun n b e => by
    obtain ⟨ob, q, r⟩ := S.at_ n b e
    have eb := k1 n b e
    refine ⟨ob, q, ?_⟩
    cases ob with
    | lst xs =>
      obtain ⟨vs, q, z⟩ := r
      exact ⟨vs, by rw [eb]; exact q, RVs.mono2 (fun _ _ e => e) k2 _ _ z⟩
    | ins c fs =>
      obtain ⟨dx, gs, q, z1, z2⟩ := r
      exact ⟨dx, gs, by rw [eb]; exact q, z1, RVs.mono2 (fun _ _ e => e) k2 _ _ z2⟩
    | rol xs =>
      obtain ⟨o, vs, q, z⟩ := r
      exact ⟨o, vs, by rw [eb]; exact q, RVs.mono2 (fun _ _ e => e) k2 _ _ z⟩
    | dic kvs =>
      obtain ⟨gs, q, z1, z2⟩ := r
      exact ⟨gs, by rw [eb]; exact q, z1, RVs.mono2 (fun _ _ e => e) k2 _ _ z2⟩
    | frd kvs =>
      obtain ⟨o, gs, q, z1, z2⟩ := r
      exact ⟨o, gs, by rw [eb]; exact q, z1, RVs.mono2 (fun _ _ e => e) k2 _ _ z2⟩⟩
end
/-- the memory behind the making of an exception -/
def mkH (H' : Hp) (a C dx : Addr) (fs : List (Str × V)) : Hp := upd (del (upd (upd H' dx (exd dx fs)) a (exo a C (some dx))) a) dx (.xd fs)
theorem mkH_ne {H' : Hp} {a C dx b : Addr} {fs : List (Str × V)} (h1 : b ≠ a) (h2 : b ≠ dx) : mkH H' a C dx fs b = H' b := by
  unfold mkH
  rw [upd_ne h2, del_ne h1, upd_ne h1, upd_ne h2]
section
variable {L : Lk} {K : PySem.W.Frag} {f f' : Nm} {h h2 : Mem} {H1 H' : Hp} {a C dx : Addr} {fs : List (Str × Val)} {gs : List (Str × V)}
theorem mk_sim (x : Ext f f' (upd H1 a (exo a C none)) H') (S1 : Sim L K f h (upd H1 a (exo a C none))) (S' : Sim L K f' h2 H') (hdx : H' dx = none) (hda : dx ≠ a) (ha : H1 a = none) (rf : RFs L K f' H' fs gs) :
    Ext f f' H1 (mkH H' a C dx gs) ∧ Sim L K f' h2 (mkH H' a C dx gs) ∧ RFs L K f' (mkH H' a C dx gs) fs gs := by
  have ea : H' a = some (exo a C none) := x.keep a _ upd_same (S1.exo_out upd_same)
  have nn : ∀ {b o}, H' b = some o → o ≠ exo a C none → mkH H' a C dx gs b = some o := fun {b o} e n => by
    rw [mkH_ne (fun z => n (by rw [z, ea] at e; exact (Option.some.inj e).symm)) (fun z => by rw [z, hdx] at e; cases e)]
    exact e
  have sq : ∀ b vs, SqT K H' b vs → SqT K (mkH H' a C dx gs) b vs := fun b vs e => by
    rcases e with e | e
    · rcases e with e | ⟨o, e⟩
      · exact .inl (.inl (nn e fun z => exo_tup z.symm))
      · exact .inl (.inr ⟨o, nn e fun z => exo_frz z.symm⟩)
    · exact .inr e
  refine ⟨⟨x.le, fun n b e => ?_, fun b o e nb => ?_, fun b o e => ?_, fun b o u e => ?_⟩, S'.same (fun n b e => ?_) sq, rf.1, RVs.mono2 (fun _ _ e => e) sq _ _ rf.2⟩
  · rcases x.new n b e with z | z
    · exact .inl z
    · refine .inr ?_
      by_cases hb : b = a
      · rw [hb]; exact ha
      · rwa [upd_ne hb] at z
  · have hb : b ≠ a := fun z => by rw [z, ha] at e; cases e
    have e' : H' b = some o := x.keep b o (by rw [upd_ne hb]; exact e) nb
    rw [mkH_ne hb (fun z => by rw [z, hdx] at e'; cases e')]
    exact e'
  · have hb : b ≠ a := fun z => by rw [z, ha] at e; cases e
    obtain ⟨o', e'⟩ := x.trk b o (by rw [upd_ne hb]; exact e)
    exact ⟨o', by rw [mkH_ne hb (fun z => by rw [z, hdx] at e'; cases e')]; exact e'⟩
  · have hb : b ≠ a := fun z => by rw [z, ha] at e; cases e
    have e' := x.frz b o u (by rw [upd_ne hb]; exact e)
    rw [mkH_ne hb (fun z => by rw [z, hdx] at e'; cases e')]
    exact e'
  · have nb : b ≠ a := fun z => S'.exo_out ea n (by rw [← z]; exact e)
    have nd : b ≠ dx := fun z => by
      obtain ⟨ob, _, r⟩ := S'.at_ n b e
      obtain ⟨q, eq⟩ := r.some
      rw [z, hdx] at eq; cases eq
    exact mkH_ne nb nd
end
/-- an exception's class, ready to be raised in X -/
structure RsF (L : Lk) (X : Cx) (call : CallT) (c : Str) (D : XcD) : Prop where
  ex : ∃ (fI : Addr) (fd : FuncData) (k : Nat) (Da : Addr) (fld sf pn : Str) (m : List Val → Mem → Res Val), D.flds = [fld] ∧ FnOk X.prog X.w X.K X.mg X.base (L2N.CX X.prog X.w) k fI fd [sf, pn] (spI L X.K Da fld m) ∧ Room (k + 1) X.A ∧ Binds X.K fd [sf, pn] [] ∧
    XcK X.K (L.C c) Da fld ∧ PySem.W.findIn X.K (.ref (L.C c)) "__init__" = some (some (.ref fI)) ∧ PySem.W.typeIn X.K (.ref fI) = some (.type "function") ∧ ∀ v h, call D.init [v] h = (m [v] h).bind fun y h => .ok (.tup [y]) h
  mg : X.mg c = some (.ref (L.C c))
section
variable {L : Lk} {X : Cx} {W : WX} {call : CallT} {c : Str} {D : XcD} {e : Expr} {de : ME} {p pos pos' : Pos}
theorem st_raise (hc : X.calm = true) (tk : L2N.Takes X W) (R : RsF L X call c D) (hg : Gl X c) (hdb : (c == ("__debug__" : Str)) = false) (hs : noStar e = true) (he : PE X e (GoodE L X.K W de)) :
    PS X (.Raise (some (.Call (.Name c p) [e] [] pos')) none pos) (GoodS L X.K W (sRaise (call D.init) c D.flds (aCons de aNil))) := by
  obtain ⟨⟨fI, fd, k, Da, fld, sf, pn, m, hfl, F1, hr, hb, xk, iC, tI, hm⟩, hmg⟩ := R
  refine psImp (L2N.ps_raise hc tk (pmk_oexN (p := p) (pos := pos') xk.ox iC tI F1 hr hb hg hmg (a_cons (W := W) (L := L) he a_nil (star_cons hs)) hdb (star_cons hs) rfl)) fun DD σ H ⟨f, ρ, h, S, E, pp⟩ => ?_
  refine ⟨f, ρ, h, S, E, (PostS.onE (R := RVs L X.K) E S pp).imp fun vs' H1 ⟨f1, vs, h1, e1, X1, S1, E1, R1, p1⟩ => ?_⟩
  obtain ⟨v, rfl⟩ : ∃ v, vs = [v] := by
    unfold aCons aNil at e1
    cases ed : de ρ h with
    | bad => rw [ed] at e1; cases e1
    | exc _ _ _ => rw [ed] at e1; cases e1
    | ok v h' => rw [ed] at e1; cases e1; exact ⟨v, rfl⟩
  obtain ⟨v', rfl, R2⟩ := R1.one
  refine ⟨Nat.le_of_ble_eq_true rfl, fun a ha => ?_⟩
  have xo : Ext f1 f1 H1 (upd H1 a (exo a (L.C c) none)) := ext_new ha
  split at p1
  · rename_i hf
    have hf1 : fmtOk v = true := by simpa using hf
    refine ⟨a, L.C c, v', f1, h1, v, rfl, upd_same, xk, S1.out ha, R2.mono S1 xo, hf1, ?_⟩
    rw [hm] at p1
    cases em : m [v] h1 with
    | bad => rw [em] at p1; exact p1
    | exc c fs h' => rw [em] at p1; exact absurd p1 id
    | ok z h2 =>
      rw [em] at p1
      intro f' H' z' x S' rz dx h1' h2'
      obtain ⟨x1, x2, x3⟩ := mk_sim (fs := [(fld, z)]) (gs := [(fld, z')]) x (S1.out ha) S' h1' h2' ha ⟨rfl, RVs.cons rz RVs.nil⟩
      refine ⟨rfl, dx, [(fld, z')], upd_same, by rw [upd_ne h2', upd_same], ?_, ?_⟩
      · cases q : H1 dx with
        | none => rfl
        | some o =>
          obtain ⟨o', e'⟩ := x.trk dx o (by rw [upd_ne h2']; exact q)
          rw [h1'] at e'; cases e'
      · refine p1 f' _ σ (.ref (L.C c)) (some dx) x1 x2 (E1.mono S1 x1) ⟨rfl, .inr ⟨dx, [(fld, z')], rfl, upd_same, ?_⟩⟩
        rw [hfl]
        exact x3
  · exact absurd p1 id
end
end Mp
set_option Elab.async false
set_option linter.all false
set_option maxRecDepth 100000
set_option maxHeartbeats 2000000
namespace Mp
open PySem PySem.Spec PyProof.Rows L2 NdefX
/-! ### the exception that is handled: isinstance(e, ..), e.f, g(e) -/
def xnames (Γ : Pg) : List Str := "ValueError" :: Γ.xcl.map (·.1)
def xval (L : Lk) (Γ : Pg) (x : Str) : Value := match Γ.xcl.lookup x with
  | some _ => .ref (L.C x)
  | none => .type "ValueError"
def xvalV (L : Lk) (Γ : Pg) (x : Str) : V := match Γ.xcl.lookup x with
  | some _ => .ref (L.C x)
  | none => .ty "ValueError"
structure XcF (L : Lk) (K : PySem.W.Frag) (Γ : Pg) (c : Str) (D : XcD) : Prop where
  cl : (PySem.W.clsIn K (L.C c)).isSome = true
  ga : PySem.W.findIn K (.ref (L.C c)) "__getattribute__" = some (some (.builtin "BaseException.__getattribute__"))
  gt : PySem.W.findIn K (.ref (L.C c)) "__getattr__" = some none
  sub : PySem.W.subIn K (.ref (L.C c)) (.type "BaseException") = some true
  cls : PySem.W.findIn K (.ref (L.C c)) "__class__" = some (some (.builtin "object.__class__"))
  sp : PySem.W.specialIn K (.builtin "object.__class__") "__get__" = some (some (.builtin "getset_descriptor.__get__"))
  tk : PySem.W.takesIn K (.builtin "object.__class__") = some true
  mo : PySem.W.mroIn K (L.C c) (.type "object") = some true
  hd : PySem.W.hasDictIn K (L.C c) = true
  kit : ∀ x ∈ xnames Γ, PySem.W.kitOne K (.ref (L.C c)) (xval L Γ x) = some (D.sup.contains x)
  exm : ∀ x Dx, Γ.xcl.lookup x = some Dx → PySem.W.exmOne K (.ref (L.C c)) (.ref (L.C x)) = some (D.sup.contains x)
  no : ∀ f ∈ D.flds, PySem.W.findIn K (.ref (L.C c)) f = some none
/-- X bears the handled exception L.p -/
structure HotX (L : Lk) (X : Cx) : Prop where
  hot : L2H.Hot1 X.A L.p
  mem : L.p ∈ X.pn
def xAt (ρ : Env) (i : Nat) : Option (Str × List (Str × Val)) := match ρ[i]? with
  | some (some (.exn c fs)) => some (c, fs)
  | _ => none
def eXis (Γ : Pg) (i : Nat) (xs : List Str) : ME := fun ρ h => match xAt ρ i with
  | some (c, _) => (match Γ.xcl.lookup c with
    | some D => .ok (.bl (xs.any fun x => D.sup.contains x)) h
    | none => .bad)
  | none => .bad
def eXf (Γ : Pg) (i : Nat) (f : Str) : ME := fun ρ h => match xAt ρ i with
  | some (c, fs) => (match Γ.xcl.lookup c with
    | some D => if D.flds.contains f then (match fs.lookup f with
      | some v => .ok v h
      | none => .bad) else .bad
    | none => .bad)
  | none => .bad
def eCallX (m : List Val → Mem → Res Val) (i : Nat) : ME := fun ρ h => match xAt ρ i with
  | some (c, fs) => m [.exn c fs] h
  | none => .bad
theorem xAt_inv {ρ : Env} {i : Nat} {c : Str} {fs : List (Str × Val)} (e : xAt ρ i = some (c, fs)) : ρ[i]? = some (some (.exn c fs)) := by
  unfold xAt at e
  split at e
  · rename_i q
    cases e
    exact q
  · cases e
section
variable {Γ : Pg} {L : Lk} {X : Cx} {W : WX} {pos p0 p1 p2 : Pos}
theorem xslot {f : Nm} {H : Hp} {ρ : Env} {σ : L2.St} {i : Nat} {c : Str} {fs : List (Str × Val)} (E : EnvR L X.K f H ρ σ) (e : xAt ρ i = some (c, fs)) : σ[i]? = some (some (.ref L.p.1)) ∧ RX L X.K f H c fs L.p.2.cls L.p.2.dict := by
  obtain ⟨v', q, r⟩ := E.at_ i _ (xAt_inv e)
  rcases r with r | ⟨_, c', fs', e1, rfl, rx⟩
  · unfold RV at r; exact r.elim
  · cases e1
    exact ⟨q, rx⟩
theorem hot_inst {pins : List (Addr × Obj)} {σ : L2.St} {H : Hp} {s : Shared} {c : Str} {fs : List (Str × Val)} {f : Nm} (hx : HotX L X) (I : Inv X pins σ H s) (rx : RX L X.K f H c fs L.p.2.cls L.p.2.dict) : ∃ od, PySem.W.InstAt s.heap L.p.1 L.p.2 (L.C c) od := by
  obtain ⟨_, vs, hd, _⟩ := hx.hot
  have hget := (I.pin L.p (List.mem_append_left _ hx.mem)).1
  obtain ⟨e1, e2⟩ := rx
  have nc : PySem.W.notCls L.p.2 = true := by unfold PySem.W.notCls; rw [hd]
  rcases e2 with ⟨_, ed⟩ | ⟨a, gs, ed, ea, _⟩
  · exact ⟨none, hget, e1, nc, by rw [ed]; trivial⟩
  · have hx : ObjOk X.prog X.w H s.heap a (.xd gs) := I.hok a _ ea
    obtain ⟨mA, hns, hr⟩ := hx
    obtain ⟨od, ho, hl⟩ := lookIn_ns hns
    exact ⟨some od, hget, e1, nc, by rw [ed]; exact ho⟩
/-- a class's name -/
theorem pe_xname {x : Str} (hx : x ∈ xnames Γ) (hg : Gl X x) (hdb : (x == ("__debug__" : Str)) = false) (hm : ∀ D, Γ.xcl.lookup x = some D → X.mg x = some (.ref (L.C x))) (hv : X.mg "ValueError" = none) : PE X (.Name x pos) (tC (xvalV L Γ x)) := by
  unfold xvalV
  cases e : Γ.xcl.lookup x with
  | some D => exact pe_glob (v := .ref (L.C x)) hg (hm D e) rfl hdb
  | none =>
    have : x = "ValueError" := by
      rcases List.mem_cons.mp hx with h | h
      · exact h
      · exfalso
        obtain ⟨q, hq, rfl⟩ := List.mem_map.mp h
        have : (Γ.xcl.lookup q.1).isSome = true := by
          revert hq
          generalize Γ.xcl = l
          intro hq
          induction l with
          | nil => cases hq
          | cons z l ih =>
            obtain ⟨z1, z2⟩ := z
            rw [List.lookup_cons]
            split
            · rfl
            · rcases List.mem_cons.mp hq with rfl | hq
              · rename_i hne
                simp at hne
              · exact ih hq
        rw [e] at this
        cases this
    subst this
    exact pe_bltn (v := .ty "ValueError") hg hv PyProof.Rows.Boot.«ValueError» rfl (by decide) hdb
theorem xvalV_rel {x : Str} {u : Value} (r : RelV (xvalV L Γ x) u) : u = xval L Γ x := by
  unfold xvalV at r
  unfold xval
  cases e : Γ.xcl.lookup x with
  | some D => rw [e] at r; exact r
  | none => rw [e] at r; exact r
def rXis (L : Lk) (K : PySem.W.Frag) (Γ : Pg) : List V → Hp → VK → Prop := fun xs H Q => ∃ f c fs D x, xs = [.ref L.p.1, xvalV L Γ x] ∧ RX L K f H c fs L.p.2.cls L.p.2.dict ∧ Γ.xcl.lookup c = some D ∧ x ∈ xnames Γ ∧ Q (.bl (D.sup.contains x)) H
theorem call_xis (XF : ∀ c D, Γ.xcl.lookup c = some D → XcF L X.K Γ c D) (hx : HotX L X) : CallR X (.builtin "isinstance") (rXis L X.K Γ) := by
  intro pins s σ H xs us Q I r h
  obtain ⟨f, c, fs, D, x, rfl, rx, hD, hxn, q⟩ := h
  obtain ⟨u1, u2, rfl, r1, r2⟩ := vals2 r
  obtain rfl : u1 = Value.ref L.p.1 := r1
  obtain rfl := xvalV_rel r2
  obtain ⟨od, J⟩ := hot_inst hx I rx
  have F := XF c D hD
  exact PySem.W.kia_one (PySem.W.kitx_exc F.cl F.ga F.gt F.sub F.cls F.sp F.tk F.mo) I.kIn J (F.kit x hxn) (fun z => nomatch z) fun tk => ⟨.bl _, H, I.tok tk, rfl, q⟩
def rXisT (L : Lk) (K : PySem.W.Frag) (Γ : Pg) : List V → Hp → VK → Prop := fun xs H Q => ∃ (f : Nm) (c : Str) (fs : List (Str × Val)) (D : XcD) (ys : List Str) (tp : Addr), xs = [.ref L.p.1, .ref tp] ∧ H tp = some (.tup (ys.map (xvalV L Γ))) ∧ RX L K f H c fs L.p.2.cls L.p.2.dict ∧ Γ.xcl.lookup c = some D ∧ (∀ x ∈ ys, x ∈ xnames Γ) ∧ Q (.bl (ys.any fun x => D.sup.contains x)) H
theorem xvals_rel : ∀ {ys : List Str} {us : List Value}, Vals (ys.map (xvalV L Γ)) us → us = ys.map (xval L Γ)
  | [], us, r => by cases r; rfl
  | y :: ys, us, r => by
    rw [List.map_cons] at r
    cases r with
    | cons r1 r2 =>
      rw [xvalV_rel r1, xvals_rel r2, List.map_cons]
theorem xkit {c : Str} {D : XcD} (F : XcF L X.K Γ c D) : ∀ {ys : List Str}, (∀ x ∈ ys, x ∈ xnames Γ) → PySem.W.kitAny X.K (.ref (L.C c)) (ys.map (xval L Γ)) = some (ys.any fun x => D.sup.contains x)
  | [], _ => kitAny_nil
  | y :: ys, h => by
    rw [List.map_cons, List.any_cons]
    refine kitAny_cons (F.kit y (h y List.mem_cons_self)) (fun e => ?_) (fun e => by rw [e]; rfl)
    rw [e, Bool.false_or]
    exact xkit F fun x hx => h x (List.mem_cons_of_mem _ hx)
theorem call_xisT (XF : ∀ c D, Γ.xcl.lookup c = some D → XcF L X.K Γ c D) (hx : HotX L X) : CallR X (.builtin "isinstance") (rXisT L X.K Γ) := by
  intro pins s σ H xs us Q I r h
  obtain ⟨f, c, fs, D, ys, tp, rfl, hT, rx, hD, hxn, q⟩ := h
  obtain ⟨u1, u2, rfl, r1, r2⟩ := vals2 r
  obtain rfl : u1 = Value.ref L.p.1 := r1
  obtain rfl : u2 = Value.ref tp := r2
  obtain ⟨od, J⟩ := hot_inst hx I rx
  have F := XF c D hD
  obtain ⟨_, its, rv, o, h1, h2, n, h3⟩ := (show ObjOk X.prog X.w H s.heap tp (.tup (ys.map (xvalV L Γ))) from I.hok tp _ hT)
  obtain rfl := xvals_rel rv
  obtain ⟨oc, od', dt, sl⟩ := o
  simp only at h2 h3
  subst h2 h3
  exact PySem.W.kia_tup (PySem.W.kitx_exc F.cl F.ga F.gt F.sub F.cls F.sp F.tk F.mo) I.kIn J h1 (xkit F hxn) (fun z => nomatch z) fun tk => ⟨.bl _, H, I.tok tk, rfl, q⟩
theorem s_xis1 {i : Nat} {n x : Str} (XF : ∀ c D, Γ.xcl.lookup c = some D → XcF L X.K Γ c D) (hot : HotX L X) (hg : Gl X "isinstance") (hm : X.mg "isinstance" = none) (hn : PE X (.Name n p1) (tVar i)) (hx : PE X (.Name x p2) (tC (xvalV L Γ x))) (hxn : x ∈ xnames Γ) :
    PE X (.Call (.Name "isinstance" p0) [.Name n p1, .Name x p2] [] pos) (GoodE L X.K W (eXis Γ i [x])) := by
  refine peImp (pe_callB (call_xis XF hot) hg hm boot_isinstance (pa_cons hn (pa_cons hx pa_nil rfl) rfl) (by decide) (by decide) rfl rfl) fun σ H Q ⟨f, ρ, h, S, E, p⟩ => ?_
  unfold eXis at p
  cases e : xAt ρ i with
  | none => rw [e] at p; exact absurd p id
  | some q =>
    obtain ⟨c, fs⟩ := q
    rw [e] at p
    dsimp only at p
    obtain ⟨h1, h2⟩ := xslot E e
    cases eD : Γ.xcl.lookup c with
    | none => rw [eD] at p; exact absurd p id
    | some D =>
      rw [eD] at p
      refine ⟨_, h1, f, c, fs, D, x, rfl, h2, eD, hxn, ?_⟩
      have z := now S (mk_bl _) p
      simpa using z
theorem pa_xnames {es : List Expr} : ∀ {ys : List Str}, es.map (fun e => match e with | .Name x _ => some x | _ => none) = ys.map some → (∀ y ∈ ys, ∀ pos, PE X (.Name y pos) (tC (xvalV L Γ y))) → PA X es (fun _ H Q => Q (ys.map (xvalV L Γ)) H) := by
  induction es with
  | nil =>
    intro ys e _
    cases ys with
    | nil => exact paImp pa_nil fun σ H Q h => h
    | cons _ _ => simp at e
  | cons a es ih =>
    intro ys e h
    cases ys with
    | nil => simp at e
    | cons y ys =>
      simp only [List.map_cons, List.cons.injEq] at e
      obtain ⟨h1, h2⟩ := e
      cases a with
      | Name x p =>
        simp only [Option.some.injEq] at h1
        subst h1
        exact paImp (pa_cons (h x List.mem_cons_self p) (ih h2 fun z hz => h z (List.mem_cons_of_mem _ hz)) rfl) fun σ H Q h => h
      | _ => simp at h1
theorem s_xisT {i k : Nat} {n : Str} {es : List Expr} {ys : List Str} (XF : ∀ c D, Γ.xcl.lookup c = some D → XcF L X.K Γ c D) (hot : HotX L X) (hg : Gl X "isinstance") (hm : X.mg "isinstance" = none) (hn : PE X (.Name n p1) (tVar i)) (hes : es.map (fun e => match e with | .Name x _ => some x | _ => none) = ys.map some)
    (hx : ∀ y ∈ ys, ∀ pos, PE X (.Name y pos) (tC (xvalV L Γ y))) (hxn : ∀ y ∈ ys, y ∈ xnames Γ) (hlen : ys.length ≤ sizeLine) :
    PE X (.Call (.Name "isinstance" p0) [.Name n p1, .Tuple es k p2] [] pos) (GoodE L X.K W (eXis Γ i ys)) := by
  refine peImp (pe_callB (call_xisT XF hot) hg hm boot_isinstance (pa_cons hn (pa_cons (pe_tup (pa_xnames hes hx)) pa_nil rfl) rfl) (by decide) (by decide) rfl rfl) fun σ H Q ⟨f, ρ, h, S, E, p⟩ => ?_
  unfold eXis at p
  cases e : xAt ρ i with
  | none => rw [e] at p; exact absurd p id
  | some q =>
    obtain ⟨c, fs⟩ := q
    rw [e] at p
    dsimp only at p
    obtain ⟨h1, h2⟩ := xslot E e
    cases eD : Γ.xcl.lookup c with
    | none => rw [eD] at p; exact absurd p id
    | some D =>
      rw [eD] at p
      refine ⟨_, h1, by rw [List.length_map]; exact hlen, fun tp htp => ?_⟩
      have x2 := ext_new (f := f) (o := .tup (ys.map (xvalV L Γ))) htp
      have S2 := S.out (o := .tup (ys.map (xvalV L Γ))) htp
      exact ⟨f, c, fs, D, ys, tp, rfl, upd_same, h2.mono S x2, eD, hxn, p f _ _ x2 S2 (mk_bl _)⟩
/-- e.f -/
theorem s_xf {i : Nat} {n fl : Str} (XF : ∀ c D, Γ.xcl.lookup c = some D → XcF L X.K Γ c D) (hot : HotX L X) (hn : PE X (.Name n p1) (tVar i)) : PE X (.Attribute (.Name n p1) fl pos) (GoodE L X.K W (eXf Γ i fl)) := by
  refine ⟨fun pins s σ H Q I ⟨f, ρ, h, S, E, p⟩ => ?_⟩
  unfold eXf at p
  cases e : xAt ρ i with
  | none => rw [e] at p; exact absurd p id
  | some q =>
    obtain ⟨c, fs⟩ := q
    rw [e] at p
    dsimp only at p
    obtain ⟨h1, h2⟩ := xslot E e
    cases eD : Γ.xcl.lookup c with
    | none => rw [eD] at p; exact absurd p id
    | some D =>
      rw [eD] at p
      dsimp only at p
      split at p
      · rename_i hfl
        cases el : fs.lookup fl with
        | none => rw [el] at p; exact absurd p id
        | some v =>
          rw [el] at p
          have F := XF c D eD
          refine attr_of rfl (thn (hn.run pins s σ H (fun x H1 => x = .ref L.p.1 ∧ H1 = H) I ⟨_, h1, rfl, rfl⟩) fun u s1 ⟨x, H1, I1, rx, ex, eH⟩ => ?_)
          subst ex eH
          obtain rfl : u = Value.ref L.p.1 := rx
          obtain ⟨_, vs, hd, _⟩ := hot.hot
          have hget := (I1.pin L.p (List.mem_append_left _ hot.mem)).1
          obtain ⟨e1, e2⟩ := id h2
          rcases e2 with ⟨e3, _⟩ | ⟨a, gs, ed, ea, rf⟩
          · rw [e3] at el; cases el
          · have hx : ObjOk X.prog X.w H1 s1.heap a (.xd gs) := I1.hok a _ ea
            obtain ⟨mA, hns, hr⟩ := hx
            obtain ⟨od, ho, hl⟩ := lookIn_ns hns
            obtain ⟨v', ev, rv⟩ := (rf_get rf).1 v el
            obtain ⟨u, hu, ru⟩ := RelO.some_of (v := v') (o := mA fl) (by rw [← ev]; exact hr fl)
            have J : PySem.W.InstAt s1.heap L.p.1 L.p.2 (L.C c) (some od) := ⟨hget, e1, by unfold PySem.W.notCls; rw [hd], by rw [ed]; exact ho⟩
            exact HandSPX.exc_get I1.kIn J F.ga F.gt F.sub (PySem.W.findObj_own F.hd (F.no fl (by simpa using hfl)) rfl (by rw [hl, hu])) (handed_of ru) ⟨v', H1, I1.tok _, ru, now S rv p⟩
      · exact absurd p id
/-- g(e) -/
theorem s_callX {call : CallT} {g n : Str} {D : FnD} {i : Nat} {p : Pos} (tk : L2N.Takes X W) (F : FnF L X Γ call g D) (hg : Gl X g) (hm : X.mg g = some (.ref (L.F g))) (hdb : (g == ("__debug__" : Str)) = false) (hn : PE X (.Name n p1) (tVar i)) (hsh : (g, 1, []) ∈ Γ.shapes) (hl : D.ps.length = 1) (hx : 0 ∈ D.xs) :
    PE X (.Call (.Name g p) [.Name n p1] [] pos) (GoodE L X.K W (eCallX (call g) i)) := by
  refine ⟨fun pins s σ H Q I ⟨f, ρ, h, S, E, pp⟩ => ?_⟩
  unfold eCallX at pp
  cases e : xAt ρ i with
  | none => rw [e] at pp; exact absurd pp id
  | some q =>
    obtain ⟨c, fs⟩ := q
    rw [e] at pp
    dsimp only at pp
    obtain ⟨h1, h2⟩ := xslot E e
    obtain ⟨fd, Fo, _, Sh⟩ := F.ex
    cases hb : bindV D 1 [] with
    | none =>
      exfalso
      match D, hl, hb with
      | ⟨[x], dfl, N, sc, body, xs, ow, itb⟩, _, hb => simp [bindV, bindGo] at hb
    | some sel =>
      obtain ⟨_, bb⟩ := Sh _ _ _ hsh hb
      have kb := bb rfl hl.symm
      refine wpAny_Call_Name_kw (ld_glob I hg hm ?_ hdb)
      refine PySem.W.callWith_K (h₀ := X.base) I.ok.mod.kin F.kp (thn ((pa_cons hn pa_nil).run pos pins s σ H (fun vs H1 => vs = [.ref L.p.1] ∧ H1 = H) I ⟨_, h1, rfl, rfl⟩) fun us s1 ⟨vs, H1, I1, r, ev, eH⟩ => ⟨I1.kIn, ?_⟩) rfl rfl
      subst ev eH
      have hlu : us.length = D.ps.length := by rw [← r.length, hl]; rfl
      have bt := kb s1 us I1.kIn (by rw [List.append_nil]; exact hlu)
      rw [List.append_nil] at bt
      refine wpAny_call (codeAny_mono (Fo X.A (.inl rfl) pins σ H1 s1 I1 ⟨us, []⟩ us [.ref L.p.1] Q (WE W σ) bt r ⟨by rw [hl]; rfl, f, h, [.exn c fs], S, ⟨rfl, fun j t ej => ?_⟩, ?_⟩) fun r s' hq => ?_)
      · cases j with
        | zero =>
          simp at ej
          subst ej
          exact ⟨_, rfl, .inr ⟨hx, c, fs, rfl, rfl, h2⟩⟩
        | succ j => simp at ej
      · cases em : call g [.exn c fs] h with
        | ok v h' => rw [em] at pp; exact pp
        | exc c fs h' => rw [em] at pp; exact pp
        | bad => rw [em] at pp; exact pp
      · cases r with
        | error e => exact L2N.passAt tk σ pins H1 s1 e s' I1 hq
        | ok fl =>
          cases fl with
          | ret u => exact I1.after hq
          | next => exact False.elim hq
          | brk => exact False.elim hq
          | cont => exact False.elim hq
end
end Mp
set_option Elab.async false
set_option linter.all false
set_option maxRecDepth 100000
set_option maxHeartbeats 2000000
namespace Mp
open PySem PySem.Spec PyProof.Rows L2 NdefX L2H
/-! ### defs that are called where the exception p is handled -/
structure FnHp (P : Program) (w : World) (K : PySem.W.Frag) (mg : Str → Option Value) (base : Heap) (CX : CXT) (k : Nat) (f : Addr) (fd : FuncData) (ps : List Str) (sp : Sp) (p : Addr × Obj) : Prop where
  run : ∀ (A : Around) (outer : List PySem.Env) (s : Shared) (H : Hp) (args : Args) (us : List Value) (vs : List V) (Q : VK) (E : XK), RoomH k A → Hot1 A p → PinOk outer H s p → Env0 P w K mg base A outer s H → BindsTo s fd args (ps.zip us) → Vals vs us → sp vs H Q E →
    codeAny (model P w) A (.call (.ref f) args) (CR CX outer P w H s Q E) s
theorem fn_ofHp {CX : CXT} {P : Program} {w : World} {K : PySem.W.Frag} {mg : Str → Option Value} {base : Heap} {k : Nat} {f : Addr} {name qual : Str} {params : Arguments} {body : List Stmt} {scope : Scope} {dV kV doc pm cdv ct oc : Value} {an od : Option Addr}
    {osl : Array (Option Value)} {N ps : List Str} {sp : Sp} {p : Addr × Obj} (lk : K.lookup f = some ⟨oc, od, .func (PySem.W.fnOf name qual params body scope dV kV doc pm an cdv ct), osl⟩) (hcd : PySem.W.codeIn K cdv qual = true) (S : FnScope N ps scope)
    (len : ∀ vs H Q E, sp vs H Q E → vs.length = ps.length)
    (hbody : ∀ (A : Around) (outer : List PySem.Env) (s : Shared) (H : Hp) (vs : List V) (Q : VK) (E : XK), Hot1 A p → RoomH k (A.deeper (envOfC qual scope s.heap.objs.size f cdv)) → sp vs H Q E →
      ∃ t, PSs (cxH CX P w K mg base N qual scope f cdv A outer s H E p) body t ∧ t { nx := fun _ H' => Q .non H', rt := Q } (L2.start N vs) H) :
    FnHp P w K mg base CX (k + 1) f (PySem.W.fnOf name qual params body scope dV kV doc pm an cdv ct) ps sp p := by
  refine ⟨fun A outer s H args us vs Q E hr hot hpin e0 hb r hsp => ?_⟩
  have hl := len _ _ _ _ hsp
  have KX : K.In s.heap := e0.mod.kin.keeps fun b o e => (e0.bs b o e).1
  have lim : s.heap.NoLimit := e0.mod.nolimit.keeps fun b o e => (e0.bs b o e).1
  have hkind : ∀ y ∈ ps.zip us, scope.names.lookup y.1 = some .local ∨ (scope.names.lookup y.1 = some .cell ∧ ((cellsFrom (s.heap.objs.size + 1) scope.names []).lookup y.1).isSome = true) := fun ⟨n, v⟩ hy => by
    rcases S.par n (List.of_mem_zip hy).1 with q | q
    · exact .inl q
    · exact .inr ⟨q, PySem.W.cellsFrom_some _ _ _ (.inl q)⟩
  refine codeAny_call_function hr.depth (KX _ _ lk) rfl S.co S.gen rfl (PySem.W.codeRec_of KX hcd) (hb _ _ _ _ ?_)
  refine wpAny_newFunctionEnv_cells S.kind hkind fun env he s1 x => ?_
  subst he
  refine ⟨lim.keeps x.toInCall.keep, codeAny_func ?_⟩
  obtain ⟨t, ht, hq⟩ := hbody A outer s H vs Q E hot (hr.deeper _) hsp
  have I : Inv (cxH CX P w K mg base N qual scope f cdv A outer s H E p) [] (L2.start N vs) H s1 := inv_startH S hpin e0 hl r x
  refine wpAny_mono (ht.run [] s1 (L2.start N vs) H _ I hq) (fun fl s' hs => ?_) fun e s' hs => hs
  have fin : ∀ {σ' : L2.St} {H' : Hp} {v : V} {u : Value}, Inv (cxH CX P w K mg base N qual scope f cdv A outer s H E p) [] σ' H' s' → RelV v u → Q v H' → CE outer P w H s Q u s' :=
    fun {σ' H' v u} J rv q => ⟨v, H', J.os, J.bare, J.base, J.hok, rv, q⟩
  cases fl with
  | ret u =>
    obtain ⟨v, σ', H', J, rv, q⟩ := hs
    exact fin J rv q
  | next =>
    obtain ⟨σ', H', J, q⟩ := hs
    exact fin (v := V.non) (u := Value.none) J rfl q
  | brk =>
    obtain ⟨_, _, _, q⟩ := hs
    exact False.elim q
  | cont =>
    obtain ⟨_, _, _, q⟩ := hs
    exact False.elim q
theorem runX_hot {X : Cx} {fa : Addr} {fd : FuncData} {ps : List Str} {sp : Sp} {k : Nat} {p : Addr × Obj} (F : FnHp X.prog X.w X.K X.mg X.base (L2N.CX X.prog X.w) k fa fd ps sp p) (hr : RoomH (k + 1) X.A) (hot : Hot1 X.A p) (hp : p ∈ X.pn) : RunX X fa fd ps sp := by
  intro A hA pins σ H s I args us vs Q E hb r h
  have P1 := I.pin p (List.mem_append_left _ hp)
  have hpin : PinOk X.stack H s p := ⟨P1.1, P1.2.1, fun hm => (List.mem_cons.mp (I.stkSub p.1 hm)).elim P1.2.2.1 P1.2.2.2.1, P1.2.2.2.2⟩
  rcases hA with rfl | ⟨C, uu, kw, rfl⟩ | rfl
  · exact F.run X.A X.stack s H args us vs Q E (hr.mono (Nat.le_succ k)) hot hpin I.env0 hb r h
  · refine F.run _ X.stack s H args us vs Q E ⟨by have := hr.dp; rw [make_depth]; omega, by have := hr.un; rw [make_units]; omega⟩ ⟨?_, hot.2⟩ hpin (I.env0.make C uu kw) hb r h
    exact hot.1
  · refine F.run _ X.stack s H args us vs Q E ⟨by have := hr.dp; show X.A.depth + 3 * k + 5 < _; omega, by have := hr.un; show X.A.units + 1 + 16 * k + 200 < _; omega⟩ ⟨?_, hot.2⟩ hpin I.env0.in1 hb r h
    exact hot.1
/-! ### for over a range, there -/
section
variable {L : Lk} {X : Cx} {W : WX} {a : Expr} {da : ME} {pos p : Pos}
theorem pihImp {X : Cx} {tg e : Expr} {t t' : TI} (h : PIH X tg e t) (i : ∀ σ H R, t' σ H R → t σ H R) : PIH X tg e t' := ⟨fun pins s σ H R I q => h.run pins s σ H R I (i σ H R q)⟩
theorem i_rng1H {tg : Expr} (hg : Gl X "range") (hm : X.mg "range" = none) (ha : PE X a (GoodE L X.K W da)) (hs : starEach [a] X.env = [(false, eval a X.env)]) : PIH X tg (.Call (.Name "range" p) [a] [] pos) (GoodI L X.K W (Mp.iRng1 da)) := by
  refine pihImp (pi_range1H hg hm (pa_cons ha pa_nil hs) hs) fun σ H R ⟨f, ρ, h, S, E, p⟩ => ?_
  refine ⟨f, ρ, h, S, E, (PostG.bind (R := RV L X.K) p).imp fun x' H1 ⟨f1, x, h1, e1, X1, S1, R1, p1⟩ => ?_⟩
  cases x with
  | int j =>
    obtain rfl := rv_int R1
    dsimp only at p1
    split at p1
    · rename_i hz
      unfold small62 at hz
      rw [Bool.and_eq_true] at hz
      exact ⟨j, rfl, of_decide_eq_true hz.1, of_decide_eq_true hz.2, p1 f1 H1 _ (Ext.refl _ _) S1 wkR_rng⟩
    · exact absurd p1 id
  | _ => exact absurd p1 id
theorem st_forH {tg iter : Expr} {t : Tg} {mi : MI} {mb : MS} {body : List Stmt} (hp : PassesOwn (model X.prog X.w) X.A X.env X.xe) (hc : HotC X) (hi : PIH X tg iter (GoodI L X.K W mi)) (hg : PG X tg (GoodG L X.K t)) (hb : PSs X body (GoodS L X.K W mb))
    (hs : ∀ x, foldedSetIterable iter X.env x = pure x) : PS X (.For tg iter body [] pos) (GoodS L X.K W (sFor t mi mb sSkip)) := by
  refine psImp (ps_forH hp hc hi hg hb hs) fun D σ H ⟨f, ρ, h, S, E, p⟩ => ?_
  refine ⟨f, ρ, h, S, E, (PostS.onE (R := WkR L X.K) E S p).imp fun J H1 ⟨f1, w, h1, e1, X1, S1, E1, R1, p1⟩ => ?_⟩
  refine ⟨fun i m σ' H' => ∃ f' ρ' h', Ext f1 f' H1 H' ∧ Sim L X.K f' h' H' ∧ EnvR L X.K f' H' ρ' σ' ∧ PostS L X.K W D f' H' (forF w t mb sSkip m i ρ' h'), ⟨w.fuel, f1, ρ, h1, Ext.refl _ _, S1, E1, p1⟩, ?_⟩
  rintro i m σ' H' ⟨f', ρ', h', X', S', E', p'⟩
  have z := R1 f' h' H' i X' S'
  rw [forF_eq] at p'
  cases ea : w.at_ i h' with
  | none => rw [ea] at p'; exact absurd p' id
  | some o =>
    rw [ea] at p' z
    cases o with
    | none => exact .inl ⟨z, p' f' H' σ' (Ext.refl _ _) S' E'⟩
    | some v =>
      obtain ⟨zg, zy⟩ := z
      cases m with
      | zero => exact absurd p' id
      | succ m =>
        dsimp only at p'
        cases eρ : put1 t v ρ' with
        | none => rw [eρ] at p'; exact absurd p' id
        | some ρ1 =>
          rw [eρ] at p'
          dsimp only at p'
          refine .inr ⟨zg, fun σ2 H2 => ∃ f2 ρ2 h2, Ext f1 f2 H1 H2 ∧ Sim L X.K f2 h2 H2 ∧ EnvR L X.K f2 H2 ρ2 σ2 ∧ PostS L X.K W D f2 H2 (forF w t mb sSkip m (i + 1) ρ2 h2), fun σ2 H2 q => ⟨m, Nat.lt_succ_self _, q⟩, fun x H'' y => ?_⟩
          obtain ⟨X2, S2, R2⟩ := zy x H'' y
          refine ⟨f', ρ', h', v, ρ1, S2, E'.mono S' X2, R2, eρ, fun σ1 E1' _ => ⟨f', ρ1, h', S2, E1', ?_⟩⟩
          have p2 := PostS.ext p' X2
          cases eb : mb ρ1 h' with
          | ok v h2 =>
            rw [eb] at p2
            cases v with
            | nx ρ2 => exact fun f3 H3 σ3 X3 S3 E3 => ⟨f3, ρ2, h2, X'.trans (X2.trans X3), S3, E3, PostS.ext p2 X3⟩
            | ct ρ2 => exact fun f3 H3 σ3 X3 S3 E3 => ⟨f3, ρ2, h2, X'.trans (X2.trans X3), S3, E3, PostS.ext p2 X3⟩
            | bk ρ2 => exact fun f3 H3 σ3 X3 S3 E3 => p2 f3 H3 σ3 X3 S3 E3
            | rt v => exact p2
            | xc ρ2 c fs => exact p2
          | exc c fs h2 => rw [eb] at p2; exact p2
          | bad => rw [eb] at p2; exact p2
end
end Mp
set_option Elab.async false
set_option linter.all false
set_option maxRecDepth 100000
set_option maxHeartbeats 3200000
namespace Mp
open PySem PySem.Spec PyProof.Rows L2
section
variable {L : Lk} {X : Cx} {W : WX} {pos : Pos} {a b c o : Expr} {da db dc do_ : ME} {es : List Expr} {das : MA}
def RP : Nm → Hp → Option Int → Option Int → Prop := fun _ _ x y => x = y
def GoodO (L : Lk) (K : PySem.W.Frag) (W : WX) (m : MO) : TO := fun σ H Q => ∃ f ρ h, Sim L K f h H ∧ EnvR L K f H ρ σ ∧ PostG L K RP W f σ H Q (m ρ h)
theorem poImp {e : Option Expr} {t t' : TO} (h : PO X e t) (i : ∀ σ H Q, t' σ H Q → t σ H Q) : PO X e t' := ⟨fun pins s σ H Q I q => h.run pins s σ H Q I (i σ H Q q)⟩
theorem o_none : PO X none (GoodO L X.K W oNone) := poImp po_none fun σ H Q ⟨f, ρ, h, S, E, p⟩ => p f H none (Ext.refl _ _) S rfl
theorem o_some (ha : PE X a (GoodE L X.K W da)) : PO X (some a) (GoodO L X.K W (oSome da)) := by
  refine poImp (po_some ha) fun σ H Q ⟨f, ρ, h, S, E, p⟩ => ?_
  refine ⟨f, ρ, h, S, E, (PostG.bind (R := RV L X.K) p).imp fun x' H1 ⟨f1, x, h1, e1, X1, S1, R1, p1⟩ => ?_⟩
  cases x with
  | int i => exact ⟨i, rv_int R1, p1 f1 H1 _ (Ext.refl _ _) S1 rfl⟩
  | _ => exact absurd p1 id
theorem cut_rel {K : PySem.W.Frag} {f : Nm} {H : Hp} {ts : List Val} {vs : List V} (r : RVs L K f H ts vs) (lo hi : Option Int) : RVs L K f H (cut ts lo hi) (cutV vs lo hi) := by
  unfold cut cutV
  rw [r.length]
  exact (r.drop _).take _
theorem sl_ok : SlR X (fun x' lo hi H Q => ∃ f h x, Sim L X.K f h H ∧ RV L X.K f H x x' ∧ PostG L X.K (RV L X.K) WF f [] H Q (sliceV x lo hi h)) := by
  intro pins s σ H x' v vl vu lo hi sl Q I rx hs pl pu ⟨f, h, x, S, R, p⟩
  cases x with
  | tup ts =>
    obtain ⟨ad, vs, rfl, sa, ra⟩ := rv_tup R
    simp only [sliceV] at p
    refine sl_tupA pins s σ H _ v vl vu lo hi sl Q I rx hs pl pu ⟨ad, vs, rfl, sa, fun z => ?_, fun _ q hq => newT_ok S (cut_rel ra lo hi) p q hq⟩
    have e : cut ts lo hi = ts := by
      unfold cut
      rw [ra.length, z.1, z.2]
      simp [← ra.length]
    rw [e] at p
    exact now S R p
  | str z =>
    obtain rfl := rv_str R
    simp only [sliceV] at p
    split at p
    · rename_i hz
      exact C8.sl_txt pins s σ H _ v vl vu lo hi sl Q I rx hs pl pu ⟨z, rfl, hz, now S (mk_str _) p⟩
    · exact absurd p id
  | ref n =>
    obtain ⟨ad, ea, rfl⟩ := rv_ref R
    simp only [sliceV] at p
    cases q : h[n]? with
    | none => rw [q] at p; exact absurd p id
    | some ob =>
      rw [q] at p
      cases ob with
      | lst xs =>
        obtain ⟨vs, sv, rv⟩ := S.seq ea (.inl q)
        exact sl_list pins s σ H _ v vl vu lo hi sl Q I rx hs pl pu ⟨ad, vs, rfl, sv, (newL_ok S (cut_rel rv lo hi) p).2⟩
      | rol xs =>
        obtain ⟨vs, sv, rv⟩ := S.seq ea (.inr q)
        exact sl_list pins s σ H _ v vl vu lo hi sl Q I rx hs pl pu ⟨ad, vs, rfl, sv, (newL_ok S (cut_rel rv lo hi) p).2⟩
      | ins c fs => exact absurd p id
      | dic kvs => exact absurd p id
      | frd kvs => exact absurd p id
  | non => simp only [sliceV] at p; exact absurd p id
  | bl _ => simp only [sliceV] at p; exact absurd p id
  | int _ => simp only [sliceV] at p; exact absurd p id
  | fn _ => simp only [sliceV] at p; exact absurd p id
  | exn _ _ => simp only [sliceV] at p; exact absurd p id
theorem sliceV_nox (v : Val) (lo hi : Option Int) (h : Mem) : NoX (sliceV v lo hi h) := by
  unfold sliceV
  split
  · exact True.intro
  · split <;> exact True.intro
  · split <;> first | exact newL_nox _ _ | exact True.intro
  · exact True.intro
theorem s_slice {lo hi : Option Expr} {ml mh : MO} {p2 : Pos} (ha : PE X a (GoodE L X.K W da)) (hl : PO X lo (GoodO L X.K W ml)) (hu : PO X hi (GoodO L X.K W mh)) : PE X (.Subscript a (.Slice lo hi none p2) pos) (GoodE L X.K W (eSlice da ml mh)) := by
  refine peImp (pe_slice (sl_ok (L := L)) ha hl hu) fun σ H Q ⟨f, ρ, h, S, E, p⟩ => ?_
  refine ⟨f, ρ, h, S, E, (PostG.bind (R := RV L X.K) p).imp fun x' H1 ⟨f1, x, h1, e1, X1, S1, R1, p1⟩ => ?_⟩
  refine ⟨f1, ρ, h1, S1, E.mono S X1, (PostG.bind (R := RP) p1).imp fun l' H2 ⟨f2, l, h2, e2, X2, S2, R2, p2⟩ => ?_⟩
  obtain rfl : l = l' := R2
  refine ⟨f2, ρ, h2, S2, (E.mono S X1).mono S1 X2, (PostG.bind (R := RP) p2).imp fun u' H3 ⟨f3, u, h3, e3, X3, S3, R3, p3⟩ => ?_⟩
  obtain rfl : u = u' := R3
  exact ⟨f3, h3, x, S3, (R1.mono S1 X2).mono S2 X3, p3.nox (sliceV_nox _ _ _ _)⟩
/-! ### list(range(..)) -/
theorem rg_ok {i j : Int} (h : rgOk i j = true) : RgOk i j := by
  unfold rgOk small62 at h
  simp only [Bool.and_eq_true, decide_eq_true_eq] at h
  exact ⟨h.1.1.1, h.1.1.2, h.1.2.1, h.1.2.2, h.2⟩
theorem rgL_rel {K : PySem.W.Frag} {f : Nm} {H : Hp} (i j : Int) : RVs L K f H (rgL i j) (rgV i j) := by
  unfold rgL rgV
  have : ∀ l : List Nat, RVs L K f H (l.map fun n => Val.int (i + (n : Nat))) (l.map fun n => V.int (i + (n : Nat))) := fun l => by
    induction l with
    | nil => exact RVs.nil
    | cons n l ih => exact RVs.cons (mk_int _) ih
  exact this _
theorem s_listR1 {p p1 pos1 : Pos} (hc : X.calm = true) (hg : Gl X "list") (hm : X.mg "list" = none) (hgr : Gl X "range") (hmr : X.mg "range" = none) (ha : PE X a (GoodE L X.K W da)) (hst : noStar a = true) :
    PE X (.Call (.Name "list" p) [.Call (.Name "range" p1) [a] [] pos1] [] pos) (GoodE L X.K W (eListR1 da)) := by
  refine peImp (pe_listRg hc hg hm (prg_1 hgr hmr ha (star_cons hst)) rfl) fun σ H Q ⟨f, ρ, h, S, E, p⟩ => ?_
  refine ⟨f, ρ, h, S, E, (PostG.bind (R := RV L X.K) p).imp fun x' H1 ⟨f1, x, h1, e1, X1, S1, R1, p1⟩ => ?_⟩
  cases x with
  | int j =>
    dsimp only at p1
    split at p1
    · rename_i hz
      exact ⟨j, rv_int R1, rg_ok hz, (newL_ok S1 (rgL_rel 0 j) p1).2⟩
    · exact absurd p1 id
  | _ => exact absurd p1 id
theorem s_listR2 {p p1 pos1 : Pos} (hc : X.calm = true) (hg : Gl X "list") (hm : X.mg "list" = none) (hgr : Gl X "range") (hmr : X.mg "range" = none) (ha : PE X a (GoodE L X.K W da)) (hb : PE X b (GoodE L X.K W db)) (hst : noStar a = true) (hst2 : noStar b = true) :
    PE X (.Call (.Name "list" p) [.Call (.Name "range" p1) [a, b] [] pos1] [] pos) (GoodE L X.K W (eListR2 da db)) := by
  refine peImp (pe_listRg hc hg hm (prg_2 hgr hmr ha hb (star_cons hst) (star_cons hst2) (star_any (es := [b]) (by simp [hst2]))) rfl) fun σ H Q ⟨f, ρ, h, S, E, p⟩ => ?_
  refine ⟨f, ρ, h, S, E, (PostG.bind (R := RV L X.K) p).imp fun x' H1 ⟨f1, x, h1, e1, X1, S1, R1, p1⟩ => ?_⟩
  refine ⟨f1, ρ, h1, S1, E.mono S X1, (PostG.bind (R := RV L X.K) p1).imp fun y' H2 ⟨f2, y, h2, e2, X2, S2, R2, p2⟩ => ?_⟩
  have R1' := R1.mono S1 X2
  cases x with
  | int i =>
    cases y with
    | int j =>
      dsimp only at p2
      split at p2
      · rename_i hz
        exact ⟨i, j, rv_int R1', rv_int R2, rg_ok hz, (newL_ok S2 (rgL_rel i j) p2).2⟩
      · exact absurd p2 id
    | _ => exact absurd p2 id
  | _ => exact absurd p2 id
/-! ### [elt for t in it if c] -/
theorem s_lc {elt tg iter : Expr} {ifs : List Expr} {scope : Scope} {own : List (Str × Nat)} {t : Tg} {mi : MI} {mc : MT} {me : ME} (hc : X.calm = true) (hN : X.N.Nodup) (hi : PI X tg iter (GoodI L X.K W mi)) (ok : BlkOk X.N X.env.scope scope own) (hvs : ∀ j ∈ tgS t, j ∈ own.map (·.2))
    (hg : ∀ (s : Shared) (H : Hp) (C : Addr) (cl : List (Str × Addr)) (fp : List Addr), PG (X.blk s H scope (compEnvC scope cl C X.env) fp) tg (GoodG L X.K t))
    (ht : ∀ (s : Shared) (H : Hp) (C : Addr) (cl : List (Str × Addr)) (fp : List Addr), PTs (X.blk s H scope (compEnvC scope cl C X.env) fp) ifs (GoodT L X.K WF mc))
    (he : ∀ (s : Shared) (H : Hp) (C : Addr) (cl : List (Str × Addr)) (fp : List Addr), PE (X.blk s H scope (compEnvC scope cl C X.env) fp) elt (GoodE L X.K WF me)) (hs : ∀ x, foldedSetIterable iter X.env x = pure x) :
    PE X (.ListComp elt [⟨tg, iter, ifs, 0⟩] scope pos) (GoodE L X.K W (eLc (own.map (·.2)) t mi mc me)) :=
  peImp (pe_lc hc hN hi ok hg ht he hs) fun σ H Q G => good_lc hvs G
theorem st_setLc {i : Nat} {y : Str} {py spos : Pos} {elt tg iter : Expr} {ifs : List Expr} {scope : Scope} {own : List (Str × Nat)} {t : Tg} {mi : MI} {mc : MT} {me : ME} (hc : X.calm = true) (hN : X.N.Nodup) (hy : X.N[i]? = some y) (hyl : X.env.scope.names.lookup y = some .local)
    (hsw : swapsWith (.ListComp elt [⟨tg, iter, ifs, 0⟩] scope pos) (some (.Name y py)) spos.line X.env = pure true) (hi : PI X tg iter (GoodI L X.K W mi)) (ok : BlkOk X.N X.env.scope scope own) (hvs : ∀ j ∈ tgS t, j ∈ own.map (·.2))
    (hg : ∀ (s : Shared) (H : Hp) (C : Addr) (cl : List (Str × Addr)) (fp : List Addr), PG (X.blk s H scope (compEnvC scope cl C X.env) fp) tg (GoodG L X.K t))
    (ht : ∀ (s : Shared) (H : Hp) (C : Addr) (cl : List (Str × Addr)) (fp : List Addr), PTs (X.blk s H scope (compEnvC scope cl C X.env) fp) ifs (GoodT L X.K WF mc))
    (he : ∀ (s : Shared) (H : Hp) (C : Addr) (cl : List (Str × Addr)) (fp : List Addr), PE (X.blk s H scope (compEnvC scope cl C X.env) fp) elt (GoodE L X.K WF me)) (hs : ∀ x, foldedSetIterable iter X.env x = pure x) :
    PS X (.Assign [.Name y py] (.ListComp elt [⟨tg, iter, ifs, 0⟩] scope pos) spos) (GoodS L X.K W (sSet i (eLc (own.map (·.2)) t mi mc me))) := by
  refine psImp (ps_setLc hc hN hy hyl hsw hi ok hg ht he hs) fun D σ H G => ?_
  obtain ⟨f, ρ, h, S, E, p⟩ := G
  refine good_lc hvs ⟨f, ρ, h, S, E, (PostS.onE (R := RV L X.K) E S p).imp fun v' H1 ⟨f1, v, h1, e1, X1, S1, E1, R1, p1⟩ => p1 f1 H1 _ (Ext.refl _ _) S1 (E1.set R1 i)⟩
/-! ### {k: v for t in it if c} -/
theorem s_dc {kx vx tg iter : Expr} {ifs : List Expr} {scope : Scope} {own : List (Str × Nat)} {t : Tg} {mi : MI} {mc : MT} {mk mv : ME} (hc : X.calm = true) (hN : X.N.Nodup) (hi : PI X tg iter (GoodI L X.K W mi)) (ok : BlkOk X.N X.env.scope scope own) (hvs : ∀ j ∈ tgS t, j ∈ own.map (·.2))
    (hg : ∀ (s : Shared) (H : Hp) (C : Addr) (cl : List (Str × Addr)) (fp : List Addr), PG (X.blk s H scope (compEnvC scope cl C X.env) fp) tg (GoodG L X.K t))
    (ht : ∀ (s : Shared) (H : Hp) (C : Addr) (cl : List (Str × Addr)) (fp : List Addr), PTs (X.blk s H scope (compEnvC scope cl C X.env) fp) ifs (GoodT L X.K WF mc))
    (hk : ∀ (s : Shared) (H : Hp) (C : Addr) (cl : List (Str × Addr)) (fp : List Addr), PE (X.blk s H scope (compEnvC scope cl C X.env) fp) kx (GoodE L X.K WF mk))
    (he : ∀ (s : Shared) (H : Hp) (C : Addr) (cl : List (Str × Addr)) (fp : List Addr), PE (X.blk s H scope (compEnvC scope cl C X.env) fp) vx (GoodE L X.K WF mv)) (hs : ∀ x, foldedSetIterable iter X.env x = pure x) :
    PE X (.DictComp kx vx [⟨tg, iter, ifs, 0⟩] scope pos) (GoodE L X.K W (eDc (own.map (·.2)) t mi mc mk mv)) :=
  peImp (pe_dc hc hN hi ok hg ht hk he hs) fun σ H Q G => good_dc hvs G
theorem ps_setDc {i : Nat} {y : Str} {py : Pos} {kx vx tg iter : Expr} {ifs : List Expr} {scope : Scope} {own : List (Str × Nat)} {spos : Pos} {wi : TI} {g : TG} {tt : TT} {tk tv : TE} (hc : X.calm = true) (hN : X.N.Nodup) (hy : X.N[i]? = some y) (hyl : X.env.scope.names.lookup y = some .local)
    (hsw : swapsWith (.DictComp kx vx [⟨tg, iter, ifs, 0⟩] scope pos) (some (.Name y py)) spos.line X.env = pure true) (hi : PI X tg iter wi) (ok : BlkOk X.N X.env.scope scope own)
    (hg : ∀ (s : Shared) (H : Hp) (C : Addr) (cl : List (Str × Addr)) (fp : List Addr), PG (X.blk s H scope (compEnvC scope cl C X.env) fp) tg g) (ht : ∀ (s : Shared) (H : Hp) (C : Addr) (cl : List (Str × Addr)) (fp : List Addr), PTs (X.blk s H scope (compEnvC scope cl C X.env) fp) ifs tt)
    (hk : ∀ (s : Shared) (H : Hp) (C : Addr) (cl : List (Str × Addr)) (fp : List Addr), PE (X.blk s H scope (compEnvC scope cl C X.env) fp) kx tk)
    (he : ∀ (s : Shared) (H : Hp) (C : Addr) (cl : List (Str × Addr)) (fp : List Addr), PE (X.blk s H scope (compEnvC scope cl C X.env) fp) vx tv) (hs : ∀ x, foldedSetIterable iter X.env x = pure x) :
    PS X (.Assign [.Name y py] (.DictComp kx vx [⟨tg, iter, ifs, 0⟩] scope pos) spos) (tAsg (tDc wi g tt tk tv (own.map (·.2))) (gName i)) := by
  refine ⟨fun pins s σ H D I h => ?_⟩
  rw [exec_Assign_Name_used _ _ _ _ hsw]
  refine wpAny_bind (wpAny_standAt (wpAny_bind ?_))
  show wpAny _ X.A (do let _ ← comprehension (.DictComp kx vx [⟨tg, iter, ifs, 0⟩] scope pos) scope X.env (firstIterPos [⟨tg, iter, ifs, 0⟩] pos) newDict false (eval iter X.env) (some (assign (.Name y py) X.env))) _ _ s
  have h : tDc wi g tt tk tv (own.map (·.2)) σ H (fun x H1 => gName i x σ H1 D.nx) := h
  refine wpAny_bind (thn (dc_core (Qf := fun _ s' => SP X pins D .next s') hc hN I hi ok hg ht hk he hs h fun L C s' m H' I' q hn f => ?_) fun _ s' hq => wpAny_pure (wpAny_pure hq))
  show wpAny _ _ (assign (.Name y py) X.env (.ref L)) _ _ _
  refine wpAny_assign_Name (store_ok2 (v := V.ref L) I' hN hy (.inl hyl) rfl (fun s2 I2 ⟨a, sb, ha⟩ => ?_) (.inr hyl))
  obtain ⟨f0, f1, f2, f3, f4, f5⟩ := f
  have haC : C ≠ a := by
    rcases ha with z | z
    · rw [z]; exact f1
    · exact fun e => f4 y a z e.symm
  refine ⟨m, hn.sameBut sb haC, fun h3 sb3 => ?_⟩
  exact ⟨_, H', I2.turned (t' := s2.toks) (fun b o hb e => (sb3.2 b hb).trans e) f0 f1 f3 f4 f5, q⟩
theorem st_setDc {i : Nat} {y : Str} {py spos : Pos} {kx vx tg iter : Expr} {ifs : List Expr} {scope : Scope} {own : List (Str × Nat)} {t : Tg} {mi : MI} {mc : MT} {mk mv : ME} (hc : X.calm = true) (hN : X.N.Nodup) (hy : X.N[i]? = some y) (hyl : X.env.scope.names.lookup y = some .local)
    (hsw : swapsWith (.DictComp kx vx [⟨tg, iter, ifs, 0⟩] scope pos) (some (.Name y py)) spos.line X.env = pure true) (hi : PI X tg iter (GoodI L X.K W mi)) (ok : BlkOk X.N X.env.scope scope own) (hvs : ∀ j ∈ tgS t, j ∈ own.map (·.2))
    (hg : ∀ (s : Shared) (H : Hp) (C : Addr) (cl : List (Str × Addr)) (fp : List Addr), PG (X.blk s H scope (compEnvC scope cl C X.env) fp) tg (GoodG L X.K t))
    (ht : ∀ (s : Shared) (H : Hp) (C : Addr) (cl : List (Str × Addr)) (fp : List Addr), PTs (X.blk s H scope (compEnvC scope cl C X.env) fp) ifs (GoodT L X.K WF mc))
    (hk : ∀ (s : Shared) (H : Hp) (C : Addr) (cl : List (Str × Addr)) (fp : List Addr), PE (X.blk s H scope (compEnvC scope cl C X.env) fp) kx (GoodE L X.K WF mk))
    (he : ∀ (s : Shared) (H : Hp) (C : Addr) (cl : List (Str × Addr)) (fp : List Addr), PE (X.blk s H scope (compEnvC scope cl C X.env) fp) vx (GoodE L X.K WF mv)) (hs : ∀ x, foldedSetIterable iter X.env x = pure x) :
    PS X (.Assign [.Name y py] (.DictComp kx vx [⟨tg, iter, ifs, 0⟩] scope pos) spos) (GoodS L X.K W (sSet i (eDc (own.map (·.2)) t mi mc mk mv))) := by
  refine psImp (ps_setDc hc hN hy hyl hsw hi ok hg ht hk he hs) fun D σ H G => ?_
  obtain ⟨f, ρ, h, S, E, p⟩ := G
  refine good_dc hvs ⟨f, ρ, h, S, E, (PostS.onE (R := RV L X.K) E S p).imp fun v' H1 ⟨f1, v, h1, e1, X1, S1, E1, R1, p1⟩ => p1 f1 H1 _ (Ext.refl _ _) S1 (E1.set R1 i)⟩
theorem ts_nil : PTs X [] (GoodT L X.K W tYesM) := by
  have h : PTs X [] tYes := pts_nil
  exact ⟨fun pins s σ H Q I ⟨f, ρ, h', S, E, p⟩ => h.run pins s σ H Q I (p f H true (Ext.refl _ _) S rfl)⟩
theorem ts_one {t : MT} (h : PT X c (GoodT L X.K W t)) : PTs X [c] (GoodT L X.K W t) := pts_one h
/-- a, b = x, y with plain local names -/
def sPar (i j : Nat) (as : MA) : MS := fun ρ h => onE (as ρ h) ρ fun vs h => match vs with
  | [v, w] => .ok (.nx ((ρ.set i (some v)).set j (some w))) h
  | _ => .bad
theorem st_par {i j : Nat} {x y : Str} {px py pt : Pos} {kt k2 : Nat} {pt2 : Pos} (hc : X.calm = true) (hN : X.N.Nodup) (hi : X.N[i]? = some x) (hj : X.N[j]? = some y) (hij : i ≠ j) (hx : X.env.scope.names.lookup x = some .local) (hy : X.env.scope.names.lookup y = some .local) (ha : PA X [a, b] (GoodA L X.K W das))
    (hw : swappedStores [.Tuple [.Name x px, .Name y py] kt pt] (.Tuple [a, b] k2 pt2) X.env = pure (some [x, y])) :
    PS X (.Assign [.Tuple [.Name x px, .Name y py] kt pt] (.Tuple [a, b] k2 pt2) pos) (GoodS L X.K W (sPar i j das)) := by
  refine psImp (ps_par hc hN hi hj hij hx hy ha hw) fun D σ H ⟨f, ρ, h, S, E, p⟩ => ?_
  refine ⟨f, ρ, h, S, E, (PostS.onE (R := RVs L X.K) E S p).imp fun vs' H1 ⟨f1, vs, h1, e1, X1, S1, E1, R1, p1⟩ => ?_⟩
  match vs, R1, p1 with
  | [v, w], R1, p1 =>
    obtain ⟨v', w', rfl, r1, r2⟩ := R1.two
    exact ⟨v', w', rfl, p1 f1 H1 _ (Ext.refl _ _) S1 ((E1.set r1 i).set r2 j)⟩
  | [], _, p1 => exact absurd p1 id
  | [_], _, p1 => exact absurd p1 id
  | _ :: _ :: _ :: _, _, p1 => exact absurd p1 id
end
/-! ### xs[::-1], len(set(xs)) -/
def eRev (a : ME) : ME := fun ρ h => (a ρ h).bind fun v h => (Res.opt (lstOf h v) h).bind fun xs h => newL xs.reverse h
def lenSet (ns : List Int) : Nat := (PyProof.Rows.firstMet (fun i => ns.getD i 0) ns.length).length
def eLenSet (a : ME) : ME := fun ρ h => (a ρ h).bind fun v h => (Res.opt ((lstOf h v).bind intsOf) h).bind fun ns h => if ns.length ≤ 4000 then .ok (.int (lenSet ns)) h else .bad
section
variable {L : Lk} {X : Cx} {W : WX} {a : Expr} {da : ME} {pos : Pos}
theorem s_rev {k : Nat} {p1 p2 p3 : Pos} (ha : PE X a (GoodE L X.K W da)) : PE X (.Subscript a (.Slice none none (some (.UnaryOp .USub (.Constant (.int 1) k p1) p2)) p3) pos) (GoodE L X.K W (eRev da)) := by
  refine peImp (pe_revL ha) fun σ H Q ⟨f, ρ, h, S, E, p⟩ => ?_
  refine ⟨f, ρ, h, S, E, (PostG.bind (R := RV L X.K) p).imp fun x' H1 ⟨f1, x, h1, e1, X1, S1, R1, p1⟩ => ?_⟩
  cases e : lstOf h1 x with
  | none => rw [e] at p1; exact absurd p1 id
  | some xs =>
    rw [e] at p1
    obtain ⟨b, vs, rfl, sq, rr⟩ := S1.lstOf R1 e
    exact ⟨b, vs, rfl, sq, (newL_ok S1 rr.reverse p1).2⟩
def tLenSetA (K : PySem.W.Frag) (ta : TE) : TE := fun σ H Q => ta σ H fun x H1 => ∃ (l : Addr) (ns : List Int), x = .ref l ∧ SqL K H1 l (ns.map V.int) ∧ ns.length ≤ 4000 ∧ Q (.int (lenSet ns : Nat)) H1
open RZ in
theorem pe_lenSetA {ta : TE} {p p2 q : Pos} (hg : Gl X "len") (hm : X.mg "len" = none) (hg2 : Gl X "set") (hm2 : X.mg "set" = none) (ha : PE X a ta) (hc : X.calm = true)
    (na : starEach [a] X.env = (false, eval a X.env) :: starEach [] X.env) : PE X (.Call (.Name "len" p) [.Call (.Name "set" p2) [a] [] q] [] pos) (tLenSetA X.K ta) := by
  refine ⟨fun pins s σ H Q I h => ?_⟩
  refine Call_ (ld_blt I hg hm boot_len ?_)
  refine PyProof.Rows.callWith_builtin1 (PyProof.Rows.args_cons ?_ rfl) rfl rfl
  refine Call_ (ld_blt I hg2 hm2 boot_set ?_)
  refine PyProof.Rows.callWith_type1 (PyProof.Rows.args_cons (thn (ha.run pins s σ H _ I h) fun v s1 ⟨x, H1, I1, r1, q1⟩ => PyProof.Rows.args_nil ?_) na) na rfl
  obtain ⟨l, ns, rfl, hq, hl, q1⟩ := q1
  cases r1
  obtain ⟨its, r, pl, hz⟩ := I1.list hq
  have hlen : its.toArray.size = ns.length := by rw [List.size_toArray, ← r.length, List.length_map]
  refine call_set_list (I1.ok.hd hc) pl.isList (by simpa using intsAre_vals r) (by rw [hlen]; unfold scanBound; omega) fun h' tk hS hk => ?_
  refine PyProof.Rows.args_nil ?_
  rw [hlen] at hS
  have hle := PyProof.Rows.firstMet_length_le (fun i => ns.getD i 0) ns.length
  obtain ⟨o, es, ep, t, ho, hex, hd, _, _, _, hf, hn⟩ := hS
  have I2 : Inv X pins σ H1 { s1 with heap := h', toks := tk } := I1.kept fun b o e => hk b o (Heap.lt_size e) e
  exact call_len_set ho hex hd hf (by rw [hn] <;> omega) ⟨.int (lenSet ns : Nat), H1, I2.tok _, ⟨_, by rw [hn]; rfl⟩, q1⟩
theorem s_lenSet {p p1 pos1 : Pos} (hc : X.calm = true) (hg : Gl X "len") (hm : X.mg "len" = none) (hgr : Gl X "set") (hmr : X.mg "set" = none) (ha : PE X a (GoodE L X.K W da)) (hst : noStar a = true) :
    PE X (.Call (.Name "len" p) [.Call (.Name "set" p1) [a] [] pos1] [] pos) (GoodE L X.K W (eLenSet da)) := by
  refine peImp (pe_lenSetA hg hm hgr hmr ha hc (star_cons hst)) fun σ H Q ⟨f, ρ, h, S, E, p⟩ => ?_
  refine ⟨f, ρ, h, S, E, (PostG.bind (R := RV L X.K) p).imp fun x' H1 ⟨f1, x, h1, e1, X1, S1, R1, p1⟩ => ?_⟩
  cases e : (lstOf h1 x).bind intsOf with
  | none => rw [e] at p1; exact absurd p1 id
  | some ns =>
    rw [e] at p1
    obtain ⟨ys, e1, e2⟩ := Option.bind_eq_some_iff.mp e
    obtain ⟨b, vs, rfl, sq, rr⟩ := S1.lstOf R1 e1
    obtain rfl := ints_ok e2 rr
    dsimp only [Res.opt, Res.bind] at p1
    split at p1
    · rename_i hz
      exact ⟨b, ns, rfl, sq, hz, now S1 (mk_int _) p1⟩
    · exact absurd p1 id
end
section
variable {P : Program} {w : World} {A : Around} {E : Value → Shared → Prop} {s : Shared}
/-- set(l) of a list of ints -/
theorem call_set_listI {l : Addr} {items : Array Value} (ns : List Int) {Q : Value → Shared → Prop} (hh : A.handled = none) (hl : s.heap.IsList l items) (hit : IntsAre items.toList ns) (hb : ns.length + 1 < scanBound)
    (h : ∀ (h' : Heap) (tk c : Nat), SetR w h' s.heap.objs.size (fun j => decide (j ∈ ns)) c → c ≤ ns.length → (∀ b o, s.heap.get? b = some o → h'.get? b = some o) → Q (.ref s.heap.objs.size) { s with heap := h', toks := tk }) :
    wpAny (model P w) A (call (.type "set") [.ref l]) Q E s := by
  have hisz : items.size = ns.length := by rw [← Array.length_toList]; exact IntsAre.length hit
  obtain ⟨c, tl, hmro⟩ := F.called_set.mro
  have hmade := F.called_set.made
  have hsub := F.called_set.sub
  refine wpAny_call (codeAny_of_tree ?_)
  show wpAny _ _ (callAny (.type "set") _) _ _ _
  refine wpAny_pure ⟨Code.quiet_builtin _ (by decide +kernel), codeAny_builtin F.entry_type_call ?_⟩
  rw [Around.under_plain (weight_type_call_type "set" [.ref l] []) rfl]
  have h1 := F.called_set.notType
  have h2 := F.called_set.canCreate
  have hct := F.typeCall_set_1 (.ref l)
  repeat (any_goals (first | assumption | wp_step))
  generalize hso : ({ cls := .type "set", dict := none, data := .set #[] 0 (.fresh 0 0 (!w.params.followText "set-order")) } : Obj) = so
  refine codeAny_mono (code_set_led1 (.ref l) (E := E) (Q₁ := fun obj s₁ => obj = .ref s.heap.objs.size ∧ s₁ = { s with heap := s.heap.push so }) ⟨rfl, by rw [hso]⟩) fun r s₁ hr => ?_
  cases r with
  | error e => exact hr
  | ok fl =>
    cases fl with
    | ret obj =>
      obtain ⟨rfl, rfl⟩ := hr
      have hS : (s.heap.push so).get? s.heap.objs.size = some so := Heap.get?_push_size _ (by rw [← hso]; rfl)
      have hT : Shared.TypeIs { s with heap := s.heap.push so } (.ref s.heap.objs.size) "set" := ⟨_, hS, by rw [← hso]⟩
      have hli := F.called_set.init.lookup
      have hbi := F.called_set.init.bind (.ref s.heap.objs.size)
      repeat (any_goals (first | assumption | wp_step))
      refine codeAny_mono (codeAny_call_builtin (R := wants (fun r s₂ => r = .none ∧ ∃ h' tk c, s₂ = { s with heap := h', toks := tk } ∧ SetR w h' s.heap.objs.size (fun j => decide (j ∈ ns)) c ∧ c ≤ ns.length ∧ (∀ b o, s.heap.get? b = some o → h'.get? b = some o)) E) F.called_set.init.plain F.entry_set_init (check_set_init_1 hT ?_)) fun r₂ s₂ hr₂ => ?_
      · have hl1 : (s.heap.push so).IsList l items := by
          obtain ⟨ol, hol, hcl, nl, hdl⟩ := hl
          exact ⟨ol, Heap.get?_push_of_some _ hol, hcl, nl, hdl⟩
        obtain ⟨ol, hol, hcl, nl, hdl⟩ := hl
        have hlS : l < s.heap.objs.size := Heap.lt_size hol
        obtain ⟨ocls, odict, odata, oslots⟩ := ol
        simp only at hcl hdl
        subst hcl; subst hdl
        have hol' : (s.heap.push so).get? l = some { cls := .type "list", dict := odict, data := .seq items nl, slots := oslots } := Heap.get?_push_of_some _ hol
        have hsls := F.sub_list_set
        have hslf := F.sub_list_frozenset
        have hne : (Value.type "list" == Value.type "dict") = false := by decide
        have hh3 : A.in1.in1.in1.handled = none := by simp [hh]
        have sz : (s.heap.push so).objs.size = s.heap.objs.size + 1 := Heap.size_push ..
        have hneI : l ≠ (s.heap.push so).objs.size := by rw [sz]; exact Nat.ne_of_lt (Nat.lt_succ_of_lt hlS)
        have hSf : s.heap.objs.size ∉ [(s.heap.push so).objs.size, l] := by
          rw [sz]
          simp only [List.mem_cons, List.not_mem_nil, or_false, not_or]
          exact ⟨Nat.ne_of_lt (Nat.lt_succ_self _), Nat.ne_of_gt hlS⟩
        have hval : ∀ (i : Nat) (v : Value), items[i]? = some v → ∃ k t, ns[i]? = some k ∧ v = .int k t := fun i v hv => by
          have hi : i < ns.length := by rw [← hisz]; exact (Array.getElem?_eq_some_iff.mp hv).1
          obtain ⟨t, e⟩ := IntsAre.int_at hit i v (by rw [Array.getElem?_toList]; exact hv)
          exact ⟨ns[i], t, List.getElem?_eq_getElem hi, by rw [e, List.getD_eq_getElem?_getD, List.getElem?_eq_getElem hi]; rfl⟩
        subst hso
        unfold Builtin.«set.__init__» noKeywords Builtin.Frozenset.updateFrom
        generalize hPI : pyIter = PI
        wp_walk
        subst hPI
        refine wpAny_pyIter_list hl1 ?_
        refine wpAny_bind (wpAny_runValue ?_)
        refine set_update_ints ((Walks.list hh3 _ l hneI items).toS) s.heap.objs.size hSf ns hisz hb hval (items.size - 0) 0 _ (by omega) (Nat.zero_le _) ⟨⟨_, Heap.get?_push_size _ rfl, rfl, rfl⟩, (hl1.push _)⟩ ⟨0, Nat.le_refl 0, setR_new_at (Heap.get?_push_of_some _ hS)⟩ ?_
        intro s' c' hm hc' hS'
        obtain ⟨h', g2, d', tk', os'⟩ := s'
        have eg : g2 = s.gens := hm.gens
        have ed : d' = s.drawn := hm.drawn
        have eo : os' = s.os := hm.os
        subst eg; subst ed; subst eo
        show wpAny _ _ _ _ _ _
        refine wpAny_pure ?_
        show wpAny _ _ (ret Value.none) _ _ _
        rw [hisz] at hc'
        refine wpAny_pure ⟨rfl, h', tk', c', rfl, hS', hc', fun b o e => ?_⟩
        have hb0 : b < s.heap.objs.size := Heap.lt_size e
        exact hm.heap b o (by
          rw [sz]
          simp only [List.mem_cons, List.not_mem_nil, or_false, not_or]
          exact ⟨Nat.ne_of_lt hb0, Nat.ne_of_lt (Nat.lt_succ_of_lt hb0)⟩) (Heap.get?_push_of_some _ (Heap.get?_push_of_some _ e))
      · cases r₂ with
        | error e => exact hr₂
        | ok fl₂ =>
          cases fl₂ with
          | ret r =>
            obtain ⟨rfl, h', tk, c', rfl, hS', hc', hk'⟩ := hr₂
            repeat (any_goals (first | assumption | wp_step))
            exact h _ _ _ hS' hc' hk'
          | _ => exact hr₂.elim
    | _ => exact hr.elim
/-- sorted(s) of a set of ints, any number of them -/
theorem sorted_setI {a : Addr} {S : Int → Bool} {n : Nat} {Q : Value → Shared → Prop} (R : SetR w s.heap a S n) (hh : A.handled = none) (hz0 : n ≤ sizeLine)
    (hQ : ∀ s' p (out : Array Value) (c : Nat) (ns : List Int), (∀ b o, s.heap.get? b = some o → s'.heap.get? b = some o) → s'.gens = s.gens → s'.os = s.os → s.heap.objs.size ≤ p →
      s'.heap.get? p = some (seqObj "list" out c) → IntsAre out.toList ns → ns.Pairwise (· < ·) → (∀ k, k ∈ ns ↔ S k = true) → ns.length = n → Q (.ref p) s') :
    wpAny (model P w) A (call (.builtin "sorted") [.ref a]) Q E s := by
  obtain ⟨o, es, ep, t, ho, hex, hd, g, nd, hm, hb, hf, hn, hr, hl⟩ := R
  refine Calls.call_function_entry kind_sorted plain_sorted entry_sorted (args_sorted1 _) ?_
  unfold Builtin.«sorted»
  refine wpAny_bind (m := checkCount "sorted" 1 1 _) (wpAny_pure ?_)
  refine wpAny_bind (collect_set (A := A.in1) hh ⟨o, ho, hex.1, hd⟩ hf hb hr hl fun s1 vs k1 hz g1 o1 pm => ?_)
  have hvl : vs.length = n := by rw [pm.length_eq, List.length_map, Array.length_toList]; exact hn
  have hI : IntsAre vs (vs.map Builtin.Re.reRawOf) := ints_of vs fun v hv => by
    obtain ⟨e, he, q⟩ := List.mem_map.mp (pm.mem_iff.mp hv)
    obtain ⟨k, tk, h1, _⟩ := g e he
    exact ⟨k, tk, by rw [← q]; exact h1⟩
  have pk : (vs.map Builtin.Re.reRawOf).Perm (es.toList.map L2.keyOf) := by
    have q := pm.map Builtin.Re.reRawOf
    rw [List.map_map] at q
    exact q
  refine wpAny_bind (wpAny_newList ?_ (by rw [hvl]; exact hz0))
  have hoL : (s1.heap.push (seqObj "list" vs.toArray 0)).get? s1.heap.objs.size = some (seqObj "list" vs.toArray 0) := Heap.get?_push_size _ rfl
  refine wpAny_bind (wpAny_holding (wpAny_call_entry slot_list_sort ⟨_, hoL, rfl⟩ entry_list_sort (SrtO.list_sort_ord SrtO.swo_int hoL (by rw [hvl]; exact hz0) (fun h2 => SrtO.ints_sortable hI h2) fun out x1 x2 => ⟨_, rfl, ?_⟩) (args_list_sort _)))
  obtain ⟨a1, a2, a3⟩ := SrtO.ints_out hI x1 x2
  obtain ⟨c, hc⟩ := sortedHeap_at (vs := vs) (out := out.toArray) hoL
  have pn : (out.map SrtO.iv).Perm (es.toList.map L2.keyOf) := a2.trans pk
  refine wpAny_pure ⟨_, rfl, hQ _ s1.heap.objs.size out.toArray c (out.map SrtO.iv) (fun b u e => ?_) g1 o1 hz hc (by simpa using a1) (lt_of_le_nodup _ a3 (pn.nodup_iff.mpr nd)) (fun k => by rw [pn.mem_iff, ← hm k]) ?_⟩
  · have q := k1 b u e
    have hlt := Heap.lt_size q
    show (sortedHeap (s1.heap.push (seqObj "list" vs.toArray 0)) s1.heap.objs.size vs out.toArray).get? b = some u
    rw [sortedHeap_old (Nat.ne_of_lt hlt) (by rw [size_push']; exact Nat.lt_succ_of_lt hlt)]
    exact Heap.get?_push_of_some _ q
  · rw [pn.length_eq, List.length_map, Array.length_toList]; exact hn
end
/-- the ints of ns, each once, upwards -/
def insU (x : Int) : List Int → List Int
  | [] => [x]
  | y :: l => if x < y then x :: y :: l else if x = y then y :: l else y :: insU x l
theorem insU_mem {x k : Int} : ∀ {l : List Int}, k ∈ insU x l ↔ k = x ∨ k ∈ l
  | [] => by simp [insU]
  | y :: l => by
    unfold insU
    split
    · simp
    · split
      · rename_i e; subst e; simp
      · rw [List.mem_cons, insU_mem, List.mem_cons]
        constructor
        · rintro (h | h | h)
          · exact .inr (.inl h)
          · exact .inl h
          · exact .inr (.inr h)
        · rintro (h | h | h)
          · exact .inr (.inl h)
          · exact .inl h
          · exact .inr (.inr h)
theorem insU_lt {x : Int} : ∀ {l : List Int}, l.Pairwise (· < ·) → (insU x l).Pairwise (· < ·)
  | [], _ => by simp [insU]
  | y :: l, h => by
    obtain ⟨h1, h2⟩ := List.pairwise_cons.mp h
    unfold insU
    split
    · rename_i hlt
      refine List.pairwise_cons.mpr ⟨fun z hz => ?_, h⟩
      rcases List.mem_cons.mp hz with e | e
      · omega
      · have := h1 z e; omega
    · split
      · exact h
      · refine List.pairwise_cons.mpr ⟨fun z hz => ?_, insU_lt h2⟩
        rcases insU_mem.mp hz with e | e
        · omega
        · exact h1 z e
def srtSet (ns : List Int) : List Int := ns.foldr insU []
theorem srtSet_mem {k : Int} : ∀ {ns : List Int}, k ∈ srtSet ns ↔ k ∈ ns
  | [] => by simp [srtSet]
  | n :: ns => by
    show k ∈ insU n (srtSet ns) ↔ _
    rw [insU_mem, srtSet_mem, List.mem_cons]
theorem srtSet_lt : ∀ ns : List Int, (srtSet ns).Pairwise (· < ·)
  | [] => List.Pairwise.nil
  | n :: ns => insU_lt (srtSet_lt ns)
theorem lt_uniq : ∀ {l m : List Int}, l.Pairwise (· < ·) → m.Pairwise (· < ·) → (∀ k, k ∈ l ↔ k ∈ m) → l = m
  | [], [], _, _, _ => rfl
  | [], y :: m, _, _, h => absurd ((h y).mpr (by simp)) (by simp)
  | x :: l, [], _, _, h => absurd ((h x).mp (by simp)) (by simp)
  | x :: l, y :: m, pl, pm, h => by
    obtain ⟨l1, l2⟩ := List.pairwise_cons.mp pl
    obtain ⟨m1, m2⟩ := List.pairwise_cons.mp pm
    have hxy : x = y := by
      have h1 := (h x).mp (by simp)
      have h2 := (h y).mpr (by simp)
      rcases List.mem_cons.mp h1 with e | e
      · exact e
      · rcases List.mem_cons.mp h2 with e2 | e2
        · exact e2.symm
        · have := m1 x e
          have := l1 y e2
          omega
    subst hxy
    congr 1
    refine lt_uniq l2 m2 fun k => ?_
    constructor
    · intro hk
      have := l1 k hk
      rcases List.mem_cons.mp ((h k).mp (List.mem_cons_of_mem _ hk)) with e | e
      · omega
      · exact e
    · intro hk
      have := m1 k hk
      rcases List.mem_cons.mp ((h k).mpr (List.mem_cons_of_mem _ hk)) with e | e
      · omega
      · exact e
def eSortSet (a : ME) : ME := fun ρ h => (a ρ h).bind fun v h => (Res.opt ((lstOf h v).bind intsOf) h).bind fun ns h => if ns.length ≤ 4000 then newL ((srtSet ns).map .int) h else .bad
section
variable {L : Lk} {X : Cx} {W : WX} {a : Expr} {da : ME} {pos : Pos}
def tSortSetA (K : PySem.W.Frag) (ta : TE) : TE := fun σ H Q => ta σ H fun x H1 => ∃ (l : Addr) (ns : List Int), x = .ref l ∧ SqL K H1 l (ns.map V.int) ∧ ns.length ≤ 4000 ∧ ∀ p, H1 p = none → Q (.ref p) (upd H1 p (.lst ((srtSet ns).map V.int)))
open RZ in
theorem pe_sortSetA {ta : TE} {p p2 q : Pos} (hg : Gl X "sorted") (hm : X.mg "sorted" = none) (hg2 : Gl X "set") (hm2 : X.mg "set" = none) (ha : PE X a ta) (hc : X.calm = true)
    (na : starEach [a] X.env = (false, eval a X.env) :: starEach [] X.env) : PE X (.Call (.Name "sorted" p) [.Call (.Name "set" p2) [a] [] q] [] pos) (tSortSetA X.K ta) := by
  refine ⟨fun pins s σ H Q I h => ?_⟩
  refine Call_ (ld_blt I hg hm boot_sorted ?_)
  refine PyProof.Rows.callWith_builtin1 (PyProof.Rows.args_cons ?_ rfl) rfl rfl
  refine Call_ (ld_blt I hg2 hm2 boot_set ?_)
  refine PyProof.Rows.callWith_type1 (PyProof.Rows.args_cons (thn (ha.run pins s σ H _ I h) fun v s1 ⟨x, H1, I1, r1, q1⟩ => PyProof.Rows.args_nil ?_) na) na rfl
  obtain ⟨l, ns, rfl, hq, hl, q1⟩ := q1
  cases r1
  obtain ⟨its, r, pl, hz⟩ := I1.list hq
  have ls := sizeLine_eq
  refine call_set_listI ns (I1.ok.hd hc) pl.isList (by simpa using intsAre_vals r) (by unfold scanBound; omega) fun h' tk c R1 hcn k => ?_
  refine PyProof.Rows.args_nil ?_
  have I2 : Inv X pins σ H1 { s1 with heap := h', toks := tk } := I1.kept k
  refine sorted_setI (s := { s1 with heap := h', toks := tk }) R1 (I2.ok.hd hc) (by omega) fun s' p out cc ms kk g o hp hg' hi hs hm' hlen => ?_
  have hlen2 : (ms.map V.int).length ≤ sizeLine := by rw [List.length_map, hlen]; omega
  have hn : H1 p = none := I2.hok.fresh hp
  have J : Inv X pins σ (upd H1 p (.lst (ms.map V.int))) { ({ s1 with heap := h', toks := tk } : Shared) with heap := s'.heap, gens := s'.gens, drawn := s'.drawn, toks := s'.toks } :=
    I2.call (ch := []) (Un.laid kk hp hn) (I2.hok.laid kk hp ⟨hlen2, out.toList, cc, vals_of_ints hi, hg'⟩) (by rw [g]; exact I2.bare) (fun _ z => nomatch z)
  have e : s' = { ({ s1 with heap := h', toks := tk } : Shared) with heap := s'.heap, gens := s'.gens, drawn := s'.drawn, toks := s'.toks } := by
    cases s'
    cases o
    rfl
  rw [e]
  have eu : ms = srtSet ns := lt_uniq hs (srtSet_lt ns) fun k => by rw [hm' k, srtSet_mem, decide_eq_true_iff]
  rw [eu] at J
  exact ⟨.ref p, _, J, rfl, q1 p hn⟩
theorem s_sortSet {p p1 pos1 : Pos} (hc : X.calm = true) (hg : Gl X "sorted") (hm : X.mg "sorted" = none) (hgr : Gl X "set") (hmr : X.mg "set" = none) (ha : PE X a (GoodE L X.K W da)) (hst : noStar a = true) :
    PE X (.Call (.Name "sorted" p) [.Call (.Name "set" p1) [a] [] pos1] [] pos) (GoodE L X.K W (eSortSet da)) := by
  refine peImp (pe_sortSetA hg hm hgr hmr ha hc (star_cons hst)) fun σ H Q ⟨f, ρ, h, S, E, p⟩ => ?_
  refine ⟨f, ρ, h, S, E, (PostG.bind (R := RV L X.K) p).imp fun x' H1 ⟨f1, x, h1, e1, X1, S1, R1, p1⟩ => ?_⟩
  cases e : (lstOf h1 x).bind intsOf with
  | none => rw [e] at p1; exact absurd p1 id
  | some ns =>
    rw [e] at p1
    obtain ⟨ys, e1, e2⟩ := Option.bind_eq_some_iff.mp e
    obtain ⟨b, vs, rfl, sq, rr⟩ := S1.lstOf R1 e1
    obtain rfl := ints_ok e2 rr
    dsimp only [Res.opt, Res.bind] at p1
    split at p1
    · rename_i hz
      exact ⟨b, ns, rfl, sq, hz, (newL_ok S1 (RVs.ints _) p1).2⟩
    · exact absurd p1 id
end
end Mp
set_option Elab.async false
set_option linter.all false
set_option maxRecDepth 100000
set_option maxHeartbeats 2000000
namespace Mp
open PySem PySem.Spec PyProof.Rows L2
/-! ### starred displays, dict displays -/
/-- *a, .. in a display -/
def aStar (a : ME) (r : MA) : MA := fun ρ h => (a ρ h).bind fun v h => (Res.opt (seqOf h v) h).bind fun xs h => (r ρ h).bind fun ys h => .ok (xs ++ ys) h
section
variable {X : Cx} {L : Lk} {W : WX}
theorem a_star {a : Expr} {es : List Expr} {da : ME} {das : MA} {p : Pos} (ha : PE X a (GoodE L X.K W da)) (hr : PA X es (GoodA L X.K W das)) : PA X (.Starred a p :: es) (GoodA L X.K W (aStar da das)) := by
  refine paImp (StX.pa_star ha hr) fun σ H Q ⟨f, ρ, h, S, E, p⟩ => ?_
  refine ⟨f, ρ, h, S, E, (PostG.bind (R := RV L X.K) p).imp fun v' H1 ⟨f1, v, h1, e1, X1, S1, R1, p1⟩ => ?_⟩
  cases e : seqOf h1 v with
  | none => rw [e] at p1; exact absurd p1 id
  | some xs =>
    rw [e] at p1
    change PostG L X.K (RVs L X.K) W f1 σ H1 Q ((das ρ h1).bind fun ys h => .ok (xs ++ ys) h) at p1
    obtain ⟨b, vs, rfl, sq, rr⟩ := S1.seqOf R1 e
    refine ⟨b, vs, rfl, sq.elim .inr fun z => .inl z.1, f1, ρ, h1, S1, E.mono S X1, (PostG.bind (R := RVs L X.K) p1).imp fun ys' H2 ⟨f2, ys, h2, e2, X2, S2, R2, p2⟩ => ?_⟩
    exact p2 f2 H2 _ (Ext.refl _ _) S2 ((rr.mono S1 X2).append R2)
abbrev MP := Env → Mem → Res (List (Val × Val))
def pNil : MP := fun _ h => .ok [] h
def pCons (k v : ME) (r : MP) : MP := fun ρ h => (k ρ h).bind fun x h => (v ρ h).bind fun y h => (r ρ h).bind fun ps h => .ok ((x, y) :: ps) h
def keysOf : List (Val × Val) → Option (List (Key × Val))
  | [] => some []
  | (k, v) :: r => match keyOf k, keysOf r with
    | some q, some l => some ((q, v) :: l)
    | _, _ => none
def dMerge {α : Type} (kvs more : List (Key × α)) : List (Key × α) := more.foldl (fun acc kv => dPut acc kv.1 kv.2) kvs
def dspEnd (n : Nat) (l : List (Val × Val)) (h : Mem) : Res Val := match keysOf l with
  | some kvs => if kvs.length ≤ 15 then (match h[n]? with
    | some (.dic []) => .ok (.ref n) (h.set n (.dic (dMerge [] kvs)))
    | _ => .bad) else .bad
  | none => .bad
/-- {k: v, ..} -/
def eDsp (ps : MP) : ME := fun ρ h => (ps ρ (h ++ [.dic []])).bind (dspEnd h.length)
/-- the pairs, related -/
def RPs (L : Lk) (K : PySem.W.Frag) (f : Nm) (H : Hp) (l : List (Val × Val)) (l' : List (V × V)) : Prop := RVs L K f H (l.map (·.1)) (l'.map (·.1)) ∧ RVs L K f H (l.map (·.2)) (l'.map (·.2))
def GoodP (L : Lk) (K : PySem.W.Frag) (W : WX) (m : MP) (σ : L2.St) (H : Hp) (Q : List (V × V) → Hp → Prop) : Prop := ∃ f ρ h, Sim L K f h H ∧ EnvR L K f H ρ σ ∧ PostG L K (RPs L K) W f σ H Q (m ρ h)
theorem gp_nil {σ : L2.St} {H : Hp} {Q : List (V × V) → Hp → Prop} (g : GoodP L X.K W pNil σ H Q) : tPairs [] σ H Q := by
  obtain ⟨f, ρ, h, S, E, p⟩ := g
  exact p f H [] (Ext.refl _ _) S ⟨RVs.nil, RVs.nil⟩
theorem gp_cons {dk dv : ME} {r : MP} {trs : List (TE × TE)} (hr : ∀ σ H Q, GoodP L X.K W r σ H Q → tPairs trs σ H Q) {σ : L2.St} {H : Hp} {Q : List (V × V) → Hp → Prop} (g : GoodP L X.K W (pCons dk dv r) σ H Q) : tPairs ((GoodE L X.K W dk, GoodE L X.K W dv) :: trs) σ H Q := by
  obtain ⟨f, ρ, h, S, E, p⟩ := g
  refine ⟨f, ρ, h, S, E, (PostG.bind (R := RV L X.K) p).imp fun x' H1 ⟨f1, x, h1, e1, X1, S1, R1, p1⟩ => ?_⟩
  refine ⟨f1, ρ, h1, S1, E.mono S X1, (PostG.bind (R := RV L X.K) p1).imp fun y' H2 ⟨f2, y, h2, e2, X2, S2, R2, p2⟩ => ?_⟩
  refine hr σ H2 _ ⟨f2, ρ, h2, S2, (E.mono S X1).mono S1 X2, (PostG.bind (R := RPs L X.K) p2).imp fun ps' H3 ⟨f3, ps, h3, e3, X3, S3, R3, p3⟩ => ?_⟩
  exact p3 f3 H3 _ (Ext.refl _ _) S3 ⟨RVs.cons ((R1.mono S1 X2).mono S2 X3) R3.1, RVs.cons (R2.mono S2 X3) R3.2⟩
theorem pairs_rel {K : PySem.W.Frag} {f : Nm} {H : Hp} : ∀ {l : List (Val × Val)} {l' : List (V × V)} {kvs : List (Key × Val)}, RPs L K f H l l' → keysOf l = some kvs → ∃ gs : List (Key × V), l' = gs.map (fun kv => (kV kv.1, kv.2)) ∧ RFs L K f H kvs gs
  | [], l', kvs, r, e => by
    cases e
    have : l' = [] := by
      cases l' with
      | nil => rfl
      | cons a b => have := r.1; simp only [List.map_nil, List.map_cons] at this; unfold RVs at this; cases this
    subst this
    exact ⟨[], rfl, rfl, RVs.nil⟩
  | (k, v) :: l, l', kvs, r, e => by
    cases l' with
    | nil => have := r.1; simp only [List.map_nil, List.map_cons] at this; unfold RVs at this; obtain ⟨_, _, h, _⟩ := this; cases h
    | cons p l' =>
      obtain ⟨k', v'⟩ := p
      obtain ⟨r1, r2⟩ := r
      simp only [List.map_cons] at r1 r2
      unfold RVs at r1 r2
      obtain ⟨_, _, e1, a1, b1⟩ := r1
      obtain ⟨_, _, e2, a2, b2⟩ := r2
      cases e1
      cases e2
      unfold keysOf at e
      cases ek : keyOf k with
      | none => rw [ek] at e; cases e
      | some q =>
        cases el : keysOf l with
        | none => rw [ek, el] at e; cases e
        | some l2 =>
          rw [ek, el] at e
          cases e
          obtain ⟨gs, rfl, rg⟩ := pairs_rel (l := l) (l' := l') ⟨b1, b2⟩ el
          have hk : k' = kV q := key_rel a1 ek
          subst hk
          exact ⟨(q, v') :: gs, rfl, df_cons a2 rg⟩
theorem merge_rel {K : PySem.W.Frag} {f : Nm} {H : Hp} : ∀ {more : List (Key × Val)} {gm : List (Key × V)} {kvs : List (Key × Val)} {gs : List (Key × V)}, RFs L K f H more gm → RFs L K f H kvs gs → RFs L K f H (dMerge kvs more) (mergeK gs gm)
  | [], gm, kvs, gs, r, q => by rw [df_nil r]; exact q
  | (k, v) :: more, gm, kvs, gs, r, q => by
    obtain ⟨w, gm', rfl, z1, z2⟩ := df_inv r
    exact merge_rel (more := more) (gm := gm') (kvs := dPut kvs k v) (gs := putK gs k w) z2 (df_put z1 k q)
theorem s_disp {keys : List (Option Expr)} {values : List Expr} {trs : List (TE × TE)} {pos : Pos} {m : MP} (h : PPs X pos keys values trs) (hg : ∀ σ H Q, GoodP L X.K W m σ H Q → tPairs trs σ H Q) (hall : keys.all (·.isSome) = true) (hl : keys.length = values.length) (h0 : keys ≠ []) (h15 : keys.length ≤ 15) :
    PE X (.Dict keys values pos) (GoodE L X.K W (eDsp m)) := by
  refine peImp (pe_disp h hall hl h0 h15) fun σ H Q ⟨f, ρ, hm, S, E, p⟩ => ?_
  intro q hq
  have S1 : Sim L X.K (put f hm.length q) (hm ++ [.dic []]) (upd H q (.dK [])) := S.alloc hq ⟨[], upd_same, rfl, RVs.nil⟩
  have X1 := ext_put (f := f) (o := HO.dK []) S hq
  refine hg σ _ _ ⟨_, ρ, _, S1, E.mono S X1, (PostG.bind (R := RPs L X.K) (PostG.ext p X1)).imp fun l' H2 ⟨f2, l, h2, e2, X2, S2, R2, p2⟩ => ?_⟩
  have eq2 : f2 hm.length = some q := X2.le _ _ put_same
  unfold dspEnd at p2
  cases ek : keysOf l with
  | none => rw [ek] at p2; exact absurd p2 id
  | some kvs =>
    rw [ek] at p2
    dsimp only at p2
    split at p2
    · rename_i h15'
      split at p2
      · rename_i q2
        obtain ⟨gs, rfl, rg⟩ := pairs_rel R2 ek
        obtain ⟨g0, hg0, r0⟩ := S2.dic eq2 q2
        have e0 : g0 = [] := df_nil r0
        subst e0
        refine ⟨hg0, gs, rfl, by rw [← df_len rg]; exact h15', ?_⟩
        have x := ext_upd (o := .dK (mergeK [] gs)) eq2 hg0
        have z := merge_rel rg (kvs := []) (gs := []) ⟨rfl, RVs.nil⟩
        exact p2 f2 _ _ x (S2.wr eq2 hg0 ⟨_, upd_same, z.1, z.2.mono S2 x⟩) (mk_ref eq2)
      · exact absurd p2 id
    · exact absurd p2 id
end
end Mp
set_option Elab.async false
set_option linter.all false
set_option maxRecDepth 100000
set_option maxHeartbeats 2000000
namespace Mp
open PySem PySem.Spec PyProof.Rows L2
/-! ### own iteration: `__iter__` returns iter(self.F) -/
def ItQ (n l : Addr) (H : Hp) : VK := fun v H' => ∃ it, v = .ref it ∧ H it = none ∧ n ≤ it ∧ H' = upd H it (ItO l it 0)
structure OwIt (X : Cx) (C : Addr) (fld : Str) : Prop where
  room : Room 3 X.A
  ex : ∃ fI, PySem.W.findIn X.K (.ref C) "__iter__" = some (some (.ref fI)) ∧ PySem.W.isFn X.K (.ref fI) = true ∧
    ∀ (A : Around) (outer : List PySem.Env) (H : Hp) (s : Shared), Room 1 A → Env0 X.prog X.w X.K X.mg X.base A outer s H → ∀ (a dx : Addr) (fs : List (Str × V)) (l : Addr) (vs : List V), H a = some (.ins C dx fs) → fs.lookup fld = some (.ref l) → SqL X.K H l vs →
      codeAny (model X.prog X.w) A (.call (.ref fI) ⟨[.ref a], []⟩) (CR (fun _ _ _ _ _ _ => False) outer X.prog X.w H s (ItQ s.heap.objs.size l H) (fun _ _ _ => False)) s
  nolen : PySem.W.findIn X.K (.ref C) "__len__" = some none
  nohint : PySem.W.findIn X.K (.ref C) "__length_hint__" = some none
theorem OwIt.calm {X Y : Cx} {C : Addr} {fld : Str} (F : OwIt X C fld) (e1 : Y.prog = X.prog) (e2 : Y.w = X.w) (e3 : Y.K = X.K) (e4 : Y.mg = X.mg) (e5 : Y.base = X.base) (e6 : Y.A = X.A) : OwIt Y C fld := by
  obtain ⟨prog, w, K, mg, base, A, N, s0, H0, env, outer, stack, ex, fn, calm, pn, xe⟩ := Y
  dsimp only at e1 e2 e3 e4 e5 e6
  subst e1 e2 e3 e4 e5 e6
  exact ⟨F.room, F.ex, F.nolen, F.nohint⟩
theorem OwIt.use {X : Cx} {C : Addr} {fld : Str} (F : OwIt X C fld) : ∃ fI, PySem.W.findIn X.K (.ref C) "__iter__" = some (some (.ref fI)) ∧ PySem.W.isFn X.K (.ref fI) = true ∧
    ∀ A, (A = X.A ∨ A = X.A.in1.in1) → ∀ (pins : List (Addr × Obj)) (σ : L2.St) (H : Hp) (s : Shared), Inv X pins σ H s → ∀ (a dx : Addr) (fs : List (Str × V)) (l : Addr) (vs : List V), H a = some (.ins C dx fs) → fs.lookup fld = some (.ref l) → SqL X.K H l vs →
      codeAny (model X.prog X.w) A (.call (.ref fI) ⟨[.ref a], []⟩) (fun r s' => ∃ it, r = .ok (.ret (.ref it)) ∧ Inv X pins σ (upd H it (ItO l it 0)) s' ∧ H it = none ∧ s.heap.objs.size ≤ it) s := by
  obtain ⟨hr, ⟨fI, h1, h2, run⟩, _, _⟩ := F
  refine ⟨fI, h1, h2, fun A hA pins σ H s I a dx fs l vs ha hl hq => ?_⟩
  have key : Room 1 A → Env0 X.prog X.w X.K X.mg X.base A X.stack s H → codeAny (model X.prog X.w) A (.call (.ref fI) ⟨[.ref a], []⟩) (fun r s' => ∃ it, r = .ok (.ret (.ref it)) ∧ Inv X pins σ (upd H it (ItO l it 0)) s' ∧ H it = none ∧ s.heap.objs.size ≤ it) s := fun hr e0 => by
    refine codeAny_mono (run A X.stack H s hr e0 a dx fs l vs ha hl hq) fun r s' hq' => ?_
    cases r with
    | error e => exact False.elim hq'
    | ok fl =>
      cases fl with
      | ret u =>
        obtain ⟨v, H', I', rv, it, rfl, h1, h2, rfl⟩ := I.after hq'
        cases rv
        exact ⟨it, rfl, I', h1, h2⟩
      | next => exact False.elim hq'
      | brk => exact False.elim hq'
      | cont => exact False.elim hq'
  rcases hA with rfl | rfl
  · exact key (hr.mono (by decide)) I.env0
  · exact key hr.in1.in1 I.env0.in1.in1
/-- a def, run at one state -/
theorem run_at {CX : CXT} {P : Program} {w : World} {K : PySem.W.Frag} {mg : Str → Option Value} {base : Heap} {k : Nat} {f : Addr} {name qual : Str} {params : Arguments} {body : List Stmt} {scope : Scope} {dV kV doc pm cdv ct oc : Value} {an od : Option Addr}
    {osl : Array (Option Value)} {N ps : List Str} (lk : K.lookup f = some ⟨oc, od, .func (PySem.W.fnOf name qual params body scope dV kV doc pm an cdv ct), osl⟩) (hcd : PySem.W.codeIn K cdv qual = true) (S : FnScope N ps scope)
    {A : Around} {outer : List PySem.Env} {s : Shared} {H : Hp} {args : Args} {us : List Value} {vs : List V} {Q : VK} {E : XK} (hl : vs.length = ps.length) (hr : Room (k + 1) A) (e0 : Env0 P w K mg base A outer s H)
    (hb : BindsTo s (PySem.W.fnOf name qual params body scope dV kV doc pm an cdv ct) args (ps.zip us)) (r : Vals vs us)
    (hbody : ∃ t, PSs (cxOf CX P w K mg base N qual scope f cdv A outer s H E) body t ∧ t { nx := fun _ H' => Q .non H', rt := Q } (start N vs) H) :
    codeAny (model P w) A (.call (.ref f) args) (CR CX outer P w H s Q E) s := by
  have KX : K.In s.heap := e0.mod.kin.keeps fun b o e => (e0.bs b o e).1
  have lim : s.heap.NoLimit := e0.mod.nolimit.keeps fun b o e => (e0.bs b o e).1
  have hkind : ∀ y ∈ ps.zip us, scope.names.lookup y.1 = some .local ∨ (scope.names.lookup y.1 = some .cell ∧ ((cellsFrom (s.heap.objs.size + 1) scope.names []).lookup y.1).isSome = true) := fun ⟨n, v⟩ hy => by
    rcases S.par n (List.of_mem_zip hy).1 with q | q
    · exact .inl q
    · exact .inr ⟨q, PySem.W.cellsFrom_some _ _ _ (.inl q)⟩
  refine codeAny_call_function hr.depth (KX _ _ lk) rfl S.co S.gen rfl (PySem.W.codeRec_of KX hcd) (hb _ _ _ _ ?_)
  refine wpAny_newFunctionEnv_cells S.kind hkind fun env he s1 x => ?_
  subst he
  refine ⟨lim.keeps x.toInCall.keep, codeAny_func ?_⟩
  obtain ⟨t, ht, hq⟩ := hbody
  have I : Inv (cxOf CX P w K mg base N qual scope f cdv A outer s H E) [] (start N vs) H s1 := inv_start S hr.hd e0 hl r x
  refine wpAny_mono (ht.run [] s1 (start N vs) H _ I hq) (fun fl s' hs => ?_) fun e s' hs => hs
  have fin : ∀ {σ' : L2.St} {H' : Hp} {v : V} {u : Value}, Inv (cxOf CX P w K mg base N qual scope f cdv A outer s H E) [] σ' H' s' → RelV v u → Q v H' → CE outer P w H s Q u s' :=
    fun {σ' H' v u} J rv q => ⟨v, H', J.os, J.bare, J.base, J.hok, rv, q⟩
  cases fl with
  | ret u =>
    obtain ⟨v, σ', H', J, rv, q⟩ := hs
    exact fin J rv q
  | next =>
    obtain ⟨σ', H', J, q⟩ := hs
    exact fin (v := V.non) (u := Value.none) J rfl q
  | brk =>
    obtain ⟨_, _, _, q⟩ := hs
    exact False.elim q
  | cont =>
    obtain ⟨_, _, _, q⟩ := hs
    exact False.elim q
/-- the body of such an `__iter__` -/
def ItBody (body : List Stmt) (sf fld : Str) : Prop := ∃ (p0 p1 p2 p3 p4 : Pos), body = [.Return (some (.Call (.Name "iter" p0) [.Attribute (.Name sf p1) fld p2] [] p3)) p4]
def itBodyB (body : List Stmt) (sf fld : Str) : Bool := match body with
  | [.Return (some (.Call (.Name y _) [.Attribute (.Name x _) z _] [] _)) _] => decide (y = ("iter" : Str)) && (decide (x = sf) && decide (z = fld))
  | _ => false
theorem itBodyB_ok {body : List Stmt} {sf fld : Str} (h : itBodyB body sf fld = true) : ItBody body sf fld := by
  unfold itBodyB at h
  split at h
  · rename_i y p0 x p1 z p2 p3 p4
    simp only [Bool.and_eq_true, decide_eq_true_eq] at h
    obtain ⟨rfl, rfl, rfl⟩ := h
    exact ⟨p0, p1, p2, p3, p4, rfl⟩
  · cases h
theorem owIt_of {X : Cx} {C fI : Addr} {fd : FuncData} {x qual : Str} {params : Arguments} {body : List Stmt} {scope : Scope} {dvs : List V} {kws : List (Str × V)} {N : List Str} {sf fld : Str} (hr : Room 3 X.A) (F : FunD X.K x qual params body scope dvs kws fI fd)
    (S : FnScope N [sf] scope) (hB : ItBody body sf fld) (hg : scope.names.lookup ("iter" : Str) = some .globalImplicit) (hm : X.mg "iter" = none) (hsf : (sf == ("__debug__" : Str)) = false ∧ (sf == ("__classdict__" : Str)) = false)
    (hc : Cls X.K C) (hn : NoAttr X.K C fld) (bn : Binds X.K fd [sf] []) (hfi : PySem.W.findIn X.K (.ref C) "__iter__" = some (some (.ref fI))) (hif : PySem.W.isFn X.K (.ref fI) = true)
    (nl : PySem.W.findIn X.K (.ref C) "__len__" = some none) (nh : PySem.W.findIn X.K (.ref C) "__length_hint__" = some none) : OwIt X C fld := by
  refine ⟨hr, ⟨fI, hfi, hif, fun A outer H s hr e0 a dx fs l vs ha hl hq => ?_⟩, nl, nh⟩
  obtain ⟨oc, od, dV, kV, doc, pm, an, cdv, ct, osl, rfl, lk, hcd, _, _⟩ := F.ex
  obtain ⟨p0, p1, p2, p3, p4, rfl⟩ := hB
  have KX : X.K.In s.heap := e0.mod.kin.keeps fun b o e => (e0.bs b o e).1
  refine run_at (k := 0) (N := N) (ps := [sf]) (vs := [.ref a]) (us := [.ref a]) lk hcd S rfl hr e0 ?_ (.cons rfl .nil) ?_
  · have := bn s [.ref a] KX rfl
    simpa using this
  · generalize hX : cxOf (fun _ _ _ _ _ _ => False) X.prog X.w X.K X.mg X.base N qual scope fI cdv A outer s H (fun _ _ _ => False) = X'
    have eN : X'.N = N := by rw [← hX]; rfl
    have eS : X'.env.scope = scope := by rw [← hX]; rfl
    have eM : X'.mg = X.mg := by rw [← hX]; rfl
    have eK : X'.K = X.K := by rw [← hX]; rfl
    have e0' : X'.s_0 = s := by rw [← hX]; rfl
    have h0 : X'.N[0]? = some sf := by
      rw [eN]
      have e := congrArg (·[0]?) S.pre
      rw [List.getElem?_take_of_lt (by show 0 < 1; decide)] at e
      exact e
    have hv : Vis X'.env.scope sf := by
      rw [eS]
      rcases S.par sf (by simp) with q | q
      · exact .inl q
      · exact .inr (.inl q)
    have hgl : Gl X' "iter" := by
      show X'.env.scope.names.lookup _ = _
      rw [eS]
      exact hg
    have v0 : PE X' (.Name sf p1) (tVar 0) := pe_var h0 hv hsf.1 hsf.2
    have v1 : PE X' (.Attribute (.Name sf p1) fld p2) (tFld X'.K (tVar 0) fld) := pe_fld v0 rfl
    have v2 : PE X' (.Call (.Name "iter" p0) [.Attribute (.Name sf p1) fld p2] [] p3) (tCB (ItX.rIterN X'.K X'.s_0.heap.objs.size) _) := pe_callB ItX.call_iterN hgl (by rw [eM]; exact hm) (by decide +kernel) (pa_cons v1 pa_nil rfl)
    refine ⟨_, pss_one (ps_ret v2), ?_⟩
    refine ⟨.ref a, rfl, a, C, dx, fs, .ref l, rfl, ha, by rw [eK]; exact hc, by rw [eK]; exact hn, hl, ?_⟩
    refine ⟨l, vs, rfl, by rw [eK]; exact hq, fun it h1 h2 => ⟨it, rfl, h1, by rw [e0'] at h2; exact h2, rfl⟩⟩
/-- the list that an own object iterates over -/
def itOf (Γ : Pg) (h : Mem) : Val → Option Nat
  | .ref n => match h[n]? with
    | some (.ins c fs) => match Γ.cls.lookup c with
      | some C => match C.it with
        | some fld => match fs.lookup fld with
          | some (.ref m) => some m
          | _ => none
        | none => none
      | none => none
    | _ => none
  | _ => none
def iValO (Γ : Pg) (e : ME) : MI := fun ρ h => (e ρ h).bind fun v h => match itOf Γ h v with
  | some m => Res.opt (wkV h (.ref m)) h
  | none => Res.opt (wkV h v) h
def listO (Γ : Pg) (as : List Val) (h : Mem) : Res Val := match as with
  | [v] => match itOf Γ h v with
    | some m => (Res.opt (lstOf h (.ref m)) h).bind newL
    | none => biRun .list [v] h
  | _ => .bad
def eListO (Γ : Pg) (as : MA) : ME := fun ρ h => (as ρ h).bind (listO Γ)
theorem itOf_some {Γ : Pg} {h : Mem} {v : Val} {m : Nat} (e : itOf Γ h v = some m) : ∃ n c fs C fld, v = .ref n ∧ h[n]? = some (.ins c fs) ∧ Γ.cls.lookup c = some C ∧ C.it = some fld ∧ fs.lookup fld = some (.ref m) := by
  unfold itOf at e
  split at e
  · rename_i n
    split at e
    · rename_i c fs e1
      split at e
      · rename_i C e2
        split at e
        · rename_i fld e3
          split at e
          · rename_i m' e4
            cases e
            exact ⟨n, c, fs, C, fld, rfl, e1, e2, e3, e4⟩
          · cases e
        · cases e
      · cases e
    · cases e
  · cases e
theorem itlF_zero {K : PySem.W.Frag} {a : Addr} : ItX.ItlF K a 0 = Itl K a := by
  unfold ItX.ItlF
  simp only [Nat.zero_add]
section
variable {L : Lk} {X : Cx} {W : WX} {a : Expr} {da : ME} {das : MA} {pos p : Pos} {Γ : Pg}
/-- an own object in the memory: what it walks -/
theorem own_rel {f : Nm} {h : Mem} {H : Hp} (S : Sim L X.K f h H) (OI : ∀ c C fld, Γ.cls.lookup c = some C → C.it = some fld → OwIt X (L.C c) fld) {v : Val} {v' : V} (r : RV L X.K f H v v') {m : Nat} (e : itOf Γ h v = some m) :
    ∃ ad cl fld dx gs l, v' = .ref ad ∧ H ad = some (.ins cl dx gs) ∧ OwIt X cl fld ∧ gs.lookup fld = some (.ref l) ∧ f m = some l := by
  obtain ⟨n, c, fs, C, fld, rfl, e1, e2, e3, e4⟩ := itOf_some e
  obtain ⟨ad, ea, rfl⟩ := rv_ref r
  obtain ⟨dx, gs, hi, rf⟩ := S.ins ea e1
  obtain ⟨w, l1, l2⟩ := (rf_get (x := fld) rf).1 _ e4
  obtain ⟨l, el, rfl⟩ := rv_ref l2
  exact ⟨ad, _, fld, dx, gs, l, rfl, hi, OI c C fld e2 e3, l1, el⟩
theorem i_valO {tg : Expr} (OI : ∀ c C fld, Γ.cls.lookup c = some C → C.it = some fld → OwIt X (L.C c) fld) (ha : PE X a (GoodE L X.K W da)) : PI X tg a (GoodI L X.K W (iValO Γ da)) := by
  refine ⟨fun pins s σ H R I ⟨f, ρ, h, S, E, p⟩ => ?_⟩
  unfold iValO at p
  have old : (∀ v h1, da ρ h = .ok v h1 → itOf Γ h1 v = none) → wpAny (model X.prog X.w) X.A (eval a X.env) (fun v s1 => wpAny (model X.prog X.w) X.A (pyIter v) (PIE X pins σ tg R) X.xe s1) X.xe s := fun no => by
    refine (i_val ha).run pins s σ H R I ⟨f, ρ, h, S, E, ?_⟩
    unfold iVal
    cases e : da ρ h with
    | bad => rw [e] at p; exact p
    | exc c fs h1 => rw [e] at p; exact p
    | ok v h1 =>
      rw [e, Res.bind_ok] at p
      rw [no v h1 e] at p
      exact p
  cases e : da ρ h with
  | bad => exact old fun v h1 z => by rw [e] at z; cases z
  | exc c fs h1 => exact old fun v h1 z => by rw [e] at z; cases z
  | ok v h1 =>
    cases ei : itOf Γ h1 v with
    | none =>
      refine old fun v' h1' z => ?_
      rw [e] at z
      cases z
      exact ei
    | some m =>
      have G : GoodE L X.K W da σ H fun x' H1 => ∃ f1, Sim L X.K f1 h1 H1 ∧ RV L X.K f1 H1 v x' ∧ PostG L X.K (WkR L X.K) W f1 σ H1 R (Res.opt (wkV h1 (.ref m)) h1) := by
        refine ⟨f, ρ, h, S, E, (PostG.bind (R := RV L X.K) p).imp fun x' H1 ⟨f1, x, h1', e1, X1, S1, R1, p1⟩ => ?_⟩
        rw [e] at e1
        cases e1
        rw [ei] at p1
        exact ⟨f1, S1, R1, p1⟩
      refine thn (ha.run pins s σ H _ I G) fun u s1 ⟨x', H1, I1, rx, f1, S1, R1, p1⟩ => ?_
      obtain ⟨ad, cl, fld, dx, gs, l, rfl, hi, ow, hl, el⟩ := own_rel S1 OI R1 ei
      obtain rfl : u = Value.ref ad := rx
      obtain ⟨fI, hfi, hif, run⟩ := ow.use
      obtain ⟨mA, O, _, _, _, _⟩ := ins_get I1.hok hi
      obtain ⟨od, J, _⟩ := O.look
      obtain ⟨m0, fr⟩ := I1.fr
      cases ew : wkV h1 (.ref m) with
      | none => rw [ew] at p1; exact absurd p1 id
      | some wk =>
      rw [ew] at p1
      have hw : ∃ xs, (h1[m]? = some (.lst xs) ∨ h1[m]? = some (.rol xs)) ∧ wk = wkL m xs.length := by
        simp only [wkV] at ew
        split at ew
        · rename_i xs q; cases ew; exact ⟨xs, .inl q, rfl⟩
        · rename_i xs q; cases ew; exact ⟨xs, .inr q, rfl⟩
        · cases ew
      obtain ⟨xs, hm, rfl⟩ := hw
      obtain ⟨vs, sv, rv⟩ := S1.seq el hm
      refine PySem.W.owit_iter fr I1.ok.mod.kin J hfi hif (wpAny_call (codeAny_mono (run X.A (.inl rfl) pins σ H1 s1 I1 ad dx gs l vs hi hl sv) fun r s' hr => ?_))
      obtain ⟨it, rfl, I2, hn, hz⟩ := hr
      have eo := itO_get I2 upd_same
      have hT : s'.TypeIs (.ref it) "list_iterator" := ⟨_, eo, rfl⟩
      show wpAny _ _ (specialOf (.ref it) (Str.ofString "__next__")) _ _ s'
      refine wpAny_specialOf (name := Str.ofString "__next__") hT slot_listiter_next.lookup ?_
      have st : s'.heap.IsListIter it l (0 + 0) := ⟨_, eo, rfl, rfl⟩
      have hi' : upd H1 it (ItO l it 0) it = some (ItO l it 0) := upd_same
      have hx := hi'
      unfold ItO at hx
      refine ⟨it, [it], _, _, ItX.dropH (upd H1 it (ItO l it 0)) it, rfl, ItX.inv_drop I2 hx, ItX.turn_listF l it 0, st, fun b hb => ?_, ?_⟩
      · have e : b = it := by simpa using hb
        rw [e]
        exact ItX.inv_fp I2 hi' (Nat.le_trans I1.sz hz)
      · rw [ItX.dropH_upd hn, itlF_zero]
        exact p1 f1 H1 _ (Ext.refl _ _) S1 (wkR_lst el)
/-! list(o) -/
theorem own_hint2 {M : Model} {A : Around} {E : Value → Shared → Prop} {Q : Bool → Shared → Prop} {K : PySem.W.Frag} {s : Shared} {b C : Addr} {ox : Obj} {od : Option Obj} (h1 : PySem.W.findIn K (.ref C) "__len__" = some none) (h2 : PySem.W.findIn K (.ref C) "__length_hint__" = some none) (hK : K.In s.heap) (J : PySem.W.InstAt s.heap b ox C od) (h : Q true s) :
    wpAny M A (Builtin.List.listLengthHint (.ref b)) Q E s := by
  unfold Builtin.List.listLengthHint
  refine wpAny_bind (wpAny_bind (J.type.here ((PySem.W.looks_findIn hK h1).here ?_)))
  refine PySem.W.KFB.if_not rfl ?_
  refine PySem.W.KFB.if_not rfl ?_
  refine wpAny_bind (wpAny_bind (J.type.here ((PySem.W.looks_findIn hK h2).here ?_)))
  exact wpAny_pure h
theorem ext_loop {pins : List (Addr × Obj)} {σ : L2.St} {A1 : Around} (hA : A1.in1.handled = none) {q it l : Addr} {vs : List V} {Hq : Hp} (hql : q ≠ l) (hqi : q ≠ it) (sv : SqL X.K Hq l vs) (fp : FpOk X pins Hq it) (hz : vs.length ≤ sizeLine) {Rs : Result → Shared → Prop}
    (hdone : ∀ s, Inv X pins σ (upd Hq q (.lst vs)) s → Rs (.ok (.ret .none)) s) :
    ∀ (n i : Nat) (s : Shared), n = vs.length - i → i ≤ vs.length → Inv X pins σ (upd Hq q (.lst (vs.take i))) s → s.heap.IsListIter it l i → codeAny (model X.prog X.w) A1 (.builtin "list.extend.loop" ⟨[.ref q, .ref it, .none], []⟩) Rs s := by
  obtain ⟨f0, f1, f2, f3, f4, f5⟩ := fp
  intro n
  induction n with
  | zero =>
    intro i s hn hi I st
    have e : i = vs.length := by omega
    subst e
    rw [List.take_length] at I
    have sv' : SqL X.K (upd Hq q (.lst vs)) l vs := by
      unfold SqL Rd at sv ⊢
      rw [upd_ne (Ne.symm hql)]
      exact sv
    obtain ⟨its, rv, pl, hz'⟩ := I.list sv'
    have hl := rv.length
    have f0' : upd Hq q (.lst vs) it = none := by rw [upd_ne (Ne.symm hqi)]; exact f0
    refine codeAny_builtin PySem.F.entry_extend_loop ?_
    rw [Around.under_plainId PySem.F.plain_extend_loop _]
    show wpAny _ A1.in1 (pyNext (.ref it) >>= _) _ _ s
    refine wpAny_bind (wpAny_pyNext_list_end hA st pl.isList (by simp; omega) fun h' eb => ?_)
    exact wpAny_pure (hdone _ (I.turned (t' := s.toks) (fun b o hb e => eb b o hb e) f0' f1 f3 f4 f5))
  | succ n ih =>
    intro i s hn hi I st
    have hlt : i < vs.length := by omega
    have sv' : SqL X.K (upd Hq q (.lst (vs.take i))) l vs := by
      unfold SqL Rd at sv ⊢
      rw [upd_ne (Ne.symm hql)]
      exact sv
    obtain ⟨its, rv, pl, hz'⟩ := I.list sv'
    obtain ⟨u, hu, ru⟩ := rv.get (List.getElem?_eq_getElem hlt)
    have f0' : upd Hq q (.lst (vs.take i)) it = none := by rw [upd_ne (Ne.symm hqi)]; exact f0
    refine codeAny_builtin PySem.F.entry_extend_loop ?_
    rw [Around.under_plainId PySem.F.plain_extend_loop _]
    show wpAny _ A1.in1 (pyNext (.ref it) >>= _) _ _ s
    refine wpAny_bind (wpAny_pyNext_list_item st pl.isList (x := u) (by simpa using hu) fun h' st' sb => ?_)
    have I1 : Inv X pins σ (upd Hq q (.lst (vs.take i))) { s with heap := h' } := I.turned (t' := s.toks) (fun b o hb e => (sb.2 b hb).trans e) f0' f1 f3 f4 f5
    show wpAny _ A1.in1 (updateSeq q (·.push u) >>= _) _ _ _
    obtain ⟨z, its2, k, r2, hl2, e⟩ := I1.lstM upd_same
    have hti : (vs.take i).length = i := by rw [List.length_take]; omega
    refine wpAny_bind (wpAny_updateSeq e rfl (wpAny_pure ⟨plainId_quiet PySem.F.plain_extend_loop _, ?_⟩) (by rw [List.size_toArray]; omega) (by show (its2.toArray.push u).size ≤ sizeLine + 1; rw [Array.size_push, List.size_toArray]; omega))
    have I2 := I1.lset (its' := its2 ++ [u]) (ys := vs.take (i + 1)) (f := (·.push u)) (t' := s.toks) upd_same e (by simp) (by
      rw [List.take_succ_eq_append_getElem hlt]
      exact r2.append (.cons ru .nil)) (by rw [List.length_take]; omega)
    rw [upd_upd] at I2
    refine ih (i + 1) _ (by omega) hlt I2 ?_
    exact st'.at fun o eo => (Heap.get?_update_other _ _ hqi).trans eo
theorem list_own (hc : X.calm = true) (OI : ∀ c C fld, Γ.cls.lookup c = some C → C.it = some fld → OwIt X (L.C c) fld) : CallR X (.type "list") (fun xs H Q => ∃ ad cl fld dx gs l vs, xs = [.ref ad] ∧ H ad = some (.ins cl dx gs) ∧ OwIt X cl fld ∧ gs.lookup fld = some (.ref l) ∧ SqL X.K H l vs ∧ ∀ q, H q = none → Q (.ref q) (upd H q (.lst vs))) := by
  intro pins s σ H xs us Q I rv h
  obtain ⟨a, cl, fld, dx, gs, l, vs, rfl, ha, ow, hl, sv, hq⟩ := h
  obtain ⟨u, rfl, ru⟩ := rv.one
  cases ru
  obtain ⟨fI, hfi, hif, run⟩ := ow.use
  refine callType_codes (Q₁ := fun obj s₁ => obj = .ref s.heap.objs.size ∧ s₁ = { s with heap := s.heap.push { cls := .type "list", data := .seq #[] } }) PySem.F.called_list (PySem.F.typeCall_list_1 _) PySem.F.entry_list_init
    (code_list_new _ ⟨rfl, rfl⟩) fun obj s₁ h₁ => ?_
  obtain ⟨rfl, rfl⟩ := h₁
  have hS : (s.heap.push { cls := .type "list", data := .seq #[] }).get? s.heap.objs.size = some { cls := .type "list", data := .seq #[] } := Heap.get?_push_size _ rfl
  refine ⟨⟨_, hS, rfl⟩, PySem.F.args_list_init_2 _ _, ?_⟩
  have fr : H s.heap.objs.size = none := I.hok.fresh (Nat.le_refl _)
  have Q0 := hq _ fr
  generalize hsq : s.heap.objs.size = q at hS fr Q0 ⊢
  have I1 : Inv X pins σ (upd H q (.lst [])) { s with heap := s.heap.push { cls := .type "list", data := .seq #[] } } := by
    have := I.lnew (its := []) (ys := []) (t' := s.toks) .nil (Nat.zero_le _)
    rw [hsq] at this
    exact this
  show wpAny _ _ (do let old ← Builtin.List.listItems (.ref q); Builtin.List.listUpdate (.ref q) (fun _ => #[]); letGo old.toList.reverse; Builtin.List.listExtendWith (.ref q) (.ref a) .none) _ _ _
  refine wpAny_bind ?_
  unfold Builtin.List.listItems
  refine wpAny_bind (wpAny_seqItems hS rfl (wpAny_pure ?_))
  show wpAny _ _ (updateSeq q (fun _ => #[]) >>= fun _ => letGo (#[] : Array Value).toList.reverse >>= fun _ => Builtin.List.listExtendWith (.ref q) (.ref a) .none) _ _ _
  refine wpAny_bind (wpAny_updateSeq hS rfl ?_)
  have I2 := I1.lset (f := fun _ => #[]) (its := []) (its' := []) (ys := []) (t' := s.toks) upd_same hS rfl .nil (Nat.zero_le _)
  rw [upd_upd] at I2
  refine wpAny_bind (wpAny_letGo ?_)
  have na : a ≠ q := ne_of_none ha fr
  have ha2 : upd H q (.lst []) a = some (.ins cl dx gs) := by rw [upd_ne na]; exact ha
  have nl : l ≠ q := fun z => by
    rcases sv with sv | ⟨o, _, _, lk, _⟩
    · unfold Rd at sv
      rw [z, fr] at sv
      simp at sv
    · have := Heap.lt_size (I.kIn _ _ lk)
      rw [z, ← hsq] at this
      exact absurd this (Nat.lt_irrefl _)
  have sv2 : SqL X.K (upd H q (.lst [])) l vs := by
    unfold SqL Rd at sv ⊢
    rw [upd_ne nl]
    exact sv
  generalize hs2 : ({ s with heap := _, toks := s.toks } : Shared) = s2 at I2 ⊢
  obtain ⟨mA, J, _⟩ := ins_get I2.hok ha2
  obtain ⟨od, J, _⟩ := J.look
  obtain ⟨m0, hF⟩ := I2.fr
  unfold Builtin.List.listExtendWith
  refine wpAny_bind (J.type.here ?_)
  have h1 : Builtin.List.listSameRef (.ref q) (.ref a) = false := by simp [Builtin.List.listSameRef, Ne.symm na]
  have h2 : (Value.ref cl == Value.type "list") = false := rfl
  have h3 : (Value.ref cl == Value.type "tuple") = false := rfl
  simp only [h1, h2, h3, Bool.or_false, Bool.false_eq_true, if_false]
  refine wpAny_bind (PySem.W.owit_iter hF I2.ok.mod.kin J hfi hif ?_)
  refine wpAny_call (codeAny_mono (run X.A.in1.in1 (.inr rfl) pins σ _ s2 I2 a dx gs l vs ha2 hl sv2) fun r s' hr => ?_)
  obtain ⟨it, rfl, I3, hn, hz⟩ := hr
  have eo := itO_get I3 upd_same
  have hT : s'.TypeIs (.ref it) "list_iterator" := ⟨_, eo, rfl⟩
  show wpAny _ _ (specialOf (.ref it) (Str.ofString "__next__")) _ _ s'
  refine wpAny_specialOf (name := Str.ofString "__next__") hT slot_listiter_next.lookup ?_
  have hx : upd (upd H q (.lst [])) it (ItO l it 0) it = some (ItO l it 0) := upd_same
  have hfp := ItX.inv_fp I3 hx (Nat.le_trans I2.sz hz)
  have hx' := hx
  unfold ItO at hx'
  have I4 := ItX.inv_drop I3 hx'
  rw [ItX.dropH_upd hn] at I4 hfp
  obtain ⟨mA', J', _⟩ := ins_get I4.hok ha2
  obtain ⟨od', J', _⟩ := J'.look
  have nq : q ≠ it := fun z => by rw [← z, upd_same] at hn; cases hn
  have hlen : vs.length ≤ sizeLine := by
    obtain ⟨its, rv, pl, hz⟩ := I4.list sv2
    have := rv.length
    first | exact hz | omega
  have st : s'.heap.IsListIter it l 0 := ⟨_, eo, rfl, rfl⟩
  have fin : ∀ s3 : Shared, Inv X pins σ (upd H q (.lst [])) s3 → s3.heap.IsListIter it l 0 → codeAny (model X.prog X.w) X.A.in1 (.builtin "list.extend.loop" ⟨[.ref q, .ref it, .none], []⟩) (wants (fun r s₂ => r = .none ∧ EP X pins σ Q (.ref q) s₂) X.xe) s3 := fun s3 I5 st5 => by
    refine ext_loop (X := X) (pins := pins) (σ := σ) (A1 := X.A.in1) (Hq := upd H q (.lst [])) (vs := vs) (I.ok.hd hc) (Ne.symm nl) nq sv2 hfp hlen ?_ vs.length 0 s3 (by omega) (Nat.zero_le _) ?_ st5
    · intro s4 I6
      rw [upd_upd] at I6
      exact ⟨rfl, .ref q, _, I6, rfl, Q0⟩
    · rw [List.take_zero, upd_upd]
      exact I5
  refine wpAny_bind (wpAny_holding (own_hint2 ow.nolen ow.nohint I4.kIn J' ?_))
  obtain ⟨z, its, k, r3, hl3, e3⟩ := I4.lstM (upd_same (H := H) (a := q))
  cases r3
  refine wpAny_ite_split (fun _ => ?_) (fun _ => wpAny_pure ⟨plainId_quiet PySem.F.plain_extend_loop _, fin s' I4 st⟩)
  refine wpAny_bind (wpAny_rule ?_)
  refine wpAny_bind ?_
  show wpAny _ _ (updateSeq q (·.push .none) >>= fun _ => updateSeq q (·.pop)) _ _ _
  refine wpAny_bind (wpAny_updateSeq e3 rfl ?_)
  have I5 := I4.lset (f := (·.push Value.none)) (its' := [Value.none]) (ys := [.non]) (t' := s'.toks) upd_same e3 (by simp) (.cons rfl .nil) (by rw [List.length_singleton, sizeLine_eq]; decide)
  rw [upd_upd] at I5
  obtain ⟨z4, its4, k4, r4, hl4, e4⟩ := I5.lstM upd_same
  obtain ⟨u4, rfl, ru4⟩ := r4.one
  have st2 := st.at (h' := (s'.heap.update q (Obj.mapSeq (·.push Value.none)))) fun o eo => (Heap.get?_update_other _ _ nq).trans eo
  refine wpAny_updateSeq e4 rfl ?_ (by show 1 ≤ sizeLine; rw [sizeLine_eq]; decide) (by show 0 ≤ sizeLine + 1; exact Nat.zero_le _)
  have I6 := I5.lset (f := (·.pop)) (its := [u4]) (its' := []) (ys := []) (t' := s'.toks) upd_same e4 (by rfl) .nil (Nat.zero_le _)
  rw [upd_upd] at I6
  exact wpAny_pure ⟨plainId_quiet PySem.F.plain_extend_loop _, fin _ I6 (st2.at fun o eo => (Heap.get?_update_other _ _ nq).trans eo)⟩
theorem listO_nox (xs : List Val) (h : Mem) : NoX (listO Γ xs h) := by
  unfold listO
  split
  · split
    · exact opt_nox _ _ _ fun a h => by unfold newL; split <;> exact True.intro
    · exact biRun_nox _ _ _
  · exact True.intro
theorem listO_ok (hu : X.A.units + 65 < cLine) (hc : X.calm = true) (OI : ∀ c C fld, Γ.cls.lookup c = some C → C.it = some fld → OwIt X (L.C c) fld) : CallR X (.type "list") (rCall L X.K (listO Γ)) := by
  intro pins s σ H xs' us Q I rv ⟨f, h, xs, S, R, p⟩
  unfold listO at p
  split at p
  · rename_i v
    split at p
    · rename_i m ei
      obtain ⟨v', rfl, r⟩ := R.one
      obtain ⟨ad, cl, fld, dx, gs, l, rfl, hi, ow, hl, el⟩ := own_rel S OI r ei
      cases e : lstOf h (.ref m) with
      | none => rw [e] at p; exact absurd p id
      | some ys =>
        rw [e] at p
        obtain ⟨b, vs, eb, sq, rr⟩ := S.lstOf (mk_ref el) e
        cases eb
        exact list_own hc OI pins s σ H _ us Q I rv ⟨ad, cl, fld, dx, gs, l, vs, rfl, hi, ow, hl, sq, (newL_ok S rr p).2⟩
    · exact bi_ok (L := L) hu .list (fun _ => hc) pins s σ H _ us Q I rv ⟨f, h, _, S, R, p⟩
  · exact absurd p id
theorem s_listO (hu : X.A.units + 65 < cLine) (hc : X.calm = true) (OI : ∀ c C fld, Γ.cls.lookup c = some C → C.it = some fld → OwIt X (L.C c) fld) {es : List Expr} (hg : Gl X "list") (hm : X.mg "list" = none) (ha : PA X (a :: es) (GoodA L X.K W das)) (he : starEach (a :: es) X.env = (false, eval a X.env) :: starEach es X.env)
    (hpl : (backTo pos (starEach es X.env)).any (·.1) = false) : PE X (.Call (.Name "list" p) (a :: es) [] pos) (GoodE L X.K W (eListO Γ das)) :=
  peImp (pe_callTy (listO_ok (L := L) hu hc OI) hg hm (by decide +kernel) ha (by decide +kernel) (by decide +kernel) he hpl) fun σ H Q G => good_call listO_nox G
end
end Mp
set_option Elab.async false
set_option linter.all false
set_option maxRecDepth 100000
set_option maxHeartbeats 2000000
namespace Mp
open PySem PySem.Spec PyProof.Rows L2
/-! ### the machine reads the syntax -/
def findIx : List Str → Str → Option Nat
  | [], _ => none
  | y :: r, x => if y = x then some 0 else (findIx r x).map (· + 1)
theorem findIx_get : ∀ {N : List Str} {x : Str} {i : Nat}, findIx N x = some i → N[i]? = some x
  | [], _, _, e => by cases e
  | y :: r, x, i, e => by
    unfold findIx at e
    split at e
    · rename_i h; cases e; rw [h]; rfl
    · obtain ⟨j, e1, rfl⟩ := Option.map_eq_some_iff.mp e
      exact findIx_get (N := r) e1
def visK : Option NameKind → Bool
  | some .local => true
  | some .cell => true
  | some .free => true
  | _ => false
def slotOf (N : List Str) (sc : Scope) (x : Str) : Option Nat := if visK (sc.names.lookup x) && !(x == ("__debug__" : Str)) && !(x == ("__classdict__" : Str)) then findIx N x else none
def isGl (sc : Scope) (x : Str) : Bool := decide (sc.names.lookup x = some .globalImplicit) && !(x == ("__debug__" : Str))
def locK : Option NameKind → Bool
  | some .local => true
  | some .cell => true
  | _ => false
def evA (ev : Expr → ME) : List Expr → MA
  | [] => aNil
  | e :: es => aCons (ev e) (evA ev es)
/-- the items of a display -/
def evAS (ev : Expr → ME) : List Expr → MA
  | [] => aNil
  | .Starred e _ :: es => aStar (ev e) (evAS ev es)
  | e :: es => aCons (ev e) (evAS ev es)
def evP (ev : Expr → ME) : List (Option Expr) → List Expr → MP
  | some k :: ks, v :: vs => pCons (ev k) (ev v) (evP ev ks vs)
  | _, _ => pNil
def evK (ev : Expr → ME) : List Keyword → MA
  | [] => aNil
  | ⟨_, e, _⟩ :: es => aCons (ev e) (evK ev es)
def evAnd (ev : Expr → ME) : List Expr → ME
  | [] => eBad
  | [a] => ev a
  | a :: b :: r => eAnd (ev a) (evAnd ev (b :: r))
def evOr (ev : Expr → ME) : List Expr → ME
  | [] => eBad
  | [a] => ev a
  | a :: b :: r => eOr (ev a) (evOr ev (b :: r))
def tBad : MT := fun _ _ => .bad
def evAndT (ev : Expr → MT) : List Expr → MT
  | [] => tBad
  | [a] => ev a
  | a :: b :: r => tAnd (ev a) (evAndT ev (b :: r))
def evOrT (ev : Expr → MT) : List Expr → MT
  | [] => tBad
  | [a] => ev a
  | a :: b :: r => tOr (ev a) (evOrT ev (b :: r))
def iBad : MI := fun _ _ => .bad
def isSlice : Expr → Bool
  | .Slice _ _ _ _ => true
  | _ => false
def isSetE : Expr → Bool
  | .Set _ _ _ => true
  | _ => false
def isNm : Expr → Bool
  | .Name _ _ => true
  | _ => false
def isTupE : Expr → Bool
  | .Tuple _ _ _ => true
  | _ => false
def baseOk : Expr → Bool
  | .Call (.Name _ _) [] [] _ => false
  | _ => true
/-- the target of a for, of a comprehension, of an assignment: names and tuples of them -/
def tgOf (N : List Str) (sc : Scope) : Nat → Expr → Option Tg
  | 0, _ => none
  | n + 1, e => match e with
    | .Name x _ => if locK (sc.names.lookup x) then (findIx N x).map .nm else none
    | .Tuple es _ _ => (go n es).map .tp
    | _ => none
where go (n : Nat) : List Expr → Option (List Tg)
    | [] => some []
    | e :: es => if noStar e then (match tgOf N sc n e, go n es with
      | some t, some ts => some (t :: ts)
      | _, _ => none) else none
def tyNamesOf : List Expr → Option (List (Str × String))
  | [] => some []
  | .Name x _ :: r => match tyNames.lookup x, tyNamesOf r with
    | some T, some l => some ((x, T) :: l)
    | _, _ => none
  | _ :: _ => none
def evO (ev : Expr → ME) : Option Expr → MO
  | none => oNone
  | some e => oSome (ev e)
def ownOf (N : List Str) (scope : Scope) : List (Str × Nat) := scope.names.filterMap fun p => if locK (some p.2) then (findIx N p.1).map fun i => (p.1, i) else none
def natIn (xs ys : List Nat) : Bool := xs.all fun x => ys.contains x
section
variable (Γ : Pg) (call : CallT) (N : List Str)
def evIsi (ev : Expr → ME) (sc : Scope) (args : List Expr) : ME := match args with
  | [a, .Name x _] => if noStar a && isGl sc x then (match tyNames.lookup x with
    | some T => eIsi [T] (ev a)
    | none => eBad) else eBad
  | [a, .Tuple es _ _] => match tyNamesOf es with
    | some xs => if noStar a && xs.all (fun q => isGl sc q.1) && decide (xs.length ≤ sizeLine) then eIsi (xs.map (·.2)) (ev a) else eBad
    | none => eBad
  | _ => eBad
/-- the place of the handled exception -/
def xSlot (sc : Scope) (e : Expr) : Option Nat := match e with
  | .Name x _ => (match slotOf N sc x with
    | some i => if Γ.hot && Γ.xs.contains i then some i else none
    | none => none)
  | _ => none
def xNamesOf : List Expr → Option (List Str)
  | [] => some []
  | .Name x _ :: r => (xNamesOf r).map (x :: ·)
  | _ :: _ => none
def evXis (sc : Scope) (i : Nat) (t : Expr) : ME := match t with
  | .Name x _ => if isGl sc x && (xnames Γ).contains x then eXis Γ i [x] else eBad
  | .Tuple es _ _ => (match xNamesOf es with
    | some xs => if xs.all (fun x => isGl sc x && (xnames Γ).contains x) && decide (xs.length ≤ sizeLine) then eXis Γ i xs else eBad
    | none => eBad)
  | _ => eBad
def evIsx (ev : Expr → ME) (sc : Scope) (args : List Expr) : ME := match args with
  | [a, t] => (match xSlot Γ N sc a with
    | some i => evXis Γ sc i t
    | none => evIsi ev sc args)
  | _ => evIsi ev sc args
def evBlt (ev : Expr → ME) (sc : Scope) (x : Str) (args : List Expr) : ME :=
  if x = "isinstance" then evIsx Γ N ev sc args else if Γ.it && !Γ.hot && decide (x = ("list" : Str)) then (match args with
    | a :: es => eListO Γ (evA ev (a :: es))
    | [] => eBad) else match biOf x, args with
    | some b, a :: es => if Γ.hot && calmBi b then eBad else eBi b (evA ev (a :: es))
    | _, _ => eBad
def evListR (ev : Expr → ME) (sc : Scope) (x : Str) (args : List Expr) : ME := match args with
  | [.Call (.Name y _) [a] [] _] => if x = "list" && decide (y = ("range" : Str)) && isGl sc "range" then (if noStar a && !Γ.hot then eListR1 (ev a) else eBad) else evBlt Γ N ev sc x args
  | [.Call (.Name y _) [a, b] [] _] => if x = "list" && decide (y = ("range" : Str)) && isGl sc "range" then (if noStar a && noStar b && !Γ.hot then eListR2 (ev a) (ev b) else eBad) else evBlt Γ N ev sc x args
  | _ => evBlt Γ N ev sc x args
def evLenS (ev : Expr → ME) (sc : Scope) (x : Str) (args : List Expr) : ME := match args with
  | [.Call (.Name y _) [a] [] _] => if x = "len" && decide (y = ("set" : Str)) && isGl sc "set" then (if noStar a && !Γ.hot then eLenSet (ev a) else eBad) else if x = "sorted" && decide (y = ("set" : Str)) && isGl sc "set" then (if noStar a && !Γ.hot then eSortSet (ev a) else eBad) else evListR Γ N ev sc x args
  | _ => evListR Γ N ev sc x args
def kwNames (kws : List Keyword) : List Str := kws.filterMap (·.arg)
def evCall (ev : Expr → ME) (sc : Scope) (x : Str) (args : List Expr) (kws : List Keyword) : ME :=
  if isGl sc x && args.all noStar && kws.all (·.arg.isSome) then
    (if Γ.tops.contains x then (match Γ.fns.lookup x with
      | some D => if decide ((x, args.length, kwNames kws) ∈ Γ.shapes) then
          (if kws.isEmpty && decide (args.length = D.ps.length) then eCall (call x) (evA ev args) else (match bindV D args.length (kwNames kws) with
            | some sel => eCallS (call x) sel (evA ev args) (evK ev kws)
            | none => eBad)) else eBad
      | none => eBad)
    else match Γ.cls.lookup x with
      | some C => (match Γ.fns.lookup C.init with
        | some D => if decide ((C.init, args.length + 1, kwNames kws) ∈ Γ.shapes) then (match bindV D (args.length + 1) (kwNames kws) with
            | some sel => eMake (call C.init) x sel (evA ev args) (evK ev kws)
            | none => eBad) else eBad
        | none => eBad)
      | none => if kws.isEmpty then evLenS Γ N ev sc x args else eBad)
  else eBad
/-- g(e), e the handled exception | any other call -/
def evCallE (ev : Expr → ME) (sc : Scope) (x : Str) (args : List Expr) (kws : List Keyword) : ME := match args, kws with
  | [a], [] => (match xSlot Γ N sc a with
    | some i => if isGl sc x && Γ.tops.contains x then (match Γ.fns.lookup x with
        | some D => if decide ((x, 1, []) ∈ Γ.shapes) && decide (D.ps.length = 1) && D.xs.contains 0 then eCallX (call x) i else eBad
        | none => eBad) else eBad
    | none => evCall Γ call N ev sc x args kws)
  | _, _ => evCall Γ call N ev sc x args kws
def evMeth (ev : Expr → ME) (o : Expr) (m : Str) (apos : Pos) (args : List Expr) (kws : List Keyword) (pos : Pos) : ME :=
  if baseOk o && args.all noStar && kws.all (·.arg.isSome) && decide (args.length + kws.length + 1 < 30) && (apos.endLine == pos.line) then eMeth Γ call m args.length (kwNames kws) (ev o) (evA ev args) (evK ev kws) else eBad
def evI (ev : Expr → ME) (sc : Scope) (tg iter : Expr) : MI := match iter with
  | .Call (.Name x _) [a] [] _ => if isGl sc x && decide (x = ("range" : Str)) then (if noStar a then iRng1 (ev a) else iBad) else if isGl sc x && decide (x = ("enumerate" : Str)) then (if noStar a && isTupE tg then iEnum (ev a) else iBad) else iVal (ev iter)
  | .Call (.Name x _) [a, b] [] _ => if isGl sc x && decide (x = ("range" : Str)) then (if noStar a && noStar b then iRng2 (ev a) (ev b) else iBad) else if isGl sc x && decide (x = ("zip" : Str)) then (if noStar a && noStar b && isTupE tg then iZip (ev a) (ev b) else iBad) else iVal (ev iter)
  | _ => if isSetE iter then iBad else if Γ.it && !Γ.hot && isNm iter then iValO Γ (ev iter) else iVal (ev iter)
def evIfs (ev : Expr → MT) : List Expr → MT
  | [] => tYesM
  | [c] => ev c
  | _ => tBad
def nameSlot (N : List Str) (sc : Scope) (iter : Expr) : Option Nat := match iter with
  | .Name x _ => (match slotOf N sc x with
    | some i => if Γ.xs.contains i then none else some i
    | none => none)
  | _ => none
def lcBy (o : Option Nat) (vs : List Nat) (t : Tg) (mi : MI) (c : MT) (elt : ME) : ME := match o with
  | some i => eLcN i vs t c elt
  | none => eLc vs t mi c elt
def evLc (ev : Scope → Expr → ME × MT) (sc : Scope) (elt : Expr) (gens : List Comprehension) (scope : Scope) : ME := match gens with
  | [⟨tg, iter, ifs, is_async⟩] => (match tgOf N scope 5 tg with
    | some t => if !Γ.hot && decide (is_async = 0) && blkC N sc scope (ownOf N scope) && natIn (tgS t) ((ownOf N scope).map (·.2)) && decide (ifs.length ≤ 1) then
        lcBy (nameSlot Γ N sc iter) ((ownOf N scope).map (·.2)) t (evI Γ (fun e => (ev sc e).1) sc tg iter) (evIfs (fun e => (ev (relS scope sc) e).2) ifs) (ev (relS scope sc) elt).1 else eBad
    | none => eBad)
  | _ => eBad
def evDc (ev : Scope → Expr → ME × MT) (sc : Scope) (kx vx : Expr) (gens : List Comprehension) (scope : Scope) : ME := match gens with
  | [⟨tg, iter, ifs, is_async⟩] => (match tgOf N scope 5 tg with
    | some t => if !Γ.hot && decide (is_async = 0) && blkC N sc scope (ownOf N scope) && natIn (tgS t) ((ownOf N scope).map (·.2)) && decide (ifs.length ≤ 1) then
        eDc ((ownOf N scope).map (·.2)) t (evI Γ (fun e => (ev sc e).1) sc tg iter) (evIfs (fun e => (ev (relS scope sc) e).2) ifs) (ev (relS scope sc) kx).1 (ev (relS scope sc) vx).1 else eBad
    | none => eBad)
  | _ => eBad
def evCmp (ev : Expr → ME) (a : Expr) (ops : List CmpOp) (bs : List Expr) : ME := match ops, bs with
  | [op], [b] => if behindInMarks op b then eBad else (match op with
    | .In => eIn Γ call false (ev a) (ev b)
    | .NotIn => eIn Γ call true (ev a) (ev b)
    | op => eCmp op (ev a) (ev b))
  | [op, op'], [b, c] => if lastMarks [op, op'] [b, c] then eBad else eChain op op' (ev a) (ev b) (ev c)
  | _, _ => eBad
def evRev (ev : Expr → ME) (a : Expr) (lo hi : Option Expr) (s : Expr) : ME := match lo, hi, s with
  | none, none, .UnaryOp .USub (.Constant (.int 1) _ _) _ => eRev (ev a)
  | _, _, _ => eBad
def evSub (ev : Expr → ME) (a b : Expr) : ME := match b with
  | .Slice lo hi st _ => match st with
    | none => eSlice (ev a) (evO ev lo) (evO ev hi)
    | some s => evRev ev a lo hi s
  | b => if Γ.own then eIdxM Γ call (ev a) (ev b) else eIdx (ev a) (ev b)
def evConst : Const → ME
  | .none => eC .non
  | .bool b => eC (.bl b)
  | .int i => eC (.int i)
  | .str x => eC (.str x)
  | _ => eBad
def evName (sc : Scope) (x : Str) : ME := match slotOf N sc x with
  | some i => if Γ.xs.contains i then eBad else eVar i
  | none => if isGl sc x then (match Γ.glob.lookup x with
    | some v => eC v
    | none => if Γ.tops.contains x && (Γ.fns.lookup x).isSome then eC (.fn x) else eBad) else eBad
/-- NAME.index(a), NAME a tuple of the program -/
def glTup (sc : Scope) (o : Expr) (m : Str) (args : List Expr) (kws : List Keyword) : Option (List Val × Expr) := match o, args, kws with
  | .Name x _, [a], [] => if decide (m = "index") && (slotOf N sc x).isNone && isGl sc x then (match Γ.glob.lookup x with
    | some (.tup ts) => some (ts, a)
    | _ => none) else none
  | _, _, _ => none
def evMethT (ev : Expr → ME) (sc : Scope) (o : Expr) (m : Str) (apos : Pos) (args : List Expr) (kws : List Keyword) (pos : Pos) : ME := match glTup Γ N sc o m args kws with
  | some (ts, a) => if noStar a && (apos.endLine == pos.line) then eTIdx ts (ev a) else eBad
  | none => evMeth Γ call ev o m apos args kws pos
def evCl (ev : Expr → ME) (sc : Scope) (f : Expr) (args : List Expr) (kws : List Keyword) (pos : Pos) : ME := match f with
  | .Name x _ => evCallE Γ call N ev sc x args kws
  | .Attribute o m apos => evMethT Γ call N ev sc o m apos args kws pos
  | _ => eBad
def evUn (ev : Expr → ME) (op : UnaryOp) (a : Expr) : ME := match op with
  | .USub => eNeg (ev a)
  | .Not => eNot (ev a)
  | _ => eBad
def ev1 (self : Scope → Expr → ME × MT) (sc : Scope) (e : Expr) : ME := match e with
  | .Constant c _ _ => evConst c
  | .Name x _ => evName Γ N sc x
  | .BinOp a op b _ => eBin op (self sc a).1 (self sc b).1
  | .UnaryOp op a _ => evUn (fun e => (self sc e).1) op a
  | .BoolOp op vs _ => (match op with
    | .And => evAnd (fun e => (self sc e).1) vs
    | .Or => evOr (fun e => (self sc e).1) vs)
  | .Compare a ops bs _ => evCmp Γ call (fun e => (self sc e).1) a ops bs
  | .IfExp c a b _ => eIf (self sc c).2 (self sc a).1 (self sc b).1
  | .Tuple es _ _ => if es.all noStar then eTup (evA (fun e => (self sc e).1) es) else eBad
  | .List es _ => if es.all noStar then eLst (evA (fun e => (self sc e).1) es) else eLst (evAS (fun e => (self sc e).1) es)
  | .Subscript a b _ => evSub Γ call (fun e => (self sc e).1) a b
  | .Attribute a x _ => (match xSlot Γ N sc a with
    | some i => eXf Γ i x
    | none => if baseOk a && !Γ.hot then eAttr Γ call x (self sc a).1 else eBad)
  | .ListComp elt gens scope _ => evLc Γ N self sc elt gens scope
  | .DictComp kx vx gens scope _ => evDc Γ N self sc kx vx gens scope
  | .Call f args kws pos => evCl Γ call N (fun e => (self sc e).1) sc f args kws pos
  | .Dict ks vs _ => (match ks, vs with
    | [], [] => eDic0
    | k :: ks, vs => if (k :: ks).all (·.isSome) && decide ((k :: ks).length = vs.length) && decide ((k :: ks).length ≤ 15) then eDsp (evP (fun e => (self sc e).1) (k :: ks) vs) else eBad
    | _, _ => eBad)
  | _ => eBad
def evT1 (self : Scope → Expr → ME × MT) (sc : Scope) (e : Expr) : MT := match e with
  | .UnaryOp op a pos => (match op with
    | .Not => tNot (self sc a).2
    | op => tE (ev1 Γ call N self sc (.UnaryOp op a pos)))
  | .BoolOp op vs _ => (match op with
    | .And => evAndT (fun e => (self sc e).2) vs
    | .Or => evOrT (fun e => (self sc e).2) vs)
  | .IfExp _ _ _ _ => tBad
  | e => tE (ev1 Γ call N self sc e)
def ev : Nat → Scope → Expr → ME × MT
  | 0, _, _ => (eBad, tBad)
  | n + 1, sc, e => (ev1 Γ call N (ev n) sc e, evT1 Γ call N (ev n) sc e)
end
/-! ### contexts -/
def bltNames : List Str := (["range", "enumerate", "zip", "isinstance", "set", "ValueError", "super", "iter"] : List Str) ++ biTab.map (·.1) ++ tyNames.map (·.1)
structure XOk (Γ : Pg) (L : Lk) (call : CallT) (k : Nat) (N : List Str) (sc : Scope) (X : Cx) : Prop where
  hN : X.N = N
  nd : N.Nodup
  hsc : X.env.scope = sc
  calm : Γ.hot = false → X.calm = true
  room : L2H.RoomH (k + 1) X.A
  xsL : L.xs = Γ.xs
  hotp : Γ.hot = true → HotX L X
  xcf : ∀ c D, Γ.xcl.lookup c = some D → XcF L X.K Γ c D
  xcg : ∀ c D, Γ.xcl.lookup c = some D → X.mg c = some (.ref (L.C c))
  fn : ∀ g D, Γ.fns.lookup g = some D → FnF L X Γ call g D
  itf : Γ.hot = false → ∀ c C fld, Γ.cls.lookup c = some C → C.it = some fld → OwIt X (L.C c) fld
  top : ∀ g, Γ.tops.contains g = true → X.mg g = some (.ref (L.F g))
  cls : ∀ c C, Γ.cls.lookup c = some C → ClF L X.K c C
  clg : ∀ c C, Γ.cls.lookup c = some C → X.mg c = some (.ref (L.C c))
  glob : ∀ x v, Γ.glob.lookup x = some v → ∃ v' u, X.mg x = some u ∧ RelV v' u ∧ (∀ f H, RV L X.K f H v v') ∧ TupPl X.K v v'
  blt : ∀ x ∈ bltNames, Γ.tops.contains x = false → Γ.cls.lookup x = none → Γ.glob.lookup x = none → X.mg x = none
  nob : ∀ x ∈ bltNames, Γ.tops.contains x = false ∧ Γ.cls.lookup x = none ∧ Γ.glob.lookup x = none
  prop : ∀ c C x g, Γ.cls.lookup c = some C → C.props.lookup x = some g → ∃ D, Γ.fns.lookup g = some D ∧ D.ps.length = 1 ∧ (g, 1, []) ∈ Γ.shapes ∧ ∃ sel, bindV D 1 [] = some sel
section
variable {Γ : Pg} {L : Lk} {call : CallT} {k : Nat} {N : List Str} {sc : Scope} {X : Cx} {W : WX} {pos : Pos}
theorem XOk.gl (ok : XOk Γ L call k N sc X) {x : Str} (h : isGl sc x = true) : Gl X x ∧ (x == ("__debug__" : Str)) = false := by
  unfold isGl at h
  rw [Bool.and_eq_true] at h
  refine ⟨?_, by simpa using h.2⟩
  show X.env.scope.names.lookup x = _
  rw [ok.hsc]
  exact of_decide_eq_true h.1
theorem XOk.no (ok : XOk Γ L call k N sc X) {x : Str} (h : x ∈ bltNames) : X.mg x = none := by
  obtain ⟨h1, h2, h3⟩ := ok.nob x h
  exact ok.blt x h h1 h2 h3
theorem XOk.units (ok : XOk Γ L call k N sc X) : X.A.units + 65 < cLine := by
  have := ok.room.un
  omega
theorem XOk.slot (ok : XOk Γ L call k N sc X) {x : Str} {i : Nat} (h : slotOf N sc x = some i) : X.N[i]? = some x ∧ Vis X.env.scope x ∧ (x == ("__debug__" : Str)) = false ∧ (x == ("__classdict__" : Str)) = false := by
  unfold slotOf at h
  split at h
  · rename_i hc
    simp only [Bool.and_eq_true, Bool.not_eq_true'] at hc
    refine ⟨by rw [ok.hN]; exact findIx_get h, ?_, hc.1.2, hc.2⟩
    have hv := hc.1.1
    rw [← ok.hsc] at hv
    unfold Vis
    revert hv
    cases X.env.scope.names.lookup x with
    | none => intro hv; simp [visK] at hv
    | some kd => cases kd <;> simp [visK]
  · cases h
theorem evA_len {ev : Expr → ME} : ∀ {es : List Expr} {ρ : Env} {h : Mem} {us : List Val} {h' : Mem}, evA ev es ρ h = .ok us h' → us.length = es.length
  | [], ρ, h, us, h', e => by cases e; rfl
  | a :: es, ρ, h, us, h', e => by
    simp only [evA, aCons] at e
    cases q : ev a ρ h with
    | bad => rw [q] at e; cases e
    | exc _ _ _ => rw [q] at e; cases e
    | ok v h1 =>
      rw [q, Res.bind_ok] at e
      cases q2 : evA ev es ρ h1 with
      | bad => rw [q2] at e; cases e
      | exc _ _ _ => rw [q2] at e; cases e
      | ok vs h2 =>
        rw [q2] at e
        cases e
        rw [List.length_cons, List.length_cons, evA_len q2]
theorem evK_len {ev : Expr → ME} : ∀ {es : List Keyword} {ρ : Env} {h : Mem} {us : List Val} {h' : Mem}, evK ev es ρ h = .ok us h' → us.length = es.length
  | [], ρ, h, us, h', e => by cases e; rfl
  | ⟨_, a, _⟩ :: es, ρ, h, us, h', e => by
    simp only [evK, aCons] at e
    cases q : ev a ρ h with
    | bad => rw [q] at e; cases e
    | exc _ _ _ => rw [q] at e; cases e
    | ok v h1 =>
      rw [q, Res.bind_ok] at e
      cases q2 : evK ev es ρ h1 with
      | bad => rw [q2] at e; cases e
      | exc _ _ _ => rw [q2] at e; cases e
      | ok vs h2 =>
        rw [q2] at e
        cases e
        rw [List.length_cons, List.length_cons, evK_len q2]
theorem kwNames_len : ∀ {kws : List Keyword}, kws.all (·.arg.isSome) = true → (kws.filterMap (·.arg)).length = kws.length
  | [], _ => rfl
  | ⟨nm, e, p⟩ :: kws, h => by
    simp only [List.all_cons, Bool.and_eq_true] at h
    cases nm with
    | none => simp at h
    | some x =>
      show (x :: kws.filterMap (·.arg)).length = _
      rw [List.length_cons, List.length_cons, kwNames_len h.2]
theorem peBad {e : Expr} : PE X e (GoodE L X.K W eBad) := peNo (good_no fun _ _ => rfl)
theorem ptBad {e : Expr} : PT X e (GoodT L X.K W tBad) := ptNo (good_noT fun _ _ => rfl)
theorem piBad {tg e : Expr} : PI X tg e (GoodI L X.K W iBad) := ⟨fun pins s σ H R I ⟨f, ρ, h, _, _, p⟩ => absurd p id⟩
variable {fe : Expr → ME} {ft : Expr → MT}
theorem paL (h : ∀ e, PE X e (GoodE L X.K W (fe e))) : ∀ es : List Expr, es.all noStar = true → PA X es (GoodA L X.K W (evA fe es))
  | [], _ => a_nil
  | e :: es, hs => by
    simp only [List.all_cons, Bool.and_eq_true] at hs
    exact a_cons (h e) (paL h es hs.2) (star_cons hs.1)
theorem paLS (h : ∀ e, PE X e (GoodE L X.K W (fe e))) : ∀ es : List Expr, PA X es (GoodA L X.K W (evAS fe es))
  | [] => a_nil
  | e :: es => by
    cases e with
    | Starred e p => exact a_star (h e) (paLS h es)
    | _ => exact a_cons (h _) (paLS h es) (star_cons rfl)
theorem ppL {pos : Pos} (h : ∀ e, PE X e (GoodE L X.K W (fe e))) : ∀ (ks : List (Option Expr)) (vs : List Expr), ks.all (·.isSome) = true → ks.length = vs.length → ∃ trs, PPs X pos ks vs trs ∧ ∀ σ H Q, GoodP L X.K W (evP fe ks vs) σ H Q → tPairs trs σ H Q
  | [], [], _, _ => ⟨[], pps_nil, fun _ _ _ g => gp_nil g⟩
  | [], _ :: _, _, e => by cases e
  | _ :: _, [], _, e => by cases e
  | none :: ks, v :: vs, a, _ => by simp at a
  | some k :: ks, v :: vs, a, e => by
    obtain ⟨trs, p1, p2⟩ := ppL (pos := pos) h ks vs (by simpa using a) (by simpa using e)
    exact ⟨_, pps_cons (h k) (h v) p1, fun _ _ _ g => gp_cons p2 g⟩
theorem pkL (h : ∀ e, PE X e (GoodE L X.K W (fe e))) : ∀ es : List Keyword, PK X es (GoodA L X.K W (evK fe es))
  | [] => k_nil
  | ⟨_, e, _⟩ :: es => k_cons (h e) (pkL h es)
theorem andL (h : ∀ e, PE X e (GoodE L X.K W (fe e))) : ∀ vs : List Expr, PE X (.BoolOp .And vs pos) (GoodE L X.K W (evAnd fe vs))
  | [] => peBad
  | [a] => pe_one (h a)
  | a :: b :: r => s_and (h a) (andL h (b :: r))
theorem orL (h : ∀ e, PE X e (GoodE L X.K W (fe e))) : ∀ vs : List Expr, PE X (.BoolOp .Or vs pos) (GoodE L X.K W (evOr fe vs))
  | [] => peBad
  | [a] => pe_one (h a)
  | a :: b :: r => s_or (h a) (orL h (b :: r))
theorem andLT (h : ∀ e, PT X e (GoodT L X.K W (ft e))) : ∀ vs : List Expr, PW X (.BoolOp .And vs pos) (GoodT L X.K W (evAndT ft vs))
  | [] => ⟨fun _ pins s σ H Q I ⟨f, ρ, h, _, _, p⟩ => absurd p id⟩
  | [a] => pw_and1 (h a)
  | a :: b :: r => t_and (h a) (andLT h (b :: r))
theorem orLT (h : ∀ e, PT X e (GoodT L X.K W (ft e))) : ∀ vs : List Expr, PW X (.BoolOp .Or vs pos) (GoodT L X.K W (evOrT ft vs))
  | [] => ⟨fun _ pins s σ H Q I ⟨f, ρ, h, _, _, p⟩ => absurd p id⟩
  | [a] => pw_or1 (h a)
  | a :: b :: r => t_or (h a) (orLT h (b :: r))
theorem locK_of {kd : Option NameKind} {x : Str} {sc : Scope} (e : sc.names.lookup x = kd) (h : locK kd = true) : L2.Loc sc x := by
  unfold L2.Loc
  rw [e]
  cases kd with
  | none => simp [locK] at h
  | some q => cases q <;> simp [locK] at h ⊢
/-- targets -/
theorem tg_okC (hN : X.N = N) (nd : N.Nodup) (hf : ∀ x, locK (sc.names.lookup x) = true → L2.Loc X.env.scope x ∧ (X.fn x = true ∨ X.env.scope.names.lookup x = some .local)) : ∀ (n : Nat) (e : Expr) (t : Tg), (X.calm = true ∨ isTupE e = false) → tgOf N sc n e = some t → PG X e (GoodG L X.K t)
  | 0, e, t, _, q => by simp [tgOf] at q
  | n + 1, e, t, hcc, q => by
    cases e with
    | Name x p =>
      simp only [tgOf] at q
      split at q
      · rename_i hl
        obtain ⟨i, e1, rfl⟩ := Option.map_eq_some_iff.mp q
        exact tg_name (by rw [hN]; exact nd) (by rw [hN]; exact findIx_get e1) (hf x hl).1 (hf x hl).2
      · cases q
    | Tuple es kk p =>
      have hc : X.calm = true := hcc.elim id (fun z => by simp [isTupE] at z)
      simp only [tgOf] at q
      obtain ⟨ts, e1, rfl⟩ := Option.map_eq_some_iff.mp q
      have all : ∀ (es : List Expr) (ts : List Tg), tgOf.go N sc n es = some ts → PGs X es (GoodGs L X.K ts) ∧ (assignEach es X.env).length = ts.length ∧ (assignEach es X.env).findIdx? (·.1) = none := by
        intro es
        induction es with
        | nil =>
          intro ts e
          simp only [tgOf.go] at e
          cases e
          exact ⟨tg_nil, rfl, rfl⟩
        | cons e es ih =>
          intro ts q
          simp only [tgOf.go] at q
          split at q
          · rename_i hs
            split at q
            · rename_i t ts' e1 e2
              cases q
              obtain ⟨i1, i2, i3⟩ := ih ts' e2
              have ea : assignEach (e :: es) X.env = (false, assign e X.env) :: assignEach es X.env := by
                cases e <;> first | rfl | (simp [noStar] at hs)
              refine ⟨tg_cons (tg_okC hN nd hf n e t (.inl hc) e1) i1 (by rw [ea]; rfl), by rw [ea, List.length_cons, List.length_cons, i2], ?_⟩
              rw [ea, List.findIdx?_cons]
              simp [i3]
            · cases q
          · cases q
      obtain ⟨a1, a2, a3⟩ := all es ts e1
      exact tg_tup hc a1 a2 a3
    | _ => simp [tgOf] at q
theorem tg_ok {e : Expr} (hN : X.N = N) (nd : N.Nodup) (hc : X.calm = true ∨ isTupE e = false) (hf : ∀ x, locK (sc.names.lookup x) = true → L2.Loc X.env.scope x ∧ (X.fn x = true ∨ X.env.scope.names.lookup x = some .local)) (n : Nat) (t : Tg) (q : tgOf N sc n e = some t) : PG X e (GoodG L X.K t) := tg_okC hN nd hf n e t hc q
end
end Mp
set_option Elab.async false
set_option linter.all false
set_option maxRecDepth 100000
set_option maxHeartbeats 2000000
namespace Mp
open PySem PySem.Spec PyProof.Rows L2
section
variable {Γ : Pg} {L : Lk} {call : CallT} {k : Nat} {N : List Str} {sc : Scope} {X : Cx} {W : WX} {pos : Pos} {fe : Expr → ME} {ft : Expr → MT}
theorem takesN {X : Cx} : L2N.Takes X WF := fun u s' x => by
  obtain ⟨_, _, _, _, _, _, _, _, _, _, _, _, _, _, _, _, z⟩ := x
  exact z.elim
theorem FnF.calm {D : FnD} {g : Str} {X Y : Cx} (F : FnF L X Γ call g D) (hc : X.calm = true) (e1 : Y.prog = X.prog) (e2 : Y.w = X.w) (e3 : Y.K = X.K) (e4 : Y.mg = X.mg) (e5 : Y.base = X.base) (e6 : Y.A = X.A) : FnF L Y Γ call g D := by
  obtain ⟨prog, w, K, mg, base, A, N, s0, H0, env, outer, stack, ex, fn, calm, pn, xe⟩ := Y
  dsimp only at e1 e2 e3 e4 e5 e6
  subst e1 e2 e3 e4 e5 e6
  obtain ⟨⟨fd, _, c, Sh⟩, kp, fi⟩ := F
  obtain ⟨k, Fo, hr⟩ := c hc
  exact ⟨⟨fd, runX_of Fo hr, fun _ => ⟨k, Fo, hr⟩, Sh⟩, kp, fi⟩
theorem XOk.blk (ok : XOk Γ L call k N sc X) (hh : Γ.hot = false) (s : Shared) (H : Hp) (scope : Scope) (cl : List (Str × Addr)) (C : Addr) (fp : List Addr) : XOk Γ L call k N (relS scope sc) (X.blk s H scope (compEnvC scope cl C X.env) fp) where
  hN := ok.hN
  nd := ok.nd
  hsc := by rw [← ok.hsc]; rfl
  calm := ok.calm
  room := ok.room
  xsL := ok.xsL
  hotp := fun z => by rw [hh] at z; cases z
  xcf := ok.xcf
  xcg := ok.xcg
  fn := fun g D e => (ok.fn g D e).calm (ok.calm hh) rfl rfl rfl rfl rfl rfl
  itf := fun _ c C fld e1 e2 => (ok.itf hh c C fld e1 e2).calm rfl rfl rfl rfl rfl rfl
  top := ok.top
  cls := ok.cls
  clg := ok.clg
  glob := ok.glob
  blt := ok.blt
  nob := ok.nob
  prop := ok.prop
theorem folded_ok {iter : Expr} (h : isSetE iter = false) : ∀ x, foldedSetIterable iter X.env x = pure x := by
  intro x
  cases iter <;> first | rfl | (simp [isSetE] at h)
theorem plain_ix {b : Expr} (h : isSlice b = false) : PlainIx b := by
  intro o i
  cases b <;> first | rfl | (simp [isSlice] at h)
theorem plain_i2 {b : Expr} (h : isSlice b = false) : PlainI2 b := by
  intro o i
  cases b <;> first | rfl | (simp [isSlice] at h)
theorem e_name (ok : XOk Γ L call k N sc X) (x : Str) : PE X (.Name x pos) (GoodE L X.K W (evName Γ N sc x)) := by
  unfold evName
  cases hs : slotOf N sc x with
  | some i =>
    obtain ⟨h1, h2, h3, h4⟩ := ok.slot hs
    dsimp only
    split
    · exact peBad
    · rename_i hx
      exact s_var (by rw [ok.xsL]; simpa using hx) h1 h2 h3 h4
  | none =>
    dsimp only
    split
    · rename_i hg
      obtain ⟨g1, g2⟩ := ok.gl hg
      split
      · rename_i v e
        obtain ⟨v', u, h1, h2, h3, _⟩ := ok.glob x v e
        exact s_glob g1 h1 h2 h3 g2
      · split
        · rename_i ht
          rw [Bool.and_eq_true] at ht
          exact s_glob (v' := .ref (L.F x)) g1 (ok.top x ht.1) rfl (fun f H => by unfold RV; rfl) g2
        · exact peBad
    · exact peBad
theorem e_isi (ok : XOk Γ L call k N sc X) (h : ∀ e, PE X e (GoodE L X.K W (fe e))) {p : Pos} (hg : isGl sc "isinstance" = true) (args : List Expr) : PE X (.Call (.Name "isinstance" p) args [] pos) (GoodE L X.K W (evIsi fe sc args)) := by
  obtain ⟨g1, g2⟩ := ok.gl hg
  have m1 := ok.no (x := "isinstance") (by decide +kernel)
  have inT : ∀ {x : Str} {T : String}, tyNames.lookup x = some T → (x, T) ∈ tyNames ∧ X.mg x = none := fun {x T} e => by
    have mm := PySem.mem_of_lookup e
    refine ⟨mm, ok.no ?_⟩
    unfold bltNames
    exact List.mem_append_right _ (List.mem_map.mpr ⟨_, mm, rfl⟩)
  unfold evIsi
  split
  · rename_i a x p1
    split
    · rename_i hc
      rw [Bool.and_eq_true] at hc
      split
      · rename_i T e
        obtain ⟨t1, t2⟩ := inT e
        exact s_isi1 g1 m1 t1 (ok.gl hc.2).1 t2 (h a) hc.1
      · exact peBad
    · exact peBad
  · rename_i a es kk p1
    split
    · rename_i xs e
      split
      · rename_i hc
        simp only [Bool.and_eq_true] at hc
        have all : ∀ (es : List Expr) (xs : List (Str × String)), tyNamesOf es = some xs → es.map (fun e => match e with | .Name x _ => some x | _ => none) = xs.map (fun q => some q.1) ∧ ∀ q ∈ xs, q ∈ tyNames ∧ X.mg q.1 = none := by
          intro es
          induction es with
          | nil => intro xs e; simp [tyNamesOf] at e; subst e; exact ⟨rfl, fun q hq => by cases hq⟩
          | cons a es ih =>
            intro xs e
            cases a with
            | Name x p =>
              simp only [tyNamesOf] at e
              split at e
              · rename_i T l e1 e2
                cases e
                obtain ⟨i1, i2⟩ := ih l e2
                obtain ⟨t1, t2⟩ := inT e1
                refine ⟨by simp [i1], fun q hq => ?_⟩
                rcases List.mem_cons.mp hq with z | z
                · subst z; exact ⟨t1, t2⟩
                · exact i2 q z
              · cases e
            | _ => simp [tyNamesOf] at e
        obtain ⟨a1, a2⟩ := all es xs e
        refine s_isiT g1 m1 a1 (fun q hq => ⟨(a2 q hq).1, ?_, (a2 q hq).2⟩) (h a) hc.1.1 (of_decide_eq_true hc.2)
        exact (ok.gl (List.all_eq_true.mp hc.1.2 q hq)).1
      · exact peBad
    · exact peBad
  · exact peBad
theorem xSlot_pe (ok : XOk Γ L call k N sc X) {a : Expr} {i : Nat} (e : xSlot Γ N sc a = some i) : Γ.hot = true ∧ ∃ x p, a = .Name x p ∧ PE X a (tVar i) := by
  cases a with
  | Name x p =>
    simp only [xSlot] at e
    cases hs : slotOf N sc x with
    | none => rw [hs] at e; cases e
    | some j =>
      rw [hs] at e
      dsimp only at e
      split at e
      · rename_i hc
        cases e
        obtain ⟨h1, h2, h3, h4⟩ := ok.slot hs
        rw [Bool.and_eq_true] at hc
        exact ⟨hc.1, x, p, rfl, pe_var h1 h2 h3 h4⟩
      · cases e
  | _ => cases e
theorem e_isx (ok : XOk Γ L call k N sc X) (h : ∀ e, PE X e (GoodE L X.K W (fe e))) {p : Pos} (hg : isGl sc "isinstance" = true) (args : List Expr) : PE X (.Call (.Name "isinstance" p) args [] pos) (GoodE L X.K W (evIsx Γ N fe sc args)) := by
  obtain ⟨g1, g2⟩ := ok.gl hg
  have m1 := ok.no (x := "isinstance") (by decide +kernel)
  have mV := ok.no (x := "ValueError") (by decide +kernel)
  have nm : ∀ {x : Str}, (isGl sc x && (xnames Γ).contains x) = true → x ∈ xnames Γ ∧ ∀ pos, PE X (.Name x pos) (tC (xvalV L Γ x)) := fun {x} hx => by
    rw [Bool.and_eq_true] at hx
    have hm : x ∈ xnames Γ := by simpa using hx.2
    exact ⟨hm, fun pos => pe_xname hm (ok.gl hx.1).1 (ok.gl hx.1).2 (fun D e => ok.xcg x D e) mV⟩
  unfold evIsx
  split
  · rename_i a t
    split
    · rename_i i ei
      obtain ⟨hh, x, px, rfl, pe⟩ := xSlot_pe ok ei
      unfold evXis
      split
      · rename_i y py
        split
        · rename_i hy
          exact s_xis1 ok.xcf (ok.hotp hh) g1 m1 pe ((nm hy).2 py) (nm hy).1
        · exact peBad
      · rename_i es kk pt
        split
        · rename_i xs exs
          split
          · rename_i hc
            rw [Bool.and_eq_true] at hc
            have key : ∀ (es : List Expr) (xs : List Str), xNamesOf es = some xs → es.map (fun e => match e with | .Name x _ => some x | _ => none) = xs.map some := by
              intro es
              induction es with
              | nil => intro xs e; cases e; rfl
              | cons a es ih =>
                intro xs e
                cases a with
                | Name x p =>
                  simp only [xNamesOf] at e
                  obtain ⟨ys, e1, rfl⟩ := Option.map_eq_some_iff.mp e
                  simp [ih ys e1]
                | _ => cases e
            have al := fun y hy => List.all_eq_true.mp hc.1 y hy
            exact s_xisT ok.xcf (ok.hotp hh) g1 m1 pe (key es xs exs) (fun y hy => (nm (al y hy)).2) (fun y hy => (nm (al y hy)).1) (of_decide_eq_true hc.2)
          · exact peBad
        · exact peBad
      · exact peBad
    · exact e_isi ok h hg _
  · exact e_isi ok h hg _
theorem e_blt (ok : XOk Γ L call k N sc X) (h : ∀ e, PE X e (GoodE L X.K W (fe e))) {p : Pos} {x : Str} (hg : isGl sc x = true) (args : List Expr) (hst : args.all noStar = true) : PE X (.Call (.Name x p) args [] pos) (GoodE L X.K W (evBlt Γ N fe sc x args)) := by
  unfold evBlt
  split
  · rename_i e
    subst e
    exact e_isx ok h hg args
  split
  · rename_i hc
    simp only [Bool.and_eq_true, Bool.not_eq_true', decide_eq_true_eq] at hc
    obtain ⟨⟨_, hh⟩, rfl⟩ := hc
    split
    · rename_i a es
      have hst' := hst
      simp only [List.all_cons, Bool.and_eq_true] at hst'
      exact s_listO ok.units (ok.calm hh) (ok.itf hh) (ok.gl hg).1 (ok.no (x := "list") (by decide +kernel)) (paL h (a :: es) hst) (star_cons hst'.1) (star_any hst'.2)
    · exact peBad
  · split
    · rename_i b a es e
      split
      · exact peBad
      rename_i hcb
      have hb : x ∈ bltNames := by
        unfold bltNames
        exact List.mem_append_left _ (List.mem_append_right _ (List.mem_map.mpr ⟨_, PySem.mem_of_lookup e, rfl⟩))
      have hst' := hst
      simp only [List.all_cons, Bool.and_eq_true] at hst'
      exact s_bi (fun z => ok.calm (by simpa [z] using hcb)) ok.units e (ok.gl hg).1 (ok.no hb) (paL h (a :: es) hst) (star_cons hst'.1) (star_any hst'.2)
    · exact peBad
theorem e_listR (ok : XOk Γ L call k N sc X) (h : ∀ e, PE X e (GoodE L X.K W (fe e))) {p : Pos} {x : Str} (hg : isGl sc x = true) (args : List Expr) (hst : args.all noStar = true) : PE X (.Call (.Name x p) args [] pos) (GoodE L X.K W (evListR Γ N fe sc x args)) := by
  have mL := ok.no (x := "list") (by decide +kernel)
  have mR := ok.no (x := "range") (by decide +kernel)
  unfold evListR
  split
  · rename_i y p1 a p2
    split
    · rename_i hc
      simp only [Bool.and_eq_true, decide_eq_true_eq] at hc
      obtain ⟨⟨rfl, rfl⟩, hr⟩ := hc
      split
      · rename_i hs
        rw [Bool.and_eq_true] at hs
        exact s_listR1 (ok.calm (by simpa using hs.2)) (ok.gl hg).1 mL (ok.gl hr).1 mR (h a) hs.1
      · exact peBad
    · exact e_blt ok h hg _ hst
  · rename_i y p1 a b p2
    split
    · rename_i hc
      simp only [Bool.and_eq_true, decide_eq_true_eq] at hc
      obtain ⟨⟨rfl, rfl⟩, hr⟩ := hc
      split
      · rename_i hs
        rw [Bool.and_eq_true, Bool.and_eq_true] at hs
        exact s_listR2 (ok.calm (by simpa using hs.2)) (ok.gl hg).1 mL (ok.gl hr).1 mR (h a) (h b) hs.1.1 hs.1.2
      · exact peBad
    · exact e_blt ok h hg _ hst
  · exact e_blt ok h hg _ hst
theorem e_lenS (ok : XOk Γ L call k N sc X) (h : ∀ e, PE X e (GoodE L X.K W (fe e))) {p : Pos} {x : Str} (hg : isGl sc x = true) (args : List Expr) (hst : args.all noStar = true) : PE X (.Call (.Name x p) args [] pos) (GoodE L X.K W (evLenS Γ N fe sc x args)) := by
  have mL := ok.no (x := "len") (by decide +kernel)
  have mR := ok.no (x := "set") (by decide +kernel)
  have mS := ok.no (x := "sorted") (by decide +kernel)
  unfold evLenS
  split
  · rename_i y p1 a p2
    split
    · rename_i hc
      simp only [Bool.and_eq_true, decide_eq_true_eq] at hc
      obtain ⟨⟨rfl, rfl⟩, hr⟩ := hc
      split
      · rename_i hs
        rw [Bool.and_eq_true] at hs
        exact s_lenSet (ok.calm (by simpa using hs.2)) (ok.gl hg).1 mL (ok.gl hr).1 mR (h a) hs.1
      · exact peBad
    · split
      · rename_i hc
        simp only [Bool.and_eq_true, decide_eq_true_eq] at hc
        obtain ⟨⟨rfl, rfl⟩, hr⟩ := hc
        split
        · rename_i hs
          rw [Bool.and_eq_true] at hs
          exact s_sortSet (ok.calm (by simpa using hs.2)) (ok.gl hg).1 mS (ok.gl hr).1 mR (h a) hs.1
        · exact peBad
      · exact e_listR ok h hg _ hst
  · exact e_listR ok h hg _ hst
theorem e_call (ok : XOk Γ L call k N sc X) (tk : L2N.Takes X W) (h : ∀ e, PE X e (GoodE L X.K W (fe e))) {p : Pos} (x : Str) (args : List Expr) (kws : List Keyword) : PE X (.Call (.Name x p) args kws pos) (GoodE L X.K W (evCall Γ call N fe sc x args kws)) := by
  unfold evCall
  split
  · rename_i hc
    simp only [Bool.and_eq_true] at hc
    obtain ⟨⟨hg, hst⟩, hnm⟩ := hc
    obtain ⟨g1, g2⟩ := ok.gl hg
    split
    · rename_i ht
      split
      · rename_i D eD
        have F := ok.fn x D eD
        split
        · rename_i hsh
          have hsh := of_decide_eq_true hsh
          split
          · rename_i hk
            rw [Bool.and_eq_true] at hk
            have hk0 : kws = [] := by cases kws with | nil => rfl | cons _ _ => simp at hk
            subst hk0
            exact s_call tk F g1 (ok.top x ht) g2 (paL h args hst) hst (fun e => by rw [e]; rfl) (fun ρ h us h' e => evA_len e) hsh (of_decide_eq_true hk.2)
          · split
            · rename_i sel hb
              exact s_callS tk F g1 (ok.top x ht) g2 (paL h args hst) (pkL h kws) hst hnm (fun e => by rw [e]; rfl) (fun e => by rw [e]; rfl) (fun ρ h us h' e => evA_len e) (fun ρ h us h' e => evK_len e) hsh hb (kwNames_len hnm)
            · exact peBad
        · exact peBad
      · exact peBad
    · split
      · rename_i C eC
        split
        · rename_i D eD
          split
          · rename_i hsh
            have hsh := of_decide_eq_true hsh
            split
            · rename_i sel hb
              exact s_make tk (ok.cls x C eC) (ok.fn C.init D eD) g1 (ok.clg x C eC) g2 (paL h args hst) (pkL h kws) hst hnm (fun e => by rw [e]; rfl) (fun e => by rw [e]; rfl) (fun ρ h us h' e => evA_len e) (fun ρ h us h' e => evK_len e) hsh hb (kwNames_len hnm)
            · exact peBad
          · exact peBad
        · exact peBad
      · split
        · rename_i hk
          have hk0 : kws = [] := by cases kws with | nil => rfl | cons _ _ => simp at hk
          subst hk0
          exact e_lenS ok h hg args hst
        · exact peBad
  · exact peBad
theorem e_callE (ok : XOk Γ L call k N sc X) (tk : L2N.Takes X W) (h : ∀ e, PE X e (GoodE L X.K W (fe e))) {p : Pos} (x : Str) (args : List Expr) (kws : List Keyword) : PE X (.Call (.Name x p) args kws pos) (GoodE L X.K W (evCallE Γ call N fe sc x args kws)) := by
  unfold evCallE
  split
  · rename_i a
    split
    · rename_i i ei
      obtain ⟨hh, y, py, rfl, pe⟩ := xSlot_pe ok ei
      split
      · rename_i hc
        rw [Bool.and_eq_true] at hc
        obtain ⟨g1, g2⟩ := ok.gl hc.1
        split
        · rename_i D eD
          split
          · rename_i hd
            rw [Bool.and_eq_true, Bool.and_eq_true] at hd
            exact s_callX tk (ok.fn x D eD) g1 (ok.top x hc.2) g2 pe (of_decide_eq_true hd.1.1) (of_decide_eq_true hd.1.2) (by simpa using hd.2)
          · exact peBad
        · exact peBad
      · exact peBad
    · exact e_call ok tk h x _ _
  · exact e_call ok tk h x _ _
theorem base_of {o : Expr} {x : Str} (h : baseOk o = true) : attributeBase o x X.env (eval o X.env) = eval o X.env := by
  apply base_ok
  unfold baseOk at h
  exact h
theorem e_meth (ok : XOk Γ L call k N sc X) (tk : L2N.Takes X W) (h : ∀ e, PE X e (GoodE L X.K W (fe e))) {apos : Pos} (o : Expr) (m : Str) (args : List Expr) (kws : List Keyword) : PE X (.Call (.Attribute o m apos) args kws pos) (GoodE L X.K W (evMeth Γ call fe o m apos args kws pos)) := by
  unfold evMeth
  split
  · rename_i hc
    simp only [Bool.and_eq_true] at hc
    obtain ⟨⟨⟨⟨hb, hst⟩, hnm⟩, hn⟩, hl⟩ := hc
    exact s_meth tk ok.cls ok.fn (h o) (paL h args hst) (pkL h kws) hst hnm (fun e => by rw [e]; rfl) (fun e => by rw [e]; rfl) (fun ρ h us h' e => evA_len e) (fun ρ h us h' e => evK_len e) (kwNames_len hnm) (base_of hb) (of_decide_eq_true hn) hl
  · exact peBad
theorem e_methT (ok : XOk Γ L call k N sc X) (tk : L2N.Takes X W) (h : ∀ e, PE X e (GoodE L X.K W (fe e))) {apos : Pos} (o : Expr) (m : Str) (args : List Expr) (kws : List Keyword) : PE X (.Call (.Attribute o m apos) args kws pos) (GoodE L X.K W (evMethT Γ call N fe sc o m apos args kws pos)) := by
  unfold evMethT
  cases e : glTup Γ N sc o m args kws with
  | none => exact e_meth ok tk h o m args kws
  | some q =>
    obtain ⟨ts, a⟩ := q
    dsimp only
    split
    · rename_i hc
      rw [Bool.and_eq_true] at hc
      unfold glTup at e
      split at e
      · rename_i x p b
        split at e
        · rename_i hm
          simp only [Bool.and_eq_true, decide_eq_true_eq] at hm
          obtain ⟨⟨hm, _⟩, hg⟩ := hm
          obtain ⟨g1, g2⟩ := ok.gl hg
          split at e
          · rename_i ts' el
            cases e
            subst hm
            obtain ⟨v', u, h1, h2, h3, h4⟩ := ok.glob x _ el
            exact s_tidx g1 h1 h2 h3 h4 g2 (h _) hc.1 hc.2
          · cases e
        · cases e
      · cases e
    · exact peBad
theorem i_iter (ok : XOk Γ L call k N sc X) (h : ∀ e, PE X e (GoodE L X.K W (fe e))) (tg iter : Expr) : PI X tg iter (GoodI L X.K W (evI Γ fe sc tg iter)) ∧ (isSetE iter = true → evI Γ fe sc tg iter = iBad) := by
  have mR := ok.no (x := "range") (by decide +kernel)
  have mE := ok.no (x := "enumerate") (by decide +kernel)
  have mZ := ok.no (x := "zip") (by decide +kernel)
  unfold evI
  split
  · rename_i x p a p2
    refine ⟨?_, fun e => by simp [isSetE] at e⟩
    split
    · rename_i hc
      simp only [Bool.and_eq_true, decide_eq_true_eq] at hc
      obtain ⟨hg, rfl⟩ := hc
      split
      · rename_i hs; exact i_rng1 (ok.gl hg).1 mR (h a) (star_cons hs)
      · exact piBad
    · split
      · rename_i hc
        simp only [Bool.and_eq_true, decide_eq_true_eq] at hc
        obtain ⟨hg, rfl⟩ := hc
        split
        · rename_i hs
          rw [Bool.and_eq_true] at hs
          cases tg with
          | Tuple elts kk tp => exact i_enum (ok.gl hg).1 mE (h a) (star_cons hs.1)
          | _ => simp [isTupE] at hs
        · exact piBad
      · exact i_val (h _)
  · rename_i x p a b p2
    refine ⟨?_, fun e => by simp [isSetE] at e⟩
    split
    · rename_i hc
      simp only [Bool.and_eq_true, decide_eq_true_eq] at hc
      obtain ⟨hg, rfl⟩ := hc
      split
      · rename_i hs
        rw [Bool.and_eq_true] at hs
        exact i_rng2 (ok.gl hg).1 mR (h a) (h b) (by rw [star_cons hs.1, star_cons hs.2]; rfl) (star_cons hs.2)
      · exact piBad
    · split
      · rename_i hc
        simp only [Bool.and_eq_true, decide_eq_true_eq] at hc
        obtain ⟨hg, rfl⟩ := hc
        split
        · rename_i hs
          simp only [Bool.and_eq_true] at hs
          obtain ⟨⟨h1, h2⟩, h3⟩ := hs
          cases tg with
          | Tuple elts kk tp => exact i_zip (ok.gl hg).1 mZ (h a) (h b) (star_cons h1) (star_cons h2) (star_any (es := [b]) (by simp [h2]))
          | _ => simp [isTupE] at h3
        · exact piBad
      · exact i_val (h _)
  · split
    · exact ⟨piBad, fun _ => rfl⟩
    · rename_i hs
      split
      · rename_i hc
        simp only [Bool.and_eq_true, Bool.not_eq_true'] at hc
        exact ⟨i_valO (ok.itf hc.1.2) (h _), fun e => absurd e hs⟩
      · exact ⟨i_val (h _), fun e => absurd e hs⟩
theorem e_cmp (ok : XOk Γ L call k N sc X) (tk : L2N.Takes X W) (h : ∀ e, PE X e (GoodE L X.K W (fe e))) (a : Expr) (ops : List CmpOp) (bs : List Expr) : PE X (.Compare a ops bs pos) (GoodE L X.K W (evCmp Γ call fe a ops bs)) ∧ PT X (.Compare a ops bs pos) (GoodT L X.K W (tE (evCmp Γ call fe a ops bs))) := by
  have bad : ∀ {e : Expr}, PT X e (GoodT L X.K W (tE eBad)) := fun {e} => ptNo fun σ H Q ⟨f, ρ, h, _, _, p⟩ => p
  unfold evCmp
  split
  · rename_i op b
    split
    · exact ⟨peBad, bad⟩
    · rename_i hm
      have hm : behindInMarks op b = false := by simpa using hm
      split
      · exact ⟨s_in ok.units false tk ok.cls ok.fn (h a) (h b) hm, t_in ok.units false tk ok.cls ok.fn (h a) (h b) hm⟩
      · exact ⟨s_in ok.units true tk ok.cls ok.fn (h a) (h b) hm, t_in ok.units true tk ok.cls ok.fn (h a) (h b) hm⟩
      · exact ⟨s_cmp ok.units (h a) (h b) hm, t_cmp ok.units (h a) (h b) hm⟩
  · rename_i op op' b c
    split
    · exact ⟨peBad, bad⟩
    · rename_i hm
      have hm : lastMarks [op, op'] [b, c] = false := by simpa using hm
      refine ⟨s_chain ok.units (h a) (h b) (h c) hm, ?_⟩
      refine t_of_val (pt_chain (scmp (L := L) ok.units op) (scmp (L := L) ok.units op') (h a) (h b) (h c) hm) (fun σ H Q G => ?_) (fun ρ h x h1 e => chain_bl e)
      -- the value's own reading
      obtain ⟨f, ρ, hh, S, E, p⟩ := G
      refine ⟨f, ρ, hh, S, E, (PostG.bind (R := RV L X.K) p).imp fun x' H1 ⟨f1, x, h1, e1, X1, S1, R1, p1⟩ => ?_⟩
      refine ⟨f1, ρ, h1, S1, E.mono S X1, (PostG.bind (R := RV L X.K) p1).imp fun y' H2 ⟨f2, y, h2, e2, X2, S2, R2, p2⟩ => ?_⟩
      refine ⟨f2, h2, x, y, S2, R1.mono S1 X2, R2, ((PostG.bind (R := RV L X.K) p2).nox (cmpR_nox _ _ _ _)).imp fun z' H3 ⟨f3, z, h3, e3, X3, S3, R3, p3⟩ => ?_⟩
      obtain ⟨kk, rfl⟩ := cmpR_bl e3
      obtain rfl := rv_bl R3
      refine ⟨kk, rfl, ?_⟩
      cases kk with
      | true =>
        rw [if_pos rfl]
        refine ⟨f3, ρ, h3, S3, ((E.mono S X1).mono S1 X2).mono S2 X3, (PostG.bind (R := RV L X.K) p3).imp fun w' H4 ⟨f4, w, h4, e4, X4, S4, R4, p4⟩ => ?_⟩
        exact ⟨f4, h4, y, w, S4, (R2.mono S2 X3).mono S3 X4, R4, p4.nox (cmpR_nox _ _ _ _)⟩
      | false =>
        rw [if_neg Bool.false_ne_true]
        exact now S3 (mk_bl _) p3
  · exact ⟨peBad, bad⟩
theorem e_sub (hu : X.A.units + 65 < cLine) (tk : L2N.Takes X W) (CF : ∀ c C, Γ.cls.lookup c = some C → ClF L X.K c C) (MF : ∀ g D, Γ.fns.lookup g = some D → FnF L X Γ call g D) (h : ∀ e, PE X e (GoodE L X.K W (fe e))) (a b : Expr) : PE X (.Subscript a b pos) (GoodE L X.K W (evSub Γ call fe a b)) := by
  have two : ∀ b : Expr, PlainIx b → PlainI2 b → PE X (.Subscript a b pos) (GoodE L X.K W (if Γ.own then eIdxM Γ call (fe a) (fe b) else eIdx (fe a) (fe b))) := fun b h1 h2 => by
    split
    · exact s_idxM hu tk CF MF (h a) (h b) h1 h2
    · exact s_idx hu (h a) (h b) h1
  have po : ∀ o : Option Expr, PO X o (GoodO L X.K W (evO fe o)) := fun o => by
    cases o with
    | none => exact o_none
    | some e => exact o_some (h e)
  cases b with
  | Slice lo hi st p =>
    cases st with
    | none => exact s_slice (h a) (po lo) (po hi)
    | some s =>
      show PE X _ (GoodE L X.K W (evRev fe a lo hi s))
      unfold evRev
      split
      · exact s_rev (h a)
      · exact peBad
  | _ => exact two _ (plain_ix rfl) (plain_i2 rfl)
theorem e_lc (ok : XOk Γ L call k N sc X) (n : Nat) (ih : ∀ (sc : Scope) (X : Cx), XOk Γ L call k N sc X → ∀ W, L2N.Takes X W → ∀ e, PE X e (GoodE L X.K W (ev Γ call N n sc e).1) ∧ PT X e (GoodT L X.K W (ev Γ call N n sc e).2)) (tk : L2N.Takes X W)
    (elt : Expr) (gens : List Comprehension) (scope : Scope) : PE X (.ListComp elt gens scope pos) (GoodE L X.K W (evLc Γ N (ev Γ call N n) sc elt gens scope)) ∧
      ∀ {i : Nat} {y : Str} {py spos : Pos}, X.N[i]? = some y → X.env.scope.names.lookup y = some .local → swapsWith (.ListComp elt gens scope pos) (some (.Name y py)) spos.line X.env = pure true →
        PS X (.Assign [.Name y py] (.ListComp elt gens scope pos) spos) (GoodS L X.K W (sSet i (evLc Γ N (ev Γ call N n) sc elt gens scope))) := by
  have badS : ∀ {st : Stmt} {i : Nat}, PS X st (GoodS L X.K W (sSet i eBad)) := fun {st i} => psNo fun D σ H ⟨f, ρ, h, _, _, p⟩ => p
  unfold evLc
  split
  · rename_i tg iter ifs isa
    split
    · rename_i t et
      split
      · rename_i hc
        simp only [Bool.and_eq_true, decide_eq_true_eq] at hc
        obtain ⟨⟨⟨⟨hh, rfl⟩, hb⟩, hv⟩, hl⟩ := hc
        have hh : Γ.hot = false := by simpa using hh
        have calm := ok.calm hh
        have hN := ok.hN
        have hi := i_iter ok (fun e => (ih sc X ok W tk e).1) tg iter
        have bo : BlkOk X.N X.env.scope scope (ownOf N scope) := by rw [ok.hN, ok.hsc]; exact blkOk_by hb
        have hvs : ∀ j ∈ tgS t, j ∈ (ownOf N scope).map (·.2) := fun j hj => by
          have := List.all_eq_true.mp hv j hj
          simpa using this
        have hg : ∀ (s : Shared) (H : Hp) (C : Addr) (cl : List (Str × Addr)) (fp : List Addr), PG (X.blk s H scope (compEnvC scope cl C X.env) fp) tg (GoodG L X.K t) := fun s H C cl fp => by
          refine tg_ok (X := X.blk s H scope (compEnvC scope cl C X.env) fp) (sc := scope) ok.hN ok.nd (.inl calm) (fun x hx => ?_) 5 t et
          have keep : ∀ kd, kd ≠ NameKind.free → scope.names.lookup x = some kd → (compEnvC scope cl C X.env).scope.names.lookup x = some kd := fun kd nf e => lookup_relS_keep (sc := X.env.scope) nf e
          cases e : scope.names.lookup x with
          | none => rw [e] at hx; simp [locK] at hx
          | some kd =>
            rw [e] at hx
            cases kd with
            | «local» => exact ⟨.inl (keep _ (by decide) e), .inr (keep _ (by decide) e)⟩
            | cell => exact ⟨.inr (keep _ (by decide) e), .inl (by show (scope.names.lookup x == some NameKind.cell) = true; rw [e]; rfl)⟩
            | free => simp [locK] at hx
            | globalExplicit => simp [locK] at hx
            | globalImplicit => simp [locK] at hx
        have hE := fun (s : Shared) (H : Hp) (C : Addr) (cl : List (Str × Addr)) (fp : List Addr) (e : Expr) => ih (relS scope sc) (X.blk s H scope (compEnvC scope cl C X.env) fp) (ok.blk hh s H scope cl C fp) WF takesN e
        have ht : ∀ (s : Shared) (H : Hp) (C : Addr) (cl : List (Str × Addr)) (fp : List Addr), PTs (X.blk s H scope (compEnvC scope cl C X.env) fp) ifs (GoodT L X.K WF (evIfs (fun e => (ev Γ call N n (relS scope sc) e).2) ifs)) := fun s H C cl fp => by
          match ifs, hl with
          | [], _ => exact ts_nil
          | [c], _ => exact ts_one (hE s H C cl fp c).2
          | _ :: _ :: _, hl => simp at hl
        have he := fun (s : Shared) (H : Hp) (C : Addr) (cl : List (Str × Addr)) (fp : List Addr) => (hE s H C cl fp elt).1
        cases hsl : nameSlot Γ N sc iter with
        | some j =>
          have hnm : ∃ x p, iter = .Name x p ∧ slotOf N sc x = some j ∧ j ∉ L.xs := by
            cases iter with
            | Name x p =>
              simp only [nameSlot] at hsl
              cases hs : slotOf N sc x with
              | none => rw [hs] at hsl; cases hsl
              | some i =>
                rw [hs] at hsl
                dsimp only at hsl
                split at hsl
                · cases hsl
                · rename_i hx
                  cases hsl
                  exact ⟨x, p, rfl, hs, by rw [ok.xsL]; simpa using hx⟩
            | _ => cases hsl
          obtain ⟨x, p, rfl, hj, hxj⟩ := hnm
          obtain ⟨v1, v2, v3, v4⟩ := ok.slot hj
          have pv : PE X (.Name x p) (GoodE L X.K W (eVar j)) := s_var hxj v1 v2 v3 v4
          refine ⟨s_lcN (s_lc calm (by rw [hN]; exact ok.nd) (i_key pv) bo hvs hg ht he (folded_ok rfl)) (s_lc calm (by rw [hN]; exact ok.nd) (i_val pv) bo hvs hg ht he (folded_ok rfl)), fun hy hyl hsw => ?_⟩
          exact st_lcN (st_setLc calm (by rw [hN]; exact ok.nd) hy hyl hsw (i_key pv) bo hvs hg ht he (folded_ok rfl)) (st_setLc calm (by rw [hN]; exact ok.nd) hy hyl hsw (i_val pv) bo hvs hg ht he (folded_ok rfl))
        | none =>
        show _ ∧ _
        unfold lcBy
        dsimp only
        cases hset : isSetE iter with
        | true =>
          have eb := hi.2 hset
          rw [eb]
          refine ⟨peNo fun σ H Q ⟨f, ρ, h, _, _, p⟩ => p, fun _ _ _ => psNo fun D σ H ⟨f, ρ, h, _, _, p⟩ => p⟩
        | false =>
          refine ⟨s_lc calm (by rw [hN]; exact ok.nd) hi.1 bo hvs hg ht he (folded_ok hset), fun hy hyl hsw => ?_⟩
          exact st_setLc calm (by rw [hN]; exact ok.nd) hy hyl hsw hi.1 bo hvs hg ht he (folded_ok hset)
      · exact ⟨peBad, fun _ _ _ => badS⟩
    · exact ⟨peBad, fun _ _ _ => badS⟩
  · exact ⟨peBad, fun _ _ _ => badS⟩
theorem e_dc (ok : XOk Γ L call k N sc X) (n : Nat) (ih : ∀ (sc : Scope) (X : Cx), XOk Γ L call k N sc X → ∀ W, L2N.Takes X W → ∀ e, PE X e (GoodE L X.K W (ev Γ call N n sc e).1) ∧ PT X e (GoodT L X.K W (ev Γ call N n sc e).2)) (tk : L2N.Takes X W)
    (kx vx : Expr) (gens : List Comprehension) (scope : Scope) : PE X (.DictComp kx vx gens scope pos) (GoodE L X.K W (evDc Γ N (ev Γ call N n) sc kx vx gens scope)) ∧
      ∀ {i : Nat} {y : Str} {py spos : Pos}, X.N[i]? = some y → X.env.scope.names.lookup y = some .local → swapsWith (.DictComp kx vx gens scope pos) (some (.Name y py)) spos.line X.env = pure true →
        PS X (.Assign [.Name y py] (.DictComp kx vx gens scope pos) spos) (GoodS L X.K W (sSet i (evDc Γ N (ev Γ call N n) sc kx vx gens scope))) := by
  have badS : ∀ {st : Stmt} {i : Nat}, PS X st (GoodS L X.K W (sSet i eBad)) := fun {st i} => psNo fun D σ H ⟨f, ρ, h, _, _, p⟩ => p
  unfold evDc
  split
  · rename_i tg iter ifs isa
    split
    · rename_i t et
      split
      · rename_i hc
        simp only [Bool.and_eq_true, decide_eq_true_eq] at hc
        obtain ⟨⟨⟨⟨hh, rfl⟩, hb⟩, hv⟩, hl⟩ := hc
        have hh : Γ.hot = false := by simpa using hh
        have calm := ok.calm hh
        have hN := ok.hN
        have hi := i_iter ok (fun e => (ih sc X ok W tk e).1) tg iter
        have bo : BlkOk X.N X.env.scope scope (ownOf N scope) := by rw [ok.hN, ok.hsc]; exact blkOk_by hb
        have hvs : ∀ j ∈ tgS t, j ∈ (ownOf N scope).map (·.2) := fun j hj => by
          have := List.all_eq_true.mp hv j hj
          simpa using this
        have hg : ∀ (s : Shared) (H : Hp) (C : Addr) (cl : List (Str × Addr)) (fp : List Addr), PG (X.blk s H scope (compEnvC scope cl C X.env) fp) tg (GoodG L X.K t) := fun s H C cl fp => by
          refine tg_ok (X := X.blk s H scope (compEnvC scope cl C X.env) fp) (sc := scope) ok.hN ok.nd (.inl calm) (fun x hx => ?_) 5 t et
          have keep : ∀ kd, kd ≠ NameKind.free → scope.names.lookup x = some kd → (compEnvC scope cl C X.env).scope.names.lookup x = some kd := fun kd nf e => lookup_relS_keep (sc := X.env.scope) nf e
          cases e : scope.names.lookup x with
          | none => rw [e] at hx; simp [locK] at hx
          | some kd =>
            rw [e] at hx
            cases kd with
            | «local» => exact ⟨.inl (keep _ (by decide) e), .inr (keep _ (by decide) e)⟩
            | cell => exact ⟨.inr (keep _ (by decide) e), .inl (by show (scope.names.lookup x == some NameKind.cell) = true; rw [e]; rfl)⟩
            | free => simp [locK] at hx
            | globalExplicit => simp [locK] at hx
            | globalImplicit => simp [locK] at hx
        have hE := fun (s : Shared) (H : Hp) (C : Addr) (cl : List (Str × Addr)) (fp : List Addr) (e : Expr) => ih (relS scope sc) (X.blk s H scope (compEnvC scope cl C X.env) fp) (ok.blk hh s H scope cl C fp) WF takesN e
        have ht : ∀ (s : Shared) (H : Hp) (C : Addr) (cl : List (Str × Addr)) (fp : List Addr), PTs (X.blk s H scope (compEnvC scope cl C X.env) fp) ifs (GoodT L X.K WF (evIfs (fun e => (ev Γ call N n (relS scope sc) e).2) ifs)) := fun s H C cl fp => by
          match ifs, hl with
          | [], _ => exact ts_nil
          | [c], _ => exact ts_one (hE s H C cl fp c).2
          | _ :: _ :: _, hl => simp at hl
        have hk := fun (s : Shared) (H : Hp) (C : Addr) (cl : List (Str × Addr)) (fp : List Addr) => (hE s H C cl fp kx).1
        have he := fun (s : Shared) (H : Hp) (C : Addr) (cl : List (Str × Addr)) (fp : List Addr) => (hE s H C cl fp vx).1
        cases hset : isSetE iter with
        | true =>
          have eb := hi.2 hset
          rw [eb]
          refine ⟨peNo fun σ H Q ⟨f, ρ, h, _, _, p⟩ => p, fun _ _ _ => psNo fun D σ H ⟨f, ρ, h, _, _, p⟩ => p⟩
        | false =>
          refine ⟨s_dc calm (by rw [hN]; exact ok.nd) hi.1 bo hvs hg ht hk he (folded_ok hset), fun hy hyl hsw => ?_⟩
          exact st_setDc calm (by rw [hN]; exact ok.nd) hy hyl hsw hi.1 bo hvs hg ht hk he (folded_ok hset)
      · exact ⟨peBad, fun _ _ _ => badS⟩
    · exact ⟨peBad, fun _ _ _ => badS⟩
  · exact ⟨peBad, fun _ _ _ => badS⟩
/-- THE EXPRESSIONS -/
theorem sE : ∀ (n : Nat) (sc : Scope) (X : Cx), XOk Γ L call k N sc X → ∀ W, L2N.Takes X W → ∀ e, PE X e (GoodE L X.K W (ev Γ call N n sc e).1) ∧ PT X e (GoodT L X.K W (ev Γ call N n sc e).2)
  | 0, sc, X, ok, W, tk, e => ⟨peBad, ptBad⟩
  | n + 1, sc, X, ok, W, tk, e => by
    have ih := sE n
    have h : ∀ e, PE X e (GoodE L X.K W (ev Γ call N n sc e).1) := fun e => (ih sc X ok W tk e).1
    have ht : ∀ e, PT X e (GoodT L X.K W (ev Γ call N n sc e).2) := fun e => (ih sc X ok W tk e).2
    have v : PE X e (GoodE L X.K W (ev1 Γ call N (ev Γ call N n) sc e)) := by
      cases e with
      | Constant c j p =>
        cases c with
        | none => exact s_non
        | bool b => exact s_bl
        | int i => exact s_int
        | str x => exact s_str
        | _ => exact peBad
      | Name x p => exact e_name ok x
      | BinOp a op b p => exact s_bin (h a) (h b)
      | UnaryOp op a p =>
        cases op with
        | USub => exact s_neg (h a)
        | Not => exact s_not (h a)
        | _ => exact peBad
      | BoolOp op vs p =>
        cases op with
        | And => exact andL h vs
        | Or => exact orL h vs
      | Compare a ops bs p => exact (e_cmp ok tk h a ops bs).1
      | IfExp c a b p => exact s_if (ht c) (h a) (h b)
      | Tuple es kk p =>
        simp only [ev1]
        split
        · rename_i hs; exact s_tup (paL h es hs)
        · exact peBad
      | List es p =>
        simp only [ev1]
        split
        · rename_i hs; exact s_lst (paL h es hs)
        · exact s_lst (paLS h es)
      | Subscript a b p => exact e_sub ok.units tk ok.cls ok.fn h a b
      | Dict ks vs p =>
        simp only [ev1]
        split
        · exact s_dic0
        · rename_i k ks
          split
          · rename_i hc
            simp only [Bool.and_eq_true, decide_eq_true_eq] at hc
            obtain ⟨⟨h1, h2⟩, h3⟩ := hc
            obtain ⟨trs, p1, p2⟩ := ppL (pos := p) h (k :: ks) vs h1 h2
            exact s_disp p1 p2 h1 h2 (by simp) h3
          · exact peBad
        · exact peBad
      | Attribute a x p =>
        simp only [ev1]
        split
        · rename_i i ei
          obtain ⟨hh, y, py, rfl, pe⟩ := xSlot_pe ok ei
          exact s_xf ok.xcf (ok.hotp hh) pe
        · split
          · rename_i hs
            rw [Bool.and_eq_true] at hs
            refine s_attr (h a) ok.cls (fun c C g ec ep => ?_) (ok.calm (by simpa using hs.2)) (base_of hs.1)
            obtain ⟨D, d1, d2, d3, d4⟩ := ok.prop c C x g ec ep
            exact ⟨D, ok.fn g D d1, d2, d3, d4⟩
          · exact peBad
      | ListComp elt gens scope p => exact (e_lc ok n ih tk elt gens scope).1
      | DictComp kx vx gens scope p => exact (e_dc ok n ih tk kx vx gens scope).1
      | Call f args kws p =>
        cases f with
        | Name x p1 => exact e_callE ok tk h x args kws
        | Attribute o m apos => exact e_methT ok tk h o m args kws
        | _ => exact peBad
      | _ => exact peBad
    refine ⟨v, ?_⟩
    show PT X e (GoodT L X.K W (evT1 Γ call N (ev Γ call N n) sc e))
    cases e with
    | UnaryOp op a p =>
      cases op with
      | Not => exact t_not (ht a)
      | USub => exact t_val v (fun _ => rfl)
      | UAdd => exact t_val v (fun _ => rfl)
      | Invert => exact t_val v (fun _ => rfl)
    | BoolOp op vs p =>
      cases op with
      | And => exact (andLT ht vs).pt
      | Or => exact (orLT ht vs).pt
    | IfExp c a b p => exact ptBad
    | Compare a ops bs p => exact (e_cmp ok tk h a ops bs).2
    | _ => exact t_val v (fun _ => rfl)
end
end Mp
set_option Elab.async false
set_option linter.all false
set_option maxRecDepth 100000
set_option maxHeartbeats 2000000
namespace Mp
open PySem PySem.Spec PyProof.Rows L2
/-! ### what does not hang on the handled exception -/
section
variable {L L' : Lk} {K : PySem.W.Frag} {f : Nm} {H : Hp}
mutual
theorem RV_L (hF : L.F = L'.F) : ∀ (t : Val) (v : V), RV L K f H t v → RV L' K f H t v
  | .non, _, e => e
  | .bl _, _, e => e
  | .int _, _, e => e
  | .str _, _, e => e
  | .ref _, _, e => e
  | .fn g, v, e => by unfold RV at e ⊢; rw [← hF]; exact e
  | .exn _ _, _, e => e
  | .tup ts, v, e => by
    unfold RV at e ⊢
    obtain ⟨a, vs, e1, e2, e3⟩ := e
    exact ⟨a, vs, e1, e2, RVs_L hF ts vs e3⟩
theorem RVs_L (hF : L.F = L'.F) : ∀ (ts : List Val) (vs : List V), RVs L K f H ts vs → RVs L' K f H ts vs
  | [], _, e => e
  | t :: ts, vs, e => by
    unfold RVs at e ⊢
    obtain ⟨v, r, e1, e2, e3⟩ := e
    exact ⟨v, r, e1, RV_L hF t v e2, RVs_L hF ts r e3⟩
end
theorem RFs_L {κ : Type} (hF : L.F = L'.F) {fs : List (κ × Val)} {gs : List (κ × V)} (r : RFs L K f H fs gs) : RFs L' K f H fs gs := ⟨r.1, RVs_L hF _ _ r.2⟩
theorem Sim_L {h : Mem} (hF : L.F = L'.F) (hC : L.C = L'.C) (S : Sim L K f h H) : Sim L' K f h H :=
  ⟨S.inj, S.has, fun n a e => by
    obtain ⟨o, q, r⟩ := S.at_ n a e
    refine ⟨o, q, ?_⟩
    cases o with
    | lst xs => obtain ⟨vs, q, z⟩ := r; exact ⟨vs, q, RVs_L hF _ _ z⟩
    | ins c fs => obtain ⟨dx, gs, q, z⟩ := r; exact ⟨dx, gs, by rw [← hC]; exact q, RFs_L hF z⟩
    | rol xs => obtain ⟨o, vs, q, z⟩ := r; exact ⟨o, vs, q, RVs_L hF _ _ z⟩
    | dic kvs => obtain ⟨gs, q, z⟩ := r; exact ⟨gs, q, RFs_L hF z⟩
    | frd kvs => obtain ⟨o, gs, q, z⟩ := r; exact ⟨o, gs, q, RFs_L hF z⟩⟩
theorem RX_L (hF : L.F = L'.F) (hC : L.C = L'.C) {c : Str} {fs : List (Str × Val)} {cls : Value} {d : Option Addr} (r : RX L K f H c fs cls d) : RX L' K f H c fs cls d := by
  obtain ⟨e, q⟩ := r
  refine ⟨by rw [← hC]; exact e, ?_⟩
  rcases q with q | ⟨a, gs, ed, ea, r1⟩
  · exact .inl q
  · exact .inr ⟨a, gs, ed, ea, RFs_L hF r1⟩
theorem PostG_L (hF : L.F = L'.F) (hC : L.C = L'.C) {W : WX} {σ : L2.St} {Q : V → Hp → Prop} {r : Res Val} (p : PostG L K (RV L K) W f σ H Q r) : PostG L' K (RV L' K) W f σ H Q r := by
  cases r with
  | ok v h' => exact fun f' H' v' x S rv => p f' H' v' x (Sim_L hF.symm hC.symm S) (RV_L hF.symm _ _ rv)
  | exc c fs h' => exact fun f' H' cls d x S rx => p f' H' cls d x (Sim_L hF.symm hC.symm S) (RX_L hF.symm hC.symm rx)
  | bad => exact p
theorem EnvR_L {ρ : Env} {σ : L2.St} (hF : L.F = L'.F) (hC : L.C = L'.C) (hx : L.xs = L'.xs) (hp : L.p.1 = L'.p.1) (h1 : L.p.2.cls = L'.p.2.cls) (h2 : L.p.2.dict = L'.p.2.dict) (E : EnvR L K f H ρ σ) : EnvR L' K f H ρ σ :=
  ⟨E.len, fun i v e => by
    obtain ⟨v', q, r⟩ := E.at_ i v e
    refine ⟨v', q, ?_⟩
    rcases r with r | ⟨hi, c, fs, e1, e2, rx⟩
    · exact .inl (RV_L hF _ _ r)
    · exact .inr ⟨by rw [← hx]; exact hi, c, fs, e1, by rw [← hp]; exact e2, by rw [← h1, ← h2]; exact RX_L hF hC rx⟩⟩
theorem PostS_L (hF : L.F = L'.F) (hC : L.C = L'.C) (hx : L.xs = L'.xs) (hp : L.p.1 = L'.p.1) (h1 : L.p.2.cls = L'.p.2.cls) (h2 : L.p.2.dict = L'.p.2.dict) {W : WX} {D : Ends} {r : Res Fl} (p : PostS L K W D f H r) : PostS L' K W D f H r := by
  have eR : ∀ {f' : Nm} {H' : Hp} {ρ' : Env} {σ' : L2.St}, EnvR L' K f' H' ρ' σ' → EnvR L K f' H' ρ' σ' := fun {f' H' ρ' σ'} E => EnvR_L hF.symm hC.symm hx.symm hp.symm h1.symm h2.symm E
  cases r with
  | ok v h' =>
    cases v with
    | nx ρ => exact fun f' H' σ' y S E => p f' H' σ' y (Sim_L hF.symm hC.symm S) (eR E)
    | rt v => exact fun f' H' v' y S E => p f' H' v' y (Sim_L hF.symm hC.symm S) (RV_L hF.symm _ _ E)
    | bk ρ => exact fun f' H' σ' y S E => p f' H' σ' y (Sim_L hF.symm hC.symm S) (eR E)
    | ct ρ => exact fun f' H' σ' y S E => p f' H' σ' y (Sim_L hF.symm hC.symm S) (eR E)
    | xc ρ c fs => exact fun f' H' σ' cls d y S E rx => p f' H' σ' cls d y (Sim_L hF.symm hC.symm S) (eR E) (RX_L hF.symm hC.symm rx)
  | exc c fs h' => exact p
  | bad => exact p
theorem GoodS_L (hF : L.F = L'.F) (hC : L.C = L'.C) (hx : L.xs = L'.xs) (hp : L.p.1 = L'.p.1) (h1 : L.p.2.cls = L'.p.2.cls) (h2 : L.p.2.dict = L'.p.2.dict) {W : WX} {m : MS} {D : Ends} {σ : L2.St} (G : GoodS L K W m D σ H) : GoodS L' K W m D σ H := by
  obtain ⟨f, ρ, h, S, E, p⟩ := G
  exact ⟨f, ρ, h, Sim_L hF hC S, EnvR_L hF hC hx hp h1 h2 E, PostS_L hF hC hx hp h1 h2 p⟩
theorem ArgR_L {xs : List Nat} {ts : List Val} {vs : List V} (hF : L.F = L'.F) (hC : L.C = L'.C) (hp : L.p = L'.p) (r : ArgR L K xs f H ts vs) : ArgR L' K xs f H ts vs :=
  ⟨r.1, fun i t e => by
    obtain ⟨v, q, z⟩ := r.2 i t e
    refine ⟨v, q, ?_⟩
    rcases z with z | ⟨hi, c, fs, e1, e2, rx⟩
    · exact .inl (RV_L hF _ _ z)
    · exact .inr ⟨hi, c, fs, e1, by rw [← hp]; exact e2, by rw [← hp]; exact RX_L hF hC rx⟩⟩
theorem spF_L {n : Nat} {xs : List Nat} {m : List Val → Mem → Res Val} {vs : List V} {Q : VK} {E : XK} (hF : L.F = L'.F) (hC : L.C = L'.C) (hp : L.p = L'.p) (r : spF L K n xs m vs H Q E) : spF L' K n xs m vs H Q E := by
  obtain ⟨hl, f, h, ts, S, A, p⟩ := r
  exact ⟨hl, f, h, ts, Sim_L hF hC S, ArgR_L hF hC hp A, PostG_L hF hC p⟩
end
abbrev Lk.at (L : Lk) (p : Addr × Obj) : Lk := { L with p := p }
section
variable {L : Lk} {K : PySem.W.Frag} {f : Nm} {h : Mem} {H : Hp} {p : Addr × Obj}
theorem RV_to {t : Val} {v : V} (r : RV L K f H t v) : RV (L.at p) K f H t v := RV_L (L := L) (L' := L.at p) rfl _ _ r
theorem RV_of {t : Val} {v : V} (r : RV (L.at p) K f H t v) : RV L K f H t v := RV_L (L := L.at p) (L' := L) rfl _ _ r
theorem Sim_to (S : Sim L K f h H) : Sim (L.at p) K f h H := Sim_L (L := L) (L' := L.at p) rfl rfl S
theorem Sim_of (S : Sim (L.at p) K f h H) : Sim L K f h H := Sim_L (L := L.at p) (L' := L) rfl rfl S
theorem RX_to {c : Str} {fs : List (Str × Val)} {cls : Value} {d : Option Addr} (r : RX L K f H c fs cls d) : RX (L.at p) K f H c fs cls d := RX_L (L := L) (L' := L.at p) rfl rfl r
end
/-! ### try -/
def afterX (xs : List Nat) (r : Res Fl) : Res Fl := match r with
  | .ok (.nx ρ) h => .ok (.nx (wipeE ρ xs)) h
  | .ok (.rt v) h => .ok (.rt v) h
  | .ok (.bk ρ) h => .ok (.bk (wipeE ρ xs)) h
  | .ok (.ct ρ) h => .ok (.ct (wipeE ρ xs)) h
  | _ => .bad
def subX (Γ : Pg) (x c : Str) : Option Bool := (Γ.xcl.lookup c).map fun D => D.sup.contains x
/-- try: b  except x as (the place i): su -/
def sTry (sub : Str → Option Bool) (xs : List Nat) (i : Nat) (b su : MS) : MS := fun ρ h => match b ρ h with
  | .ok (.xc ρ' c fs) h' => (match sub c with
    | some true => afterX xs (su ((wipeE ρ' xs).set i (some (.exn c fs))) h')
    | some false => .ok (.xc ρ' c fs) h'
    | none => .bad)
  | r => r
theorem wipeE_get : ∀ (xs : List Nat) (ρ : Env) (j : Nat) (v : Val), (wipeE ρ xs)[j]? = some (some v) → j ∉ xs ∧ ρ[j]? = some (some v)
  | [], ρ, j, v, e => ⟨by simp, e⟩
  | x :: xs, ρ, j, v, e => by
    unfold wipeE at e
    by_cases hj : x = j
    · subst hj
      by_cases hl : x < (wipeE ρ xs).length
      · rw [List.getElem?_set_self hl] at e
        cases e
      · rw [List.set_eq_of_length_le (by omega)] at e
        have := (List.getElem?_eq_some_iff.mp e).1
        omega
    · rw [List.getElem?_set_ne hj] at e
      obtain ⟨h1, h2⟩ := wipeE_get xs ρ j v e
      exact ⟨by simp [h1, Ne.symm hj], h2⟩
theorem wipeE_len (xs : List Nat) (ρ : Env) : (wipeE ρ xs).length = ρ.length := by
  induction xs with
  | nil => rfl
  | cons x xs ih => unfold wipeE; rw [List.length_set, ih]
section
variable {Γ : Pg} {L : Lk} {X : Cx} {W : WX} {x n : Str} {i : Nat} {body suite : List Stmt} {b₀ : Stmt} {np pos pos' : Pos} {mb ms : MS}
theorem st_try (hs : X.stack = X.env :: X.outer) (hf : X.env.frame = some X.env.locals) (hN : X.N.Nodup) (hi : X.N[i]? = some n) (hln : X.env.kindOf n = some .local) (hc : Names X x (.ref (L.C x))) (tk : L2N.Takes X W) (hix : i ∈ L.xs) (hlp : L.p.2.cls = Value.none)
    (hxx : ∃ Dx, Γ.xcl.lookup x = some Dx) (XF : ∀ c D, Γ.xcl.lookup c = some D → XcF L X.K Γ c D)
    (hb : ∀ (W : WX) (pn : List (Addr × Obj)) (xe : Value → Shared → Prop), L2N.Takes (X.tr pn xe) W → PassesOwn (model X.prog X.w) X.A X.env xe → PSs (X.tr pn xe) body (GoodS L X.K W mb))
    (hsu : ∀ (a : Addr) (oe : Obj) (pn : List (Addr × Obj)), L2H.Hot1 (X.A.mark (some (.ref a))) (a, oe) → PSs (X.suite a ((a, oe) :: pn)) (b₀ :: suite) (GoodS (L.at (a, oe)) X.K WF ms)) :
    PS X (.Try body [.ExceptHandler (some (.Name x np)) (some n) (b₀ :: suite) pos'] [] [] pos) (GoodS L X.K W (sTry (subX Γ x) L.xs i mb ms)) := by
  obtain ⟨Dx, hDx⟩ := hxx
  refine psImp (L2N.ps_try_as (tb := fun W' => GoodS L X.K W' mb) (ts := fun a cls d => GoodS (L.at (a, (⟨cls, d, .fields #[], #[]⟩ : Obj))) X.K WF ms) hs hf hN hi hln hc tk hb (fun a oe cls d pn hz hv => ?_)) fun D σ H ⟨f, ρ, h, S, E, p⟩ => ⟨f, ρ, h, S, E, ?_⟩
  · obtain ⟨vs, hv⟩ := hv
    have hot : L2H.Hot1 (X.A.mark (some (.ref a))) (a, oe) := ⟨rfl, vs, hv, hz.2.2 vs hv⟩
    exact pssImp (hsu a oe pn hot) fun D σ H G => GoodS_L (L := L.at (a, (⟨cls, d, .fields #[], #[]⟩ : Obj))) (L' := L.at (a, oe)) rfl rfl rfl rfl hz.1.symm hz.2.1.symm G
  · unfold sTry at p
    cases em : mb ρ h with
    | bad => rw [em] at p; exact p
    | exc c fs h' => rw [em] at p; exact p
    | ok fl h' =>
      rw [em] at p
      cases fl with
      | nx ρ' => exact p
      | rt v => exact p
      | bk ρ' => exact p
      | ct ρ' => exact p
      | xc ρ' c fs =>
        intro f' H' σ' cls d x1 S' E' rx
        dsimp only at p
        unfold subX at p
        cases eD : Γ.xcl.lookup c with
        | none => rw [eD] at p; exact absurd p id
        | some DD =>
          rw [eD] at p
          have F := XF c DD eD
          have ecls : cls = .ref (L.C c) := rx.1
          refine ⟨DD.sup.contains x, by rw [ecls]; exact F.exm x Dx hDx, fun hb a ha => ?_, fun hb => ?_⟩
          · simp only [Option.map_some, hb] at p
            -- the env that the suite starts in
            have noX : ∀ (j : Nat) v v', RVx L X.K f' H' j v v' → RV L X.K f' H' v v' := fun j v v' r => by
              rcases r with r | ⟨_, c', fs', _, _, r1, _⟩
              · exact r
              · rw [hlp] at r1; cases r1
            have E1 : EnvR (L.at (a, (⟨cls, d, .fields #[], #[]⟩ : Obj))) X.K f' H' ((wipeE ρ' L.xs).set i (some (.exn c fs))) (σ'.set i (some (.ref a))) := by
              refine ⟨by rw [List.length_set, List.length_set, wipeE_len, E'.len], fun j v e => ?_⟩
              by_cases hj : i = j
              · subst hj
                have hl : i < (wipeE ρ' L.xs).length := by
                  by_cases hl : i < (wipeE ρ' L.xs).length
                  · exact hl
                  · exfalso
                    rw [List.set_eq_of_length_le (by omega)] at e
                    have := (List.getElem?_eq_some_iff.mp e).1
                    omega
                rw [List.getElem?_set_self hl] at e
                cases e
                refine ⟨.ref a, by rw [List.getElem?_set_self (by rw [← E'.len, ← wipeE_len L.xs ρ']; exact hl)], .inr ⟨hix, c, fs, rfl, rfl, RX_to rx⟩⟩
              · rw [List.getElem?_set_ne hj] at e
                obtain ⟨_, e2⟩ := wipeE_get _ _ _ _ e
                obtain ⟨v', q, r⟩ := E'.at_ j v e2
                exact ⟨v', by rw [List.getElem?_set_ne hj]; exact q, .inl (RV_to (noX j v v' r))⟩
            refine ⟨f', _, h', Sim_to S', E1, ?_⟩
            -- the env behind the suite
            have back : ∀ {f2 : Nm} {H2 : Hp} {ρ2 : Env} {σ2 : L2.St}, EnvR (L.at (a, (⟨cls, d, .fields #[], #[]⟩ : Obj))) X.K f2 H2 ρ2 σ2 → EnvR L X.K f2 H2 (wipeE ρ2 L.xs) (σ2.set i none) := fun {f2 H2 ρ2 σ2} E2 => by
              refine ⟨by rw [List.length_set, wipeE_len, E2.len], fun j v e => ?_⟩
              obtain ⟨nj, e2⟩ := wipeE_get _ _ _ _ e
              obtain ⟨v', q, r⟩ := E2.at_ j v e2
              have hj : i ≠ j := fun z => nj (by rw [← z]; exact hix)
              refine ⟨v', by rw [List.getElem?_set_ne hj]; exact q, .inl ?_⟩
              rcases r with r | ⟨hh, _⟩
              · exact RV_of r
              · exact absurd hh nj
            unfold afterX at p
            have p := PostS.ext p x1
            cases es : ms ((wipeE ρ' L.xs).set i (some (.exn c fs))) h' with
            | bad => rw [es] at p; exact absurd p id
            | exc c fs h2 => rw [es] at p; exact absurd p id
            | ok fl2 h2 =>
              rw [es] at p
              cases fl2 with
              | nx ρ2 => exact fun f2 H2 σ2 x2 S2 E2 => p f2 H2 _ x2 (Sim_of S2) (back E2)
              | rt v => exact fun f2 H2 v2 x2 S2 r2 => p f2 H2 v2 x2 (Sim_of S2) (RV_of r2)
              | bk ρ2 => exact fun f2 H2 σ2 x2 S2 E2 => p f2 H2 _ x2 (Sim_of S2) (back E2)
              | ct ρ2 => exact fun f2 H2 σ2 x2 S2 E2 => p f2 H2 _ x2 (Sim_of S2) (back E2)
              | xc ρ2 c2 fs2 => exact absurd p id
          · simp only [Option.map_some, hb] at p
            exact p f' H' σ' cls d x1 S' E' rx
end
end Mp
set_option Elab.async false
set_option linter.all false
set_option maxRecDepth 100000
set_option maxHeartbeats 2000000
namespace Mp
open PySem PySem.Spec PyProof.Rows L2
/-! ### statements read off the syntax -/
def isCompE : Expr → Bool
  | .ListComp _ _ _ _ => true
  | .SetComp _ _ _ _ => true
  | .DictComp _ _ _ _ _ => true
  | _ => false
def isListCompE : Expr → Bool
  | .ListComp _ _ _ _ => true
  | .DictComp _ _ _ _ _ => true
  | _ => false
def evSs (self : Stmt → MS) : List Stmt → MS
  | [] => sSkip
  | s :: r => match r with
    | [] => self s
    | _ => sSeq (self s) (evSs self r)
def parOk (sc : Scope) (x y : Str) (px py : Pos) (a b : Expr) : Bool := decide (sc.names.lookup x = some .local) && decide (sc.names.lookup y = some .local) && !(decide (x = y)) && (py.line == px.line) && noStar a && noStar b && !([a, b].all (foldedForSure 8)) && !([a, b].all (constantsAlone 8)) && decide (sc.kind = .function)
/-- how deep expressions are read; how many turns a while may take -/
def eFuel : Nat := 40
def wFuel : Nat := 100000
section
variable (Γ : Pg) (call : CallT) (N : List Str) (sc : Scope)
def evX (e : Expr) : ME := (ev Γ call N (eFuel + 1) sc e).1
def evXT (e : Expr) : MT := (ev Γ call N (eFuel + 1) sc e).2
def evTup0 (ts : List Expr) (value : Expr) (tg : Expr) : MS := match ts, value with
  | [.Name x px, .Name y py], .Tuple [a, b] _ _ => if parOk sc x y px py a b then (match findIx N x, findIx N y with
    | some i, some j => sPar i j (evA (evX Γ call N sc) [a, b])
    | _, _ => sBad) else sBad
  | _, value => if isTupE value || isCompE value then sBad else (match tgOf N sc 5 tg with
    | some t => sAsg t (evX Γ call N sc value)
    | none => sBad)
def evTup (ts : List Expr) (value : Expr) (tg : Expr) : MS := if Γ.hot then sBad else evTup0 Γ call N sc ts value tg
def evAsg (t value : Expr) : MS := match t with
  | .Name x _ => if locK (sc.names.lookup x) && (isListCompE value || !isCompE value) then (match findIx N x with
    | some i => sSet i (evX Γ call N sc value)
    | none => sBad) else sBad
  | .Attribute o x _ => sSetAttr Γ x (evX Γ call N sc o) (evX Γ call N sc value)
  | .Subscript a b _ => if isSlice b then sBad else if Γ.own then sSetIdxM Γ call (evX Γ call N sc a) (evX Γ call N sc b) (evX Γ call N sc value) else sSetIdx (evX Γ call N sc a) (evX Γ call N sc b) (evX Γ call N sc value)
  | .Tuple ts _ _ => evTup Γ call N sc ts value t
  | _ => sBad
def evAug (t : Expr) (op : Operator) (value : Expr) : MS := match t with
  | .Name x _ => if locK (sc.names.lookup x) then (match findIx N x with
    | some i => if Γ.xs.contains i then sBad else sAug i op (evX Γ call N sc value)
    | none => sBad) else sBad
  | .Attribute o x _ => sAugAttr Γ x (evX Γ call N sc o) op (evX Γ call N sc value)
  | .Subscript a b _ => if isSlice b then sBad else sAugIdx (evX Γ call N sc a) (evX Γ call N sc b) op (evX Γ call N sc value)
  | _ => sBad
/-- for in a suite: over range(..) alone -/
def hotFor (tg iter : Expr) (els : List Stmt) : Bool := els.isEmpty && !isTupE tg && (match iter with
  | .Call (.Name x _) [a] [] _ => isGl sc x && decide (x = ("range" : Str)) && noStar a
  | _ => false)
def evRaise (e : Option Expr) (from_ : Option Expr) : MS := match e, from_ with
  | some (.Call (.Name c _) [a] [] _), none => if !Γ.hot && isGl sc c && noStar a then (match Γ.xcl.lookup c with
    | some D => if (Γ.xin.lookup D.init).isSome then sRaise (call D.init) c D.flds (aCons (evX Γ call N sc a) aNil) else sBad
    | none => sBad) else sBad
  | _, _ => sBad
def evTry (self hself : Stmt → MS) (body : List Stmt) (hs : List ExceptHandler) (els fin : List Stmt) : MS := match hs, els, fin with
  | [.ExceptHandler (some (.Name x _)) (some n) (b0 :: suite) _], [], [] => if !Γ.hot && isGl sc x && (Γ.xcl.lookup x).isSome && decide (sc.names.lookup n = some .local) then (match findIx N n with
    | some i => if Γ.xs.contains i then sTry (subX Γ x) Γ.xs i (evSs self body) (evSs hself (b0 :: suite)) else sBad
    | none => sBad) else sBad
  | _, _, _ => sBad
def evS1 (self hself : Stmt → MS) (st : Stmt) : MS := match st with
  | .Pass _ => sSkip
  | .Break _ => sBrk
  | .Continue _ => sCnt
  | .Return o _ => (match o with
    | none => sRetN
    | some e => sRet (evX Γ call N sc e))
  | .Expr e _ => if isCompE e then sBad else sExpr (evX Γ call N sc e)
  | .If c a b _ => sIf (evXT Γ call N sc c) (evSs self a) (evSs self b)
  | .Assign ts value _ => (match ts with
    | [t] => evAsg Γ call N sc t value
    | _ => sBad)
  | .AugAssign t op value _ => evAug Γ call N sc t op value
  | .For tg iter body els _ => if isSetE iter || (Γ.hot && !hotFor sc tg iter els) then sBad else (match tgOf N sc 5 tg with
    | some t => sFor t (evI Γ (evX Γ call N sc) sc tg iter) (evSs self body) (evSs self els)
    | none => sBad)
  | .Delete ts _ => (match ts with
    | [.Subscript a b _] => if isSlice b then sBad else sDelIdx (evX Γ call N sc a) (evX Γ call N sc b)
    | _ => sBad)
  | .While c body els _ => sWhile wFuel (evXT Γ call N sc c) (evSs self body) (evSs self els)
  | .Raise e f _ => evRaise Γ call N sc e f
  | .Try body hs els fin _ => evTry Γ N sc self hself body hs els fin
  | _ => sBad
end
/-- statements; cc: the calls (as they are | where an exception is handled) -/
def evSn (cc : Bool → CallT) (N : List Str) (sc : Scope) : Nat → Pg → Stmt → MS
  | 0, _, _ => sBad
  | n + 1, Γ, st => evS1 Γ (cc Γ.hot) N sc (evSn cc N sc n Γ) (evSn cc N sc n { Γ with hot := true }) st
abbrev evS (Γ : Pg) (cc : Bool → CallT) (N : List Str) (sc : Scope) (n : Nat) : Stmt → MS := evSn cc N sc n Γ
def fin (r : Res Fl) : Res Val := match r with
  | .ok (.nx _) h => .ok .non h
  | .ok (.rt v) h => .ok v h
  | .ok (.xc _ c fs) h => .exc c fs h
  | _ => .bad
@[simp] theorem fin_rt (v : Val) (h : Mem) : fin (.ok (.rt v) h) = .ok v h := rfl
@[simp] theorem fin_nx (ρ : Env) (h : Mem) : fin (.ok (.nx ρ) h) = .ok .non h := rfl
def startE (N : List Str) (vs : List Val) : Env := vs.map some ++ List.replicate (N.length - vs.length) none
def sFuel : Nat := 20
def runD (Γ : Pg) (cc : Bool → CallT) (D : FnD) (args : List Val) (h : Mem) : Res Val :=
  if args.length = D.ps.length then fin (evSs (evS Γ cc D.N D.sc sFuel) D.body (startE D.N args) h) else .bad
def initX (m : CallT) (args : List Val) (h : Mem) : Res Val := match args with
  | [v] => (m "copy_of" [v] h).bind fun y h => .ok (.tup [y]) h
  | _ => .bad
def callB (Γ : Pg) : Nat → Bool → CallT
  | 0 => fun _ _ _ _ => .bad
  | d + 1 => fun b g args h => match Γ.fns.lookup g with
    | none => if b then .bad else (match Γ.xin.lookup g with
      | some _ => initX (callB Γ d false) args h
      | none => .bad)
    | some D => runD { Γ with hot := b, xs := D.xs, own := D.own, it := D.it } (callB Γ d) D args h
/-- a call where nothing is handled -/
abbrev callF (Γ : Pg) (d : Nat) : CallT := callB Γ d false
section
variable {Γ : Pg} {L : Lk} {call : CallT} {k : Nat} {N : List Str} {sc : Scope} {X : Cx} {W : WX} {pos : Pos}
theorem psBad {st : Stmt} : PS X st (GoodS L X.K W sBad) := psNo fun D σ H ⟨f, ρ, h, _, _, p⟩ => p
theorem ssL {self : Stmt → MS} (h : ∀ st, PS X st (GoodS L X.K W (self st))) : ∀ sts : List Stmt, PSs X sts (GoodS L X.K W (evSs self sts))
  | [] => ss_nil
  | [s] => ss_one (h s)
  | s :: t :: r => ss_cons (h s) (ssL h (t :: r))
theorem sw_name {e : Expr} {t : Str} {p : Pos} {l : Nat} (h : isCompE e = false) : swapsWith e (some (.Name t p)) l X.env = pure false := by
  cases e <;> first | rfl | (simp [isCompE] at h)
theorem sw_none {e : Expr} {l : Nat} (h : isCompE e = false) : swapsWith e none l X.env = pure false := by
  cases e <;> first | rfl | (simp [isCompE] at h)
theorem sw_attr {e o : Expr} {x : Str} {p : Pos} {l : Nat} : swapsWith e (some (.Attribute o x p)) l X.env = pure false := by
  cases e <;> rfl
theorem sw_sub {e a b : Expr} {p : Pos} {l : Nat} : swapsWithSole [.Subscript a b p] e l X.env = pure false := by
  show swapsWith e (some (.Subscript a b p)) l X.env = pure false
  cases e <;> rfl
theorem sw_tup {e : Expr} {ts : List Expr} {kk : Nat} {p : Pos} {l : Nat} : swapsWithSole [.Tuple ts kk p] e l X.env = pure false := by
  show swapsWith e (some (.Tuple ts kk p)) l X.env = pure false
  cases e <;> rfl
theorem ss_none {e : Expr} {ts : List Expr} {kk : Nat} {p : Pos} (h : isTupE e = false) : swappedStores [.Tuple ts kk p] e X.env = pure none := by
  cases e <;> first | rfl | (simp [isTupE] at h)
theorem ss_sub {e a b : Expr} {p : Pos} : swappedStores [.Subscript a b p] e X.env = pure none := by
  cases e <;> rfl
theorem loc_hf (hsc : X.env.scope = sc) (hfn : ∀ x, X.fn x = true) : ∀ x, locK (sc.names.lookup x) = true → L2.Loc X.env.scope x ∧ (X.fn x = true ∨ X.env.scope.names.lookup x = some .local) := fun x h =>
  ⟨by rw [hsc]; exact locK_of rfl h, .inl (hfn x)⟩
theorem swap2 {env : PySem.Env} {x y : Str} {px py p pt : Pos} {a b : Expr} {kk k2 : Nat} (kx : env.kindOf x = some .local) (ky : env.kindOf y = some .local) (bk : env.blockKind = .function) (na : noStar a = true) (nb : noStar b = true) (hxy : ¬ x = y) (hl : (py.line == px.line) = true) (hf : [a, b].all (foldedForSure 8) = false) (hk : [a, b].all (constantsAlone 8) = false) :
    swappedStores [.Tuple [.Name x px, .Name y py] kk p] (.Tuple [a, b] k2 pt) env = pure (some [x, y]) := by
  have ns : ([a, b].any fun | .Starred .. => true | _ => false) = false := by
    have e : ∀ e : Expr, noStar e = true → (match e with | .Starred .. => true | _ => false) = false := fun e he => by
      cases e <;> first | rfl | (simp [noStar] at he)
    simp only [List.any_cons, List.any_nil, e a na, e b nb]
    rfl
  have hfm : ([Expr.Name x px, Expr.Name y py].filterMap fun
      | .Name id pos => if env.kindOf id == some .local && pos.line == px.line then some id else none
      | _ => none) = [x, y] := by
    simp [kx, ky, beq_iff_eq.mp hl]
  have hed : ([x, y] : List Str).eraseDups.length = 2 := by
    have : (y == x) = false := by simpa using fun e => hxy e.symm
    simp [List.eraseDups_cons, this]
  unfold swappedStores
  simp only [bk, List.length_cons, List.length_nil, hf, hk]
  refine (if_neg (by decide)).trans ((if_neg (fun hh => Bool.noConfusion (ns.symm.trans hh))).trans ((if_neg (fun hh => ?_)).trans ?_))
  · have h2 : (([x, y] : List Str).length != 0 + 1 + 1 || ([x, y] : List Str).eraseDups.length != ([x, y] : List Str).length) = true := hfm ▸ hh
    rw [hed] at h2
    simp at h2
  · exact congrArg (fun l => (pure (some l) : Sem (Option (List Str)))) hfm
theorem st_assign (ok : XOk Γ L call k N sc X) (tk : L2N.Takes X W) (hfn : ∀ x, X.fn x = true) (t value : Expr) : PS X (.Assign [t] value pos) (GoodS L X.K W (evAsg Γ call N sc t value)) := by
  have h : ∀ e, PE X e (GoodE L X.K W (evX Γ call N sc e)) := fun e => (sE (eFuel + 1) sc X ok W tk e).1
  have nd : X.N.Nodup := by rw [ok.hN]; exact ok.nd
  have hf := loc_hf ok.hsc hfn
  cases t with
  | Name x p =>
    simp only [evAsg]
    split
    · rename_i hc
      rw [Bool.and_eq_true] at hc
      split
      · rename_i i hi
        have hi' : X.N[i]? = some x := by rw [ok.hN]; exact findIx_get hi
        have go : ∀ {e : Expr}, swapsWith e (some (.Name x p)) pos.line X.env = pure false → PS X (.Assign [.Name x p] e pos) (GoodS L X.K W (sSet i (evX Γ call N sc e))) := fun {e} hs => st_set nd hi' (hf x hc.1).1 (h e) hs (hf x hc.1).2
        by_cases hv : isCompE value = false
        · exact go (sw_name hv)
        · cases value with
          | ListComp elt gens scope vp =>
            have sw : swapsWith (.ListComp elt gens scope vp) (some (.Name x p)) pos.line X.env = pure (X.env.blockKind == .function && X.env.kindOf x == some .local && p.line == vp.line && !(scope.names.any fun (n, k) => n == x && (k == .local || k == .cell))) := rfl
            cases hb : (X.env.blockKind == .function && X.env.kindOf x == some .local && p.line == vp.line && !(scope.names.any fun (n, k) => n == x && (k == .local || k == .cell))) with
            | false => rw [hb] at sw; exact go sw
            | true =>
              rw [hb] at sw
              simp only [Bool.and_eq_true] at hb
              have hl : X.env.scope.names.lookup x = some .local := by
                have := hb.1.1.2
                exact beq_iff_eq.mp this
              exact (e_lc ok eFuel (sE eFuel) tk elt gens scope).2 hi' hl sw
          | DictComp kx vx gens scope vp =>
            have sw : swapsWith (.DictComp kx vx gens scope vp) (some (.Name x p)) pos.line X.env = pure (X.env.blockKind == .function && X.env.kindOf x == some .local && p.line == vp.line && !(scope.names.any fun (n, k) => n == x && (k == .local || k == .cell))) := rfl
            cases hb : (X.env.blockKind == .function && X.env.kindOf x == some .local && p.line == vp.line && !(scope.names.any fun (n, k) => n == x && (k == .local || k == .cell))) with
            | false => rw [hb] at sw; exact go sw
            | true =>
              rw [hb] at sw
              simp only [Bool.and_eq_true] at hb
              have hl : X.env.scope.names.lookup x = some .local := by
                have := hb.1.1.2
                exact beq_iff_eq.mp this
              exact (e_dc ok eFuel (sE eFuel) tk kx vx gens scope).2 hi' hl sw
          | _ => simp [isCompE, isListCompE] at hv hc
      · exact psBad
    · exact psBad
  | Attribute o x p => exact st_setAttr ok.cls (h o) (h value) sw_attr
  | Subscript a b p =>
    simp only [evAsg]
    split
    · exact psBad
    · rename_i hs
      have hs : isSlice b = false := by simpa using hs
      split
      · refine st_setIdxM ok.units tk ok.cls ok.fn (h a) (h b) (h value) sw_sub ss_sub ?_
        intro v
        cases b <;> first | rfl | (simp [isSlice] at hs)
      · refine st_setIdx ok.units (h a) (h b) (h value) sw_sub ss_sub ?_
        intro v
        cases b <;> first | rfl | (simp [isSlice] at hs)
  | Tuple ts kk p =>
    simp only [evAsg, evTup]
    split
    · exact psBad
    rename_i hhot
    have calm := ok.calm (by simpa using hhot)
    unfold evTup0
    split
    · rename_i x px y py a b k2 pt2
      split
      · rename_i hp
        split
        · rename_i i j hi hj
          unfold parOk at hp
          simp only [Bool.and_eq_true, decide_eq_true_eq, Bool.not_eq_true', decide_eq_false_iff_not] at hp
          obtain ⟨⟨⟨⟨⟨⟨⟨⟨h1, h2⟩, h3⟩, h4⟩, h5⟩, h6⟩, h7⟩, h8⟩, h9⟩ := hp
          have hi' : X.N[i]? = some x := by rw [ok.hN]; exact findIx_get hi
          have hj' : X.N[j]? = some y := by rw [ok.hN]; exact findIx_get hj
          have hij : i ≠ j := fun e => by
            subst e
            rw [hi'] at hj'
            cases hj'
            exact h3 rfl
          refine st_par calm nd hi' hj' hij (by rw [ok.hsc]; exact h1) (by rw [ok.hsc]; exact h2) (paL h [a, b] (by simp [h5, h6])) ?_
          have kx : X.env.kindOf x = some .local := by show X.env.scope.names.lookup x = _; rw [ok.hsc]; exact h1
          have ky : X.env.kindOf y = some .local := by show X.env.scope.names.lookup y = _; rw [ok.hsc]; exact h2
          have bk : X.env.blockKind = .function := by
            unfold Env.blockKind
            rw [ok.hsc, h9]
            rfl
          exact swap2 kx ky bk h5 h6 h3 h4 h7 h8
        · exact psBad
      · exact psBad
    · split
      · exact psBad
      · rename_i hv
        have hv : isTupE value = false ∧ isCompE value = false := by simpa using hv
        split
        · rename_i t et
          exact st_asg (h value) (tg_ok ok.hN ok.nd (.inl calm) hf 5 t et) sw_tup (ss_none hv.1) rfl
        · exact psBad
  | _ => exact psBad
theorem st_augS (ok : XOk Γ L call k N sc X) (tk : L2N.Takes X W) (hfn : ∀ x, X.fn x = true) (t : Expr) (op : Operator) (value : Expr) : PS X (.AugAssign t op value pos) (GoodS L X.K W (evAug Γ call N sc t op value)) := by
  have h : ∀ e, PE X e (GoodE L X.K W (evX Γ call N sc e)) := fun e => (sE (eFuel + 1) sc X ok W tk e).1
  have nd : X.N.Nodup := by rw [ok.hN]; exact ok.nd
  have hf := loc_hf ok.hsc hfn
  cases t with
  | Name x p =>
    simp only [evAug]
    split
    · rename_i hc
      split
      · rename_i i hi
        split
        · exact psBad
        rename_i hx
        exact st_aug (by rw [ok.xsL]; simpa using hx) nd (by rw [ok.hN]; exact findIx_get hi) (hf x hc).1 (h value) (hf x hc).2
      · exact psBad
    · exact psBad
  | Attribute o x p => exact st_augAttr ok.cls (h o) (h value)
  | Subscript a b p =>
    simp only [evAug]
    split
    · exact psBad
    · rename_i hs
      have hs : isSlice b = false := by simpa using hs
      refine st_augIdx ok.units (h a) (h b) (h value) ?_
      intro ov iv new
      cases b <;> first | rfl | (simp [isSlice] at hs)
  | _ => exact psBad
/-- the contexts of statements -/
structure XOkS (Γ : Pg) (L : Lk) (cc : Bool → CallT) (k : Nat) (N : List Str) (sc : Scope) (X : Cx) : Prop where
  ok : XOk Γ L (cc Γ.hot) k N sc X
  pas : PassesOwn (model X.prog X.w) X.A X.env X.xe
  fnn : ∀ x, X.fn x = true
  stk : Γ.hot = false → X.stack = X.env :: X.outer ∧ X.env.frame = some X.env.locals
  calmp : Γ.hot = false → L.p.2.cls = Value.none
  rs : Γ.hot = false → ∀ c D, Γ.xcl.lookup c = some D → (Γ.xin.lookup D.init).isSome = true → RsF L X (cc false) c D
  hf : Γ.hot = false → ∀ (a : Addr) (oe : Obj) (pn : List (Addr × Obj)), L2H.Hot1 (X.A.mark (some (.ref a))) (a, oe) → ∀ g D, Γ.fns.lookup g = some D → FnF (L.at (a, oe)) (X.suite a ((a, oe) :: pn)) Γ (cc true) g D
theorem RsF.tr {L : Lk} {X : Cx} {call : CallT} {c : Str} {D : XcD} (R : RsF L X call c D) (pn : List (Addr × Obj)) (xe : Value → Shared → Prop) : RsF L (X.tr pn xe) call c D := by
  obtain ⟨⟨fI, fd, k, Da, fld, sf, pn', m, h⟩, hmg⟩ := R
  exact ⟨⟨fI, fd, k, Da, fld, sf, pn', m, h⟩, hmg⟩
theorem FnF.sh {L : Lk} {X : Cx} {Γ Γ' : Pg} {call : CallT} {g : Str} {D : FnD} (F : FnF L X Γ call g D) (e : Γ.shapes = Γ'.shapes) : FnF L X Γ' call g D := by
  obtain ⟨⟨fd, h1, h2, h3⟩, kp, fi⟩ := F
  exact ⟨⟨fd, h1, h2, by rw [← e]; exact h3⟩, kp, fi⟩
theorem XcF.re {L L' : Lk} {K : PySem.W.Frag} {Γ Γ' : Pg} {c : Str} {D : XcD} (F : XcF L K Γ c D) (hC : L.C = L'.C) (hx : Γ.xcl = Γ'.xcl) : XcF L' K Γ' c D := by
  have e1 : xnames Γ = xnames Γ' := by unfold xnames; rw [hx]
  have e2 : ∀ x, xval L Γ x = xval L' Γ' x := fun x => by unfold xval; rw [hx, hC]
  obtain ⟨a1, a2, a3, a4, a5, a6, a7, a8, a9, a10, a11, a12⟩ := F
  rw [hC] at a1 a2 a3 a4 a5 a8 a9
  refine ⟨a1, a2, a3, a4, a5, a6, a7, a8, a9, fun x h => ?_, fun x Dx h => ?_, fun f h => ?_⟩
  · rw [← e1] at h; rw [← hC, ← e2]; exact a10 x h
  · rw [← hx] at h; rw [← hC]; exact a11 x Dx h
  · rw [← hC]; exact a12 f h
theorem ClF.re {L L' : Lk} {K : PySem.W.Frag} {c : Str} {C : ClD} (F : ClF L K c C) (hC : L.C = L'.C) (hF : L.F = L'.F) : ClF L' K c C := by
  obtain ⟨a1, a2, a3, a4, a5, a6⟩ := F
  exact ⟨by rw [← hC]; exact a1, by rw [← hC, ← hF]; exact a2, by rw [← hC]; exact a3, by rw [← hC, ← hF]; exact a4, by rw [← hC, ← hF]; exact a5, by rw [← hC]; exact a6⟩
section
variable {cc : Bool → CallT}
theorem XOkS.tr (o : XOkS Γ L cc k N sc X) (hh : Γ.hot = false) (pn : List (Addr × Obj)) (xe : Value → Shared → Prop) (hp : PassesOwn (model X.prog X.w) X.A X.env xe) : XOkS Γ L cc k N sc (X.tr pn xe) where
  ok := ⟨o.ok.hN, o.ok.nd, o.ok.hsc, o.ok.calm, o.ok.room, o.ok.xsL, (fun z => by rw [hh] at z; cases z), o.ok.xcf, o.ok.xcg, fun g D e => (o.ok.fn g D e).calm (o.ok.calm hh) rfl rfl rfl rfl rfl rfl, (fun _ c C fld e1 e2 => (o.ok.itf hh c C fld e1 e2).calm rfl rfl rfl rfl rfl rfl), o.ok.top, o.ok.cls, o.ok.clg, o.ok.glob, o.ok.blt, o.ok.nob, o.ok.prop⟩
  pas := hp
  fnn := o.fnn
  stk := o.stk
  calmp := o.calmp
  rs := fun z c D e1 e2 => (o.rs z c D e1 e2).tr pn xe
  hf := fun z a oe pn' hot g D e => o.hf z a oe pn' hot g D e
theorem XOkS.suite (o : XOkS Γ L cc k N sc X) (hh : Γ.hot = false) (a : Addr) (oe : Obj) (pn : List (Addr × Obj)) (hot : L2H.Hot1 (X.A.mark (some (.ref a))) (a, oe)) : XOkS { Γ with hot := true } (L.at (a, oe)) cc k N sc (X.suite a ((a, oe) :: pn)) where
  ok := ⟨o.ok.hN, o.ok.nd, o.ok.hsc, (fun z => by cases z), ⟨o.ok.room.dp, o.ok.room.un⟩, o.ok.xsL, fun _ => ⟨hot, List.mem_cons_self ..⟩, fun c D e => (o.ok.xcf c D e).re rfl rfl, o.ok.xcg, fun g D e => (o.hf hh a oe pn hot g D e).sh rfl, (fun z => by cases z), o.ok.top, fun c C e => (o.ok.cls c C e).re rfl rfl, o.ok.clg,
    (fun x v e => by
      obtain ⟨v', u, h1, h2, h3, h4⟩ := o.ok.glob x v e
      exact ⟨v', u, h1, h2, fun f H => RV_to (h3 f H), h4⟩), o.ok.blt, o.ok.nob, o.ok.prop⟩
  pas := PassesOwn.never
  fnn := o.fnn
  stk := fun z => by cases z
  calmp := fun z => by cases z
  rs := fun z => by cases z
  hf := fun z => by cases z
end
/-- THE STATEMENTS -/
theorem sS {cc : Bool → CallT} : ∀ (n : Nat) (Γ : Pg) (L : Lk) (X : Cx) (W : WX), XOkS Γ L cc k N sc X → L2N.Takes X W → ∀ st : Stmt, PS X st (GoodS L X.K W (evS Γ cc N sc n st))
  | 0, Γ, L, X, W, o, tk, st => psBad
  | n + 1, Γ, L, X, W, o, tk, st => by
    have ok := o.ok
    have h : ∀ e, PE X e (GoodE L X.K W (evX Γ (cc Γ.hot) N sc e)) := fun e => (sE (eFuel + 1) sc X ok W tk e).1
    have ht : ∀ e, PT X e (GoodT L X.K W (evXT Γ (cc Γ.hot) N sc e)) := fun e => (sE (eFuel + 1) sc X ok W tk e).2
    have ih := ssL (sS n Γ L X W o tk)
    show PS X st (GoodS L X.K W (evS1 Γ (cc Γ.hot) N sc (evS Γ cc N sc n) (evS { Γ with hot := true } cc N sc n) st))
    cases st with
    | Pass p => exact st_pass
    | Break p => exact st_brk
    | Continue p => exact st_cnt
    | Return o p =>
      cases o with
      | none => exact st_retN
      | some e => exact st_ret (h e)
    | Expr e p =>
      simp only [evS1]
      split
      · exact psBad
      · rename_i hc
        exact st_expr (h e) (sw_none (by simpa using hc))
    | If c a b p => exact st_if (ht c) (ih a) (ih b)
    | Assign ts value p =>
      match ts with
      | [t] => exact st_assign ok tk o.fnn t value
      | [] => exact psBad
      | _ :: _ :: _ => exact psBad
    | AugAssign t op value p => exact st_augS ok tk o.fnn t op value
    | For tg iter body els p =>
      simp only [evS1]
      split
      · exact psBad
      · rename_i hs
        have hs : isSetE iter = false ∧ (Γ.hot = true → hotFor sc tg iter els = true) := by
          rw [Bool.or_eq_true, not_or] at hs
          refine ⟨by simpa using hs.1, fun z => ?_⟩
          have := hs.2
          rw [z] at this
          simpa using this
        split
        · rename_i t et
          cases hh : Γ.hot with
          | false =>
            have calm := ok.calm hh
            rw [hh] at h
            exact st_for o.pas calm (i_iter (call := cc false) (by rw [hh] at ok; exact ok) h tg iter).1 (tg_ok ok.hN ok.nd (.inl calm) (loc_hf ok.hsc o.fnn) 5 t et) (ih body) (ih els) (folded_ok hs.1)
          | true =>
            have hf := hs.2 hh
            unfold hotFor at hf
            rw [Bool.and_eq_true, Bool.and_eq_true] at hf
            obtain ⟨⟨f1, f2⟩, f3⟩ := hf
            have f1 : els = [] := by simpa using f1
            subst f1
            split at f3
            · rename_i x px a pp hx1
              simp only [Bool.and_eq_true, decide_eq_true_eq] at f3
              obtain ⟨⟨g1, rfl⟩, g2⟩ := f3
              have eI : evI Γ (evX Γ (cc true) N sc) sc tg (.Call (.Name "range" px) [a] [] pp) = iRng1 (evX Γ (cc true) N sc a) := by
                simp only [evI, g1, g2, Bool.true_and, decide_true, if_true]
              rw [hh] at h
              rw [eI]
              exact st_forH o.pas ⟨L.p, (ok.hotp hh).hot, (ok.hotp hh).mem⟩ (i_rng1H (ok.gl g1).1 (ok.no (x := "range") (by decide +kernel)) (h a) (star_cons g2)) (tg_ok ok.hN ok.nd (.inr (by simpa using f2)) (loc_hf ok.hsc o.fnn) 5 t et) (ih body) (folded_ok hs.1)
            · cases f3
        · exact psBad
    | Delete ts p =>
      match ts with
      | [] => exact psBad
      | t1 :: _ :: _ => cases t1 <;> exact psBad
      | [t] =>
        cases t with
        | Subscript a b tp =>
          simp only [evS1]
          split
          · exact psBad
          · exact st_del (h a) (h b)
        | _ => exact psBad
    | While c body els p => exact st_while o.pas (ht c) (ih body) (ih els)
    | Raise e f p =>
      simp only [evS1, evRaise]
      split
      · rename_i c pc a pa
        split
        · rename_i hc
          simp only [Bool.and_eq_true, Bool.not_eq_true'] at hc
          obtain ⟨⟨hh, g1⟩, g2⟩ := hc
          split
          · rename_i D eD
            split
            · rename_i hx
              rw [hh] at h ⊢
              exact st_raise (ok.calm hh) tk (o.rs hh c D eD hx) (ok.gl g1).1 (ok.gl g1).2 g2 (h a)
            · exact psBad
          · exact psBad
        · exact psBad
      · exact psBad
    | Try body hs els fin p =>
      simp only [evS1, evTry]
      split
      · rename_i x px nm b0 suite ph
        split
        · rename_i hc
          simp only [Bool.and_eq_true, Bool.not_eq_true', decide_eq_true_eq] at hc
          obtain ⟨⟨⟨hh, g1⟩, g2⟩, g3⟩ := hc
          split
          · rename_i i hi
            split
            · rename_i hx
              have hi' : X.N[i]? = some nm := by rw [ok.hN]; exact findIx_get hi
              obtain ⟨Dx, eDx⟩ := Option.isSome_iff_exists.mp g2
              have key : PS X (.Try body [.ExceptHandler (some (.Name x px)) (some nm) (b0 :: suite) ph] [] [] p) (GoodS L X.K W (sTry (subX Γ x) L.xs i (evSs (evS Γ cc N sc n) body) (evSs (evS { Γ with hot := true } cc N sc n) (b0 :: suite)))) := ?_
              · rw [ok.xsL] at key
                exact key
              refine st_try (o.stk hh).1 (o.stk hh).2 (by rw [ok.hN]; exact ok.nd) hi' (by show X.env.scope.names.lookup nm = _; rw [ok.hsc]; exact g3) ⟨(ok.gl g1).1, (ok.gl g1).2, .inl (ok.xcg x Dx eDx)⟩ tk (by rw [ok.xsL]; simpa using hx) (o.calmp hh) ⟨Dx, eDx⟩ ok.xcf (fun W pn xe tk' hp => ?_) (fun a oe pn hot => ?_)
              · exact ssL (sS n Γ L (X.tr pn xe) W (o.tr hh pn xe hp) tk') body
              · exact ssL (sS n { Γ with hot := true } (L.at (a, oe)) (X.suite a ((a, oe) :: pn)) WF (o.suite hh a oe pn hot) takesN) (b0 :: suite)
            · exact psBad
          · exact psBad
        · exact psBad
      · exact psBad
    | _ => exact psBad
end
end Mp
set_option Elab.async false
set_option linter.all false
set_option maxRecDepth 100000
set_option maxHeartbeats 2000000
namespace Mp
open PySem PySem.Spec PyProof.Rows L2
/-! ### the defs, all levels -/
structure DefF (L : Lk) (K : PySem.W.Frag) (Γ : Pg) (g : Str) (D : FnD) : Prop where
  ex : ∃ (x qual : Str) (params : Arguments) (dvs : List V) (kws : List (Str × V)) (fd : FuncData), FunD K x qual params D.body D.sc dvs kws (L.F g) fd ∧ ∀ n ks sel, (g, n, ks) ∈ Γ.shapes → bindV D n ks = some sel → ShpOk L K fd D.ps n ks sel ∧ (ks = [] → n = D.ps.length → Binds K fd D.ps [])
  sc : C8.scC D.N D.ps D.sc = true
/-- an own exception that may be raised -/
structure ExcF (P : Program) (L : Lk) (K : PySem.W.Frag) (mg : Str → Option Value) (c : Str) (D : XcD) : Prop where
  ex : ∃ (fI Da : Addr) (fd : FuncData) (fld sf pn : Str), D.flds = [fld] ∧ XiK P K mg fI Da fd sf pn fld ∧ Binds K fd [sf, pn] [] ∧ XcK K (L.C c) Da fld ∧ PySem.W.findIn K (.ref (L.C c)) "__init__" = some (some (.ref fI)) ∧ PySem.W.typeIn K (.ref fI) = some (.type "function")
structure PgOk (P : Program) (Γ : Pg) (L : Lk) (K : PySem.W.Frag) (mg : Str → Option Value) : Prop where
  df : ∀ g D, Γ.fns.lookup g = some D → DefF L K Γ g D
  top : ∀ g, Γ.tops.contains g = true → mg g = some (.ref (L.F g))
  cls : ∀ c C, Γ.cls.lookup c = some C → ClF L K c C
  clg : ∀ c C, Γ.cls.lookup c = some C → mg c = some (.ref (L.C c))
  glob : ∀ x v, Γ.glob.lookup x = some v → ∃ v' u, mg x = some u ∧ RelV v' u ∧ (∀ f H, RV L K f H v v') ∧ TupPl K v v'
  blt : ∀ x ∈ bltNames, Γ.tops.contains x = false → Γ.cls.lookup x = none → Γ.glob.lookup x = none → mg x = none
  nob : ∀ x ∈ bltNames, Γ.tops.contains x = false ∧ Γ.cls.lookup x = none ∧ Γ.glob.lookup x = none
  prop : ∀ c C x g, Γ.cls.lookup c = some C → C.props.lookup x = some g → ∃ D, Γ.fns.lookup g = some D ∧ D.ps.length = 1 ∧ (g, 1, []) ∈ Γ.shapes ∧ ∃ sel, bindV D 1 [] = some sel
  xcf : ∀ c D, Γ.xcl.lookup c = some D → XcF L K Γ c D
  xcg : ∀ c D, Γ.xcl.lookup c = some D → mg c = some (.ref (L.C c))
  xi : ∀ c D, Γ.xcl.lookup c = some D → (Γ.xin.lookup D.init).isSome = true → ExcF P L K mg c D ∧ Γ.fns.lookup D.init = none
  cpy : Γ.xin ≠ [] → ∃ D cp, Γ.fns.lookup ("copy_of" : Str) = some D ∧ D.ps = [cp] ∧ D.xs = [] ∧ Γ.tops.contains "copy_of" = true ∧ (("copy_of" : Str), 1, ([] : List Str)) ∈ Γ.shapes ∧ ∃ sel, bindV D 1 [] = some sel
  itf : ∀ c C fld, Γ.cls.lookup c = some C → C.it = some fld → ∃ g D sf sel, C.meths.lookup ("__iter__" : Str) = some g ∧ Γ.fns.lookup g = some D ∧ D.ps = [sf] ∧ ItBody D.body sf fld ∧ D.sc.names.lookup ("iter" : Str) = some .globalImplicit ∧ ((sf == ("__debug__" : Str)) = false ∧ (sf == ("__classdict__" : Str)) = false) ∧
    fld ∈ C.flds ∧ (g, 1, []) ∈ Γ.shapes ∧ bindV D 1 [] = some sel ∧ PySem.W.findIn K (.ref (L.C c)) "__len__" = some none ∧ PySem.W.findIn K (.ref (L.C c)) "__length_hint__" = some none
  lp : L.p.2.cls = Value.none
section
variable {Γ : Pg} {L L' : Lk} {P : Program} {w : World} {K : PySem.W.Frag} {mg : Str → Option Value} {base : Heap}
theorem ShpOk_L {fd : FuncData} {ps : List Str} {n : Nat} {ks : List Str} {sel : List Src} (hF : L.F = L'.F) (h : ShpOk L K fd ps n ks sel) : ShpOk L' K fd ps n ks sel := by
  obtain ⟨g, gV, kb, r⟩ := h
  exact ⟨g, gV, kb, fun f H ts zs vs ws us h1 h2 h3 h4 h5 => RVs_L hF _ _ (r f H ts zs vs ws us (RVs_L hF.symm _ _ h1) (RVs_L hF.symm _ _ h2) h3 h4 h5)⟩
theorem spF_bad {n : Nat} {xs : List Nat} {vs : List V} {H : Hp} {Q : VK} {E : XK} {m : List Val → Mem → Res Val} (hm : ∀ ts h, m ts h = .bad) (h : spF L K n xs m vs H Q E) : False := by
  obtain ⟨_, f, hh, ts, _, _, p⟩ := h
  rw [hm] at p
  exact p
theorem envR_start {f : Nm} {H : Hp} {xs : List Nat} {ts : List Val} {vs : List V} {k : Nat} (A : ArgR L K xs f H ts vs) : EnvR { L with xs := xs } K f H (ts.map some ++ List.replicate k none) (vs.map some ++ List.replicate k none) := by
  refine ⟨by simp [A.1], fun i v e => ?_⟩
  by_cases hi : i < ts.length
  · rw [List.getElem?_append_left (by simpa using hi), List.getElem?_map] at e
    obtain ⟨t, e1, e2⟩ := Option.map_eq_some_iff.mp e
    cases e2
    obtain ⟨v', q, r⟩ := A.2 i v e1
    refine ⟨v', by rw [List.getElem?_append_left (by rw [List.length_map, ← A.1]; exact hi), List.getElem?_map, q]; rfl, ?_⟩
    rcases r with r | ⟨h1, c, fs, h2, h3, h4⟩
    · exact .inl (RV_L (L := L) (L' := { L with xs := xs }) rfl _ _ r)
    · exact .inr ⟨h1, c, fs, h2, h3, RX_L (L := L) (L' := { L with xs := xs }) rfl rfl h4⟩
  · exfalso
    rw [List.getElem?_append_right (by simpa using hi), List.getElem?_replicate] at e
    split at e <;> cases e
/-- a def at depth d: as it is, and where an exception is handled -/
structure FnA (P : Program) (w : World) (K : PySem.W.Frag) (mg : Str → Option Value) (base : Heap) (L : Lk) (Γ : Pg) (d : Nat) (g : Str) (D : FnD) : Prop where
  ex : ∃ fd, FnOk P w K mg base (L2N.CX P w) (2 * d + 3) (L.F g) fd D.ps (spF L K D.ps.length D.xs (callB Γ d false g)) ∧
    (∀ p, FnHp P w K mg base (L2N.CX P w) (2 * d + 3) (L.F g) fd D.ps (spF (L.at p) K D.ps.length D.xs (callB Γ d true g)) p) ∧
    ∀ n ks sel, (g, n, ks) ∈ Γ.shapes → bindV D n ks = some sel → ShpOk L K fd D.ps n ks sel ∧ (ks = [] → n = D.ps.length → Binds K fd D.ps [])
  kp : PySem.W.keepIn K (.ref (L.F g)) = true
  fi : PySem.W.fnIn K (L.F g) = true
structure InA (P : Program) (w : World) (K : PySem.W.Frag) (mg : Str → Option Value) (base : Heap) (L : Lk) (Γ : Pg) (d : Nat) (c : Str) (D : XcD) : Prop where
  ex : ∃ (fI : Addr) (fd : FuncData) (Da : Addr) (fld sf pn : Str) (m : List Val → Mem → Res Val), D.flds = [fld] ∧ FnOk P w K mg base (L2N.CX P w) (2 * d + 3) fI fd [sf, pn] (spI L K Da fld m) ∧ Binds K fd [sf, pn] [] ∧
    XcK K (L.C c) Da fld ∧ PySem.W.findIn K (.ref (L.C c)) "__init__" = some (some (.ref fI)) ∧ PySem.W.typeIn K (.ref fI) = some (.type "function") ∧ ∀ v h, callB Γ d false D.init [v] h = (m [v] h).bind fun y h => .ok (.tup [y]) h
theorem callB_succ {d : Nat} {b : Bool} {g : Str} {D : FnD} (hg : Γ.fns.lookup g = some D) {ts : List Val} {h : Mem} (hl : ts.length = D.ps.length) :
    callB Γ (d + 1) b g ts h = fin (evSs (evS { Γ with hot := b, xs := D.xs, own := D.own, it := D.it } (callB Γ d) D.N D.sc sFuel) D.body (startE D.N ts) h) := by
  conv => lhs; unfold callB
  simp only [hg]
  unfold runD
  exact if_pos hl
theorem own_it_of (pg : PgOk P Γ L K mg) {X : Cx} (eK : X.K = K) (em : X.mg = mg) (hr : Room 3 X.A) {c : Str} {C : ClD} {fld : Str} (e1 : Γ.cls.lookup c = some C) (e2 : C.it = some fld) : OwIt X (L.C c) fld := by
  subst eK em
  obtain ⟨g, D, sf, sel, a1, a2, a3, a4, a5, a6, a7, a8, a9, a10, a11⟩ := pg.itf c C fld e1 e2
  obtain ⟨⟨x, qual, params, dvs, kws, fd, FD, Sh⟩, sc⟩ := pg.df g D a2
  have cf := pg.cls c C e1
  have me := cf.me ("__iter__", g) (PySem.mem_of_lookup a1)
  have bn := (Sh 1 [] sel a8 a9).2 rfl (by rw [a3]; rfl)
  have fs := C8.fnScope_by sc
  rw [a3] at bn fs
  obtain ⟨n1, n2, n3⟩ := pg.nob "iter" (by decide +kernel)
  exact owIt_of hr FD fs a4 a5 (pg.blt "iter" (by decide +kernel) n1 n2 n3) a6 cf.cl (cf.no fld a7) bn me.at_ me.fn a10 a11
/-- the end of a def's body -/
theorem fin_post {f : Nm} {H : Hp} {Q : VK} {E : XK} {r : Res Fl} {xs : List Nat} (p : PostG L K (RV L K) (fun cls d _ H' => E cls d H') f [] H Q (fin r)) : PostS { L with xs := xs } K (fun cls d _ H => E cls d H) { nx := fun _ H' => Q .non H', rt := Q } f H r := by
  have eS : ∀ {f' : Nm} {h' : Mem} {H' : Hp}, Sim { L with xs := xs } K f' h' H' → Sim L K f' h' H' := fun S => Sim_L (L := { L with xs := xs }) (L' := L) rfl rfl S
  cases r with
  | bad => exact p
  | exc c fs h' => exact p
  | ok fl h' =>
    cases fl with
    | nx ρ => exact fun f' H' σ' x S' E' => p f' H' .non x (eS S') (by unfold RV; rfl)
    | rt v => exact fun f' H' v' x S' r' => p f' H' v' x (eS S') (RV_L (L := { L with xs := xs }) (L' := L) rfl _ _ r')
    | bk ρ => exact absurd p id
    | ct ρ => exact absurd p id
    | xc ρ c fs => exact fun f' H' σ' cls d x S' E' rx => p f' H' cls d x (eS S') (RX_L (L := { L with xs := xs }) (L' := L) rfl rfl rx)
section
variable (pg : PgOk P Γ L K mg) {d : Nat} (ihF : ∀ g' D', Γ.fns.lookup g' = some D' → FnA P w K mg base L Γ d g' D') (ihI : ∀ c D, Γ.xcl.lookup c = some D → (Γ.xin.lookup D.init).isSome = true → InA P w K mg base L Γ d c D)
include pg ihF
/-- hot contexts of depth d -/
theorem fnF_hot {X : Cx} {p : Addr × Obj} {xs : List Nat} (e1 : X.prog = P) (e2 : X.w = w) (e3 : X.K = K) (e4 : X.mg = mg) (e5 : X.base = base) (hc : X.calm = false) (hr : L2H.RoomH (2 * d + 4) X.A) (hot : L2H.Hot1 X.A p) (hp : p ∈ X.pn) (g' : Str) (D' : FnD) (h : Γ.fns.lookup g' = some D') :
    FnF ({ L with xs := xs }.at p) X Γ (callB Γ d true) g' D' := by
  subst e1 e2 e3 e4 e5
  obtain ⟨⟨fd, _, Fh, Sh⟩, kp, fi⟩ := ihF g' D' h
  have Fh := Fh p
  refine ⟨⟨fd, ?_, (fun z => by rw [hc] at z; cases z), fun n ks sel h1 h2 => ?_⟩, kp, fi⟩
  · refine runX_hot (k := 2 * d + 3) (p := p) ⟨fun A outer s H args us vs Q E a1 a2 a3 a4 a5 a6 a7 => ?_⟩ hr hot hp
    exact Fh.run A outer s H args us vs Q E a1 a2 a3 a4 a5 a6 (spF_L (L := { L with xs := xs }.at p) (L' := L.at p) rfl rfl rfl a7)
  · obtain ⟨s1, s2⟩ := Sh n ks sel h1 h2
    exact ⟨ShpOk_L (L := L) (L' := { L with xs := xs }.at p) rfl s1, s2⟩
include ihI
theorem fnStep {g : Str} {D : FnD} {x qual : Str} {params : Arguments} {dvs : List V} {kws : List (Str × V)} {fd : FuncData} (hg : Γ.fns.lookup g = some D)
    (F : FunD K x qual params D.body D.sc dvs kws (L.F g) fd) : FnOk P w K mg base (L2N.CX P w) (2 * (d + 1) + 3) (L.F g) fd D.ps (spF L K D.ps.length D.xs (callB Γ (d + 1) false g)) := by
    have sc := C8.fnScope_by (pg.df g D hg).sc
    refine FunD.ok (k := 2 * d + 4) F sc (fun vs H Q E h => h.1) ?_
    intro cdv A outer s H vs Q E hr hsp
    obtain ⟨hl, f, h, ts, S, R, p⟩ := hsp
    have o : XOkS { Γ with hot := false, xs := D.xs, own := D.own, it := D.it } { L with xs := D.xs } (callB Γ d) (2 * d + 3) D.N D.sc (cxOf (L2N.CX P w) P w K mg base D.N qual D.sc (L.F g) cdv A outer s H E) := {
      ok := {
        hN := rfl
        nd := sc.nd
        hsc := rfl
        calm := fun _ => rfl
        room := ⟨hr.dp, hr.un⟩
        xsL := rfl
        hotp := fun z => by cases z
        xcf := fun c D' e => (pg.xcf c D' e).re rfl rfl
        xcg := pg.xcg
        fn := fun g' D' e => by
          obtain ⟨⟨fd', Fo, _, Sh⟩, kp, fi⟩ := ihF g' D' e
          have Fo' : FnOk P w K mg base (L2N.CX P w) (2 * d + 3) (L.F g') fd' D'.ps (spF { L with xs := D.xs } K D'.ps.length D'.xs (callB Γ d false g')) := Fo.imp fun vs H Q E z => spF_L (L := { L with xs := D.xs }) (L' := L) rfl rfl rfl z
          exact ⟨⟨fd', runX_of (X := cxOf (L2N.CX P w) P w K mg base D.N qual D.sc (L.F g) cdv A outer s H E) Fo' hr, fun _ => ⟨2 * d + 3, Fo', hr⟩, fun n ks sel h1 h2 => ⟨ShpOk_L (L := L) (L' := { L with xs := D.xs }) rfl (Sh n ks sel h1 h2).1, (Sh n ks sel h1 h2).2⟩⟩, kp, fi⟩
        itf := fun _ c C fld e1 e2 => own_it_of pg (X := cxOf (L2N.CX P w) P w K mg base D.N qual D.sc (L.F g) cdv A outer s H E) rfl rfl (hr.mono (by omega)) e1 e2
        top := pg.top
        cls := fun c C e => (pg.cls c C e).re rfl rfl
        clg := pg.clg
        glob := fun x v e => by
          obtain ⟨v', u, h1, h2, h3, h4⟩ := pg.glob x v e
          exact ⟨v', u, h1, h2, fun f H => RV_L (L := L) (L' := { L with xs := D.xs }) rfl _ _ (h3 f H), h4⟩
        blt := pg.blt
        nob := pg.nob
        prop := pg.prop }
      pas := passes_of rfl
      fnn := fun x => rfl
      stk := fun _ => ⟨rfl, rfl⟩
      calmp := fun _ => pg.lp
      rs := fun _ c Dx e1 e2 => by
        obtain ⟨fI, fd', Da, fld, sf, pn, m, a1, a2, a3, a4, a5, a6, a7⟩ := (ihI c Dx e1 e2).ex
        refine ⟨⟨fI, fd', 2 * d + 3, Da, fld, sf, pn, m, a1, a2.imp fun vs H Q E z => ?_, hr, a3, a4, a5, a6, a7⟩, pg.xcg c Dx e1⟩
        obtain ⟨a, C, y', f, h, y, b1, b2, b3, b4, b5, b6, b7⟩ := z
        exact ⟨a, C, y', f, h, y, b1, b2, b3, Sim_L (L := { L with xs := D.xs }) (L' := L) rfl rfl b4, RV_L (L := { L with xs := D.xs }) (L' := L) rfl _ _ b5, b6, PostG_L (L := { L with xs := D.xs }) (L' := L) rfl rfl b7⟩
      hf := fun _ a oe pn hot g' D' e => (fnF_hot pg ihF (X := (cxOf (L2N.CX P w) P w K mg base D.N qual D.sc (L.F g) cdv A outer s H E).suite a ((a, oe) :: pn)) rfl rfl rfl rfl rfl rfl ⟨hr.dp, hr.un⟩ hot (List.mem_cons_self ..) g' D' e).sh rfl }
    have tk : L2N.Takes (cxOf (L2N.CX P w) P w K mg base D.N qual D.sc (L.F g) cdv A outer s H E) (fun cls d _ H => E cls d H) := L2N.takes_of rfl rfl rfl rfl
    refine ⟨_, ssL (sS sFuel _ _ _ _ o tk) D.body, ?_⟩
    refine ⟨f, startE D.N ts, h, Sim_L (L := L) (L' := { L with xs := D.xs }) rfl rfl S, ?_, ?_⟩
    · unfold startE L2.start
      rw [R.1]
      exact envR_start R
    · rw [callB_succ hg (by rw [R.1]; exact hl)] at p
      exact fin_post p
omit ihI in
theorem fnStepH {g : Str} {D : FnD} {x qual : Str} {params : Arguments} {dvs : List V} {kws : List (Str × V)} {fd : FuncData} (hg : Γ.fns.lookup g = some D)
    (F : FunD K x qual params D.body D.sc dvs kws (L.F g) fd) (p : Addr × Obj) : FnHp P w K mg base (L2N.CX P w) (2 * (d + 1) + 3) (L.F g) fd D.ps (spF (L.at p) K D.ps.length D.xs (callB Γ (d + 1) true g)) p := by
    have sc := C8.fnScope_by (pg.df g D hg).sc
    obtain ⟨oc, od, dV, kV, doc, pm, an, cdv, ct, osl, rfl, lk, hcd, _, _⟩ := F.ex
    refine fn_ofHp (k := 2 * d + 4) (N := D.N) lk hcd sc (fun vs H Q E h => h.1) ?_
    intro A outer s H vs Q E hot hr hsp
    obtain ⟨hl, f, h, ts, S, R, pp⟩ := hsp
    have o : XOkS { Γ with hot := true, xs := D.xs, own := D.own, it := D.it } { L.at p with xs := D.xs } (callB Γ d) (2 * d + 3) D.N D.sc (L2H.cxH (L2N.CX P w) P w K mg base D.N qual D.sc (L.F g) cdv A outer s H E p) := {
      ok := {
        hN := rfl
        nd := sc.nd
        hsc := rfl
        calm := fun z => by cases z
        room := hr
        xsL := rfl
        hotp := fun _ => ⟨hot, List.mem_cons_self ..⟩
        xcf := fun c D' e => (pg.xcf c D' e).re rfl rfl
        xcg := pg.xcg
        fn := fun g' D' e => (fnF_hot pg ihF (xs := D.xs) (X := L2H.cxH (L2N.CX P w) P w K mg base D.N qual D.sc (L.F g) cdv A outer s H E p) rfl rfl rfl rfl rfl rfl hr hot (List.mem_cons_self ..) g' D' e).sh rfl
        itf := fun z => by cases z
        top := pg.top
        cls := fun c C e => (pg.cls c C e).re rfl rfl
        clg := pg.clg
        glob := fun x v e => by
          obtain ⟨v', u, h1, h2, h3, h4⟩ := pg.glob x v e
          exact ⟨v', u, h1, h2, fun f H => RV_L (L := L) (L' := { L.at p with xs := D.xs }) rfl _ _ (h3 f H), h4⟩
        blt := pg.blt
        nob := pg.nob
        prop := pg.prop }
      pas := passes_of rfl
      fnn := fun x => rfl
      stk := fun z => by cases z
      calmp := fun z => by cases z
      rs := fun z => by cases z
      hf := fun z => by cases z }
    have tk : L2N.Takes (L2H.cxH (L2N.CX P w) P w K mg base D.N qual D.sc (L.F g) cdv A outer s H E p) (fun cls d _ H => E cls d H) := L2N.takes_of rfl rfl rfl rfl
    refine ⟨_, ssL (sS sFuel _ _ _ _ o tk) D.body, ?_⟩
    refine ⟨f, startE D.N ts, h, Sim_L (L := L.at p) (L' := { L.at p with xs := D.xs }) rfl rfl S, ?_, ?_⟩
    · unfold startE L2.start
      rw [R.1]
      exact envR_start R
    · rw [callB_succ hg (by rw [R.1]; exact hl)] at pp
      exact fin_post pp
end
theorem fnIn_of {x qual : Str} {params : Arguments} {body : List Stmt} {scope : Scope} {dvs : List V} {kws : List (Str × V)} {f : Addr} {fd : FuncData} (F : FunD K x qual params body scope dvs kws f fd) : PySem.W.fnIn K f = true := by
  obtain ⟨oc, od, dV, kV, doc, pm, an, cdv, ct, osl, rfl, lk, hcd, _, _⟩ := F.ex
  unfold PySem.W.fnIn
  rw [lk]
theorem fnAll (pg : PgOk P Γ L K mg) : ∀ d : Nat, (∀ g D, Γ.fns.lookup g = some D → FnA P w K mg base L Γ d g D) ∧ ∀ c D, Γ.xcl.lookup c = some D → (Γ.xin.lookup D.init).isSome = true → InA P w K mg base L Γ d c D
  | 0 => by
    refine ⟨fun g D hg => ?_, fun c D h1 h2 => ?_⟩
    · obtain ⟨x, qual, params, dvs, kws, fd, F, Sh⟩ := (pg.df g D hg).ex
      exact ⟨⟨fd, ⟨fun vs H Q E h => (spF_bad (fun _ _ => rfl) h).elim, fun A outer s H args us vs Q E _ _ _ _ h => (spF_bad (fun _ _ => rfl) h).elim⟩, fun p => ⟨fun A outer s H args us vs Q E _ _ _ _ _ _ h => (spF_bad (fun _ _ => rfl) h).elim⟩, Sh⟩, F.kp, fnIn_of F⟩
    · obtain ⟨⟨fI, Da, fd, fld, sf, pn, a1, a2, a3, a4, a5, a6⟩, _⟩ := pg.xi c D h1 h2
      have no : ∀ {vs H Q E}, spI L K Da fld (fun _ _ => .bad) vs H Q E → False := fun {vs H Q E} z => by
        obtain ⟨_, _, _, _, _, _, _, _, _, _, _, _, z⟩ := z
        exact z
      exact ⟨fI, fd, Da, fld, sf, pn, fun _ _ => .bad, a1, ⟨fun vs H Q E z => (no z).elim, fun A outer s H args us vs Q E _ _ _ _ z => (no z).elim⟩, a3, a4, a5, a6, fun v h => rfl⟩
  | d + 1 => by
    obtain ⟨ihF, ihI⟩ := fnAll pg d
    refine ⟨fun g D hg => ?_, fun c D h1 h2 => ?_⟩
    · obtain ⟨x, qual, params, dvs, kws, fd, F, Sh⟩ := (pg.df g D hg).ex
      exact ⟨⟨fd, fnStep pg ihF ihI hg F, fnStepH pg ihF hg F, Sh⟩, F.kp, fnIn_of F⟩
    · obtain ⟨⟨fI, Da, fd, fld, sf, pn, a1, a2, a3, a4, a5, a6⟩, hn⟩ := pg.xi c D h1 h2
      obtain ⟨Dc, cp, c1, c2, c3, c4, c5, sel, c6⟩ := pg.cpy (fun z => by rw [z] at h2; cases h2)
      obtain ⟨⟨fdc, Fo, _, Sh⟩, kp, _⟩ := ihF "copy_of" Dc c1
      have hl : Dc.ps.length = 1 := by rw [c2]; rfl
      have hb := (Sh 1 [] sel c5 c6).2 rfl hl.symm
      rw [hl, c2, c3] at Fo
      rw [c2] at hb
      refine ⟨fI, fd, Da, fld, sf, pn, callB Γ d false "copy_of", a1, (init_ok a2 Fo (pg.top _ c4) kp hb).mono (by omega), a3, a4, a5, a6, fun v h => ?_⟩
      obtain ⟨xi, hxi⟩ := Option.isSome_iff_exists.mp h2
      conv => lhs; unfold callB
      simp only [hn, hxi]
      rfl
end
end Mp
set_option Elab.async false
set_option linter.all false
set_option maxRecDepth 100000
set_option maxHeartbeats 2000000
namespace Mp
open PySem PySem.Spec PyProof.Rows L2
/-! ### the text's data -/
inductive SrcI where
  | ps (i : Nat) | kw (j : Nat) | df (i : Nat) | kd (i : Nat)
deriving DecidableEq
def toS (dfl : List Val) (kwd : List (Str × Val)) : SrcI → Src
  | .ps i => .ps i
  | .kw j => .kw j
  | .df i => .df (dfl.getD i .non)
  | .kd i => .df ((kwd.map (·.2)).getD i .non)
structure Dd where
  g : Str
  at_ : Str × Option Str
  name : Str
  qual : Str
  params : Arguments
  ps : List Str
  dfl : List Val
  N : List Str
  sc : Scope
  body : List Stmt
  prop : Bool := false
  kwd : List (Str × Val) := []
  xs : List Nat := []
  own : Bool := false
  it : Bool := false
/-- keyword-only parameters stand last -/
def Dd.fn (d : Dd) : FnD := ⟨d.ps, ((d.ps.drop (d.ps.length - d.kwd.length - d.dfl.length)).zip d.dfl) ++ d.kwd, d.N, d.sc, d.body, d.xs, d.own, d.it⟩
/-- where a def stands; a property's getter too -/
def Dd.ad (d : Dd) (K : PySem.W.Frag) : Addr := if d.prop then (match PySem.W.findIn K (.ref (He.ga K d.at_.1)) (d.at_.2.getD "") with
  | some (some (.ref p)) => (match PySem.W.recIn K p "property" with
    | some (.ref g :: _) => g
    | _ => 0)
  | _ => 0) else He.fAd K d.at_
/-- the i-th default, an object -/
def dfAd (K : PySem.W.Frag) (a : Addr) (i : Nat) : Addr := match K.lookup a with
  | some ⟨_, _, .func y, _⟩ => (match y.defaults with
    | .ref T => (match K.lookup T with
      | some ⟨_, _, .seq zs _, _⟩ => (match zs.toList[i]? with
        | some (.ref b) => b
        | _ => 0)
      | _ => 0)
    | _ => 0)
  | _ => 0
/-- a default as the head says it -/
def dvOf (K : PySem.W.Frag) (a : Addr) (i : Nat) : Val → V
  | .non => .non
  | .bl b => .bl b
  | .int i => .int i
  | .str x => .str x
  | _ => .ref (dfAd K a i)
def dvsOf (K : PySem.W.Frag) (a : Addr) : Nat → List Val → List V
  | _, [] => []
  | i, v :: r => dvOf K a i v :: dvsOf K a (i + 1) r
/-- a flat value -/
def fvOf : Val → Option V
  | .non => some .non
  | .bl b => some (.bl b)
  | .int i => some (.int i)
  | .str x => some (.str x)
  | _ => none
def kwsOf : List (Str × Val) → List (Str × V)
  | [] => []
  | (x, v) :: r => (x, (fvOf v).getD .non) :: kwsOf r
theorem kws_rel {L : Lk} {K : PySem.W.Frag} {f : Nm} {H : Hp} : ∀ {l : List (Str × Val)}, (l.all fun q => (fvOf q.2).isSome) = true → RVs L K f H (l.map (·.2)) ((kwsOf l).map (·.2))
  | [], _ => by
    unfold RVs
    rfl
  | (x, v) :: r, h => by
    rw [List.all_cons, Bool.and_eq_true] at h
    have ih := kws_rel (L := L) (K := K) (f := f) (H := H) h.2
    unfold RVs
    refine ⟨_, _, rfl, ?_, ih⟩
    have h1 := h.1
    cases v with
    | non => unfold RV; rfl
    | bl b => unfold RV; rfl
    | int b => unfold RV; rfl
    | str b => unfold RV; rfl
    | tup b => simp [fvOf] at h1
    | ref b => simp [fvOf] at h1
    | fn b => simp [fvOf] at h1
    | exn _ _ => simp [fvOf] at h1
abbrev FnO : Type := Option (Str × Str × Arguments × FuncBody × Scope × Addr × List (Str × Addr) × Addr)
def fnO (K : PySem.W.Frag) (a : Addr) : FnO := match K.lookup a with
  | some ⟨_, _, .func y, _⟩ => some (y.name, y.qualname, y.params, y.body, y.scope, y.globals, y.closure, y.builtins)
  | _ => none
def Dd.val (d : Dd) : FnO := some (d.name, d.qual, d.params, .stmts d.body, d.sc, mainGlobals, [], builtinsNs)
def Dd.ok (K : PySem.W.Frag) (d : Dd) : Bool := PySem.W.keepIn K (.ref (d.ad K)) && (match K.lookup (d.ad K) with
  | some ⟨_, _, .func y, _⟩ => PySem.W.codeIn K y.code d.qual && (He.dflB K y.defaults (dvsOf K (d.ad K) 0 d.dfl) && He.kwdB K y.kwdefaults (kwsOf d.kwd))
  | _ => false)
theorem Dd.fun_ {K : PySem.W.Frag} {d : Dd} (e : fnO K (d.ad K) = d.val) (c : d.ok K = true) : ∃ fd, FunD K d.name d.qual d.params d.body d.sc (dvsOf K (d.ad K) 0 d.dfl) (kwsOf d.kwd) (d.ad K) fd := by
  have c0 := He.ba c
  unfold fnO at e
  cases q : K.lookup (d.ad K) with
  | none => rw [q] at e; cases e
  | some o =>
    rcases o with ⟨o1, o2, o3, o4⟩
    rw [q] at e
    have c1 := c0.2
    rw [q] at c1
    cases o3 with
    | func y =>
      rcases y with ⟨y1, y2, y3, y4, y5, y6, y7, y8, y9, y10, y11, y12, y13, y14, y15⟩
      have e1 : (some (y1, y2, y3, y4, y5, y6, y7, y15) : FnO) = d.val := e
      unfold Dd.val at e1
      simp only [Option.some.injEq, Prod.mk.injEq] at e1
      rcases e1 with ⟨e1, e2, e3, e4, e5, e6, e7, e8⟩
      subst e1 e2 e3 e4 e5 e6 e7 e8
      have c2 := He.ba (show (PySem.W.codeIn K y13 d.qual && (He.dflB K y8 (dvsOf K (d.ad K) 0 d.dfl) && He.kwdB K y9 (kwsOf d.kwd))) = true from c1)
      have c3 := He.ba c2.2
      exact ⟨_, ⟨o1, o2, y8, y9, y10, y11, y12, y13, y14, o4, rfl, q, c2.1, He.dflB_ok c3.1, He.kwdB_ok c3.2⟩, c0.1⟩
    | _ => cases c1
mutual
def relVal (K : PySem.W.Frag) : Val → Value → Bool
  | .non, .none => true
  | .bl b, .bool c => b == c
  | .int i, .int j _ => decide (i = j)
  | .str x, .str y _ => decide (x = y)
  | .tup vs, .ref a => (match K.lookup a with
    | some ⟨.type c, od, .seq its _, _⟩ => decide (c = "tuple") && (od.isNone && (decide (its.size ≤ sizeLine) && relVals K vs its.toList))
    | _ => false)
  | _, _ => false
def relVals (K : PySem.W.Frag) : List Val → List Value → Bool
  | [], [] => true
  | v :: vs, u :: us => relVal K v u && relVals K vs us
  | _, _ => false
end
mutual
theorem relVal_ok {K : PySem.W.Frag} (L : Lk) : ∀ (v : Val) (u : Value), relVal K v u = true → ∃ v', RelV v' u ∧ ∀ f H, RV L K f H v v'
  | .non, u, h => by
    cases u <;> simp [relVal] at h
    exact ⟨.non, rfl, fun f H => by unfold RV; rfl⟩
  | .bl b, u, h => by
    cases u <;> simp [relVal] at h
    subst h
    exact ⟨.bl b, rfl, fun f H => by unfold RV; rfl⟩
  | .int i, u, h => by
    cases u <;> simp [relVal] at h
    subst h
    exact ⟨.int i, ⟨_, rfl⟩, fun f H => by unfold RV; rfl⟩
  | .str x, u, h => by
    cases u <;> simp [relVal] at h
    subst h
    exact ⟨.str x, ⟨_, rfl⟩, fun f H => by unfold RV; rfl⟩
  | .ref n, u, h => by cases u <;> simp [relVal] at h
  | .fn g, u, h => by cases u <;> simp [relVal] at h
  | .exn _ _, u, h => by cases u <;> simp [relVal] at h
  | .tup vs, u, h => by
    cases u with
    | ref a =>
      have h0 : (match K.lookup a with
        | some ⟨.type c, od, .seq its _, _⟩ => decide (c = "tuple") && (od.isNone && (decide (its.size ≤ sizeLine) && relVals K vs its.toList))
        | _ => false) = true := by
        simpa only [relVal] using h
      cases q : K.lookup a with
      | none => rw [q] at h0; cases h0
      | some o =>
        obtain ⟨oc, od, dt, osl⟩ := o
        rw [q] at h0
        cases oc with
        | type c =>
          cases dt with
          | seq its n =>
            obtain ⟨h1, h2'⟩ := He.ba (show (decide (c = "tuple") && (od.isNone && (decide (its.size ≤ sizeLine) && relVals K vs its.toList))) = true from h0)
            obtain ⟨_, h2⟩ := He.ba h2'
            obtain ⟨h3, h4⟩ := He.ba h2
            obtain ⟨vs', r, rv⟩ := relVals_ok L vs its.toList h4
            refine ⟨.ref a, rfl, fun f H => ?_⟩
            unfold RV
            exact ⟨a, vs', rfl, .inr ⟨_, its, n, q, congrArg Value.type (of_decide_eq_true h1), rfl, of_decide_eq_true h3, r⟩, rv f H⟩
          | _ => cases h0
        | _ => cases dt <;> cases h0
    | _ => simp [relVal] at h
theorem relVals_ok {K : PySem.W.Frag} (L : Lk) : ∀ (vs : List Val) (us : List Value), relVals K vs us = true → ∃ vs', Vals vs' us ∧ ∀ f H, RVs L K f H vs vs'
  | [], us, h => by
    cases us with
    | nil => exact ⟨[], .nil, fun f H => by unfold RVs; rfl⟩
    | cons u us => simp [relVals] at h
  | v :: vs, us, h => by
    cases us with
    | nil => simp [relVals] at h
    | cons u us =>
      have h0 : (relVal K v u && relVals K vs us) = true := by simpa only [relVals] using h
      obtain ⟨h1, h2⟩ := He.ba h0
      obtain ⟨v', r1, q1⟩ := relVal_ok L v u h1
      obtain ⟨vs', r2, q2⟩ := relVals_ok L vs us h2
      exact ⟨v' :: vs', .cons r1 r2, fun f H => by unfold RVs; exact ⟨v', vs', rfl, q1 f H, q2 f H⟩⟩
end
/-! ### what a call binds -/
def pick4 {α : Type} (us ws its ms : List α) : SrcI → Option α
  | .ps i => us[i]?
  | .kw j => ws[j]?
  | .df i => its[i]?
  | .kd i => ms[i]?
def selI {α : Type} (sel : List SrcI) (us ws its ms : List α) : List α := sel.filterMap (pick4 us ws its ms)
def AllL {α : Type} : Nat → (List α → Prop) → Prop
  | 0, p => p []
  | n + 1, p => ∀ x, AllL n fun l => p (x :: l)
theorem AllL.at_ {α : Type} : ∀ {n : Nat} {p : List α → Prop}, AllL n p → ∀ l : List α, l.length = n → p l
  | 0, p, h, l, e => by
    cases l with
    | nil => exact h
    | cons _ _ => cases e
  | n + 1, p, h, l, e => by
    cases l with
    | nil => cases e
    | cons x l => exact AllL.at_ (h x) l (by simpa using e)
/-- the keyword-only defaults that a call leaves to the def -/
def lack (ks names : List Str) (ms : List Value) : List (Str × Value) := (names.zip ms).filter fun q => !ks.contains q.1
structure BindOk (d : Dd) (n : Nat) (ks : List Str) (sel : List SrcI) : Prop where
  bv : bindV d.fn n ks = some (sel.map (toS d.dfl d.kwd))
  idq : (!(ks.isEmpty && n == d.ps.length) || decide (sel = (List.range n).map .ps)) = true
  inb : sel.all (fun s => match s with | .ps i => decide (i < n) | .kw j => decide (j < ks.length) | .df i => decide (i < d.dfl.length) | .kd i => decide (i < d.kwd.length)) = true
  flt : (d.kwd.all fun q => (fvOf q.2).isSome) = true
  no : d.dfl = [] → d.kwd = [] → ∀ (kV doc pm : Value) (an : Option Addr) (cdv ct : Value), AllL n fun us => AllL ks.length fun ws => bindArgs (PySem.W.fnOf d.name d.qual d.params d.body d.sc .none kV doc pm an cdv ct) ⟨us, ks.zip ws⟩ = pure (d.ps.zip (selI sel us ws [] []))
  some_ : d.dfl ≠ [] → d.kwd = [] → ∀ (T : Addr) (kV doc pm : Value) (an : Option Addr) (cdv ct : Value), AllL n fun us => AllL ks.length fun ws => AllL d.dfl.length fun its => ∃ k, bindArgs (PySem.W.fnOf d.name d.qual d.params d.body d.sc (.ref T) kV doc pm an cdv ct) ⟨us, ks.zip ws⟩ = seqItems? (.ref T) >>= k ∧ k (some its.toArray) = pure (d.ps.zip (selI sel us ws its []))
  noK : d.dfl = [] → d.kwd ≠ [] → ∀ (D : Addr) (doc pm : Value) (an : Option Addr) (cdv ct : Value), AllL n fun us => AllL ks.length fun ws => AllL d.kwd.length fun ms => KwChain D (lack ks (d.kwd.map (·.1)) ms) (bindArgs (PySem.W.fnOf d.name d.qual d.params d.body d.sc .none (.ref D) doc pm an cdv ct) ⟨us, ks.zip ws⟩) (d.ps.zip (selI sel us ws [] ms))
  someK : d.dfl ≠ [] → d.kwd ≠ [] → ∀ (T D : Addr) (doc pm : Value) (an : Option Addr) (cdv ct : Value), AllL n fun us => AllL ks.length fun ws => AllL d.dfl.length fun its => AllL d.kwd.length fun ms => ∃ k, bindArgs (PySem.W.fnOf d.name d.qual d.params d.body d.sc (.ref T) (.ref D) doc pm an cdv ct) ⟨us, ks.zip ws⟩ = seqItems? (.ref T) >>= k ∧ KwChain D (lack ks (d.kwd.map (·.1)) ms) (k (some its.toArray)) (d.ps.zip (selI sel us ws its ms))
section
variable {K : PySem.W.Frag}
theorem vals_pick {vs zs ds es : List V} {us ws its ms : List Value} (r1 : Vals vs us) (r2 : Vals zs ws) (r3 : Vals ds its) (r4 : Vals es ms) (s : SrcI) : (pick4 vs zs ds es s = none ∧ pick4 us ws its ms s = none) ∨ ∃ v u, pick4 vs zs ds es s = some v ∧ pick4 us ws its ms s = some u ∧ RelV v u := by
  have key : ∀ {xs : List V} {ys : List Value} (i : Nat), Vals xs ys → (xs[i]? = none ∧ ys[i]? = none) ∨ ∃ v u, xs[i]? = some v ∧ ys[i]? = some u ∧ RelV v u := fun {xs ys} i r => by
    cases e : xs[i]? with
    | none =>
      refine .inl ⟨rfl, ?_⟩
      rw [List.getElem?_eq_none_iff] at e ⊢
      rw [← r.length]
      exact e
    | some v =>
      obtain ⟨u, e2, rv⟩ := r.get e
      exact .inr ⟨v, u, rfl, e2, rv⟩
  cases s with
  | ps i => exact key i r1
  | kw i => exact key i r2
  | df i => exact key i r3
  | kd i => exact key i r4
theorem vals_sel {vs zs ds es : List V} {us ws its ms : List Value} (r1 : Vals vs us) (r2 : Vals zs ws) (r3 : Vals ds its) (r4 : Vals es ms) : ∀ sel : List SrcI, Vals (selI sel vs zs ds es) (selI sel us ws its ms)
  | [] => .nil
  | s :: sel => by
    have ih := vals_sel r1 r2 r3 r4 sel
    unfold selI at ih ⊢
    rcases vals_pick r1 r2 r3 r4 s with ⟨e1, e2⟩ | ⟨v, u, e1, e2, rv⟩
    · rw [List.filterMap_cons, List.filterMap_cons, e1, e2]
      exact ih
    · rw [List.filterMap_cons, List.filterMap_cons, e1, e2]
      exact .cons rv ih
theorem rvs_get {L : Lk} {f : Nm} {H : Hp} : ∀ {ts : List Val} {vs : List V} {i : Nat} {t : Val}, RVs L K f H ts vs → ts[i]? = some t → ∃ v, vs[i]? = some v ∧ RV L K f H t v
  | [], vs, i, t, _, e => by simp at e
  | x :: ts, vs, i, t, r, e => by
    unfold RVs at r
    obtain ⟨v, r', rfl, h1, h2⟩ := r
    cases i with
    | zero => simp at e; subst e; exact ⟨v, rfl, h1⟩
    | succ i => exact rvs_get (i := i) h2 (by simpa using e)
/-- the values picked, of the text and of the model -/
theorem sel_rel {L : Lk} {f : Nm} {H : Hp} {dfl : List Val} {ds : List V} {kwd : List (Str × Val)} {es : List V} (hd : RVs L K f H dfl ds) (he : RVs L K f H (kwd.map (·.2)) es) {ts zs : List Val} {vs ws : List V} (r1 : RVs L K f H ts vs) (r2 : RVs L K f H zs ws) :
    ∀ (sel : List SrcI) (us : List Val), (sel.all fun s => match s with | .ps i => true | .kw j => true | .df i => decide (i < dfl.length) | .kd i => decide (i < kwd.length)) = true → selV ts zs (sel.map (toS dfl kwd)) = some us → RVs L K f H us (selI sel vs ws ds es)
  | [], us, _, e => by
    simp [selV] at e
    subst e
    unfold RVs
    rfl
  | s :: sel, us, hb, e => by
    rw [List.all_cons, Bool.and_eq_true] at hb
    simp only [List.map_cons, selV] at e
    split at e
    · rename_i v rest e1 e2
      cases e
      have ih := sel_rel hd he r1 r2 sel rest hb.2 e2
      have : ∃ v', pick4 vs ws ds es s = some v' ∧ RV L K f H v v' := by
        cases s with
        | ps i => exact rvs_get r1 e1
        | kw j => exact rvs_get r2 e1
        | df i =>
          have hi : i < dfl.length := of_decide_eq_true hb.1
          simp only [toS, pick1, Option.some.injEq] at e1
          rw [List.getD_eq_getElem?_getD, List.getElem?_eq_getElem hi] at e1
          exact rvs_get hd (by rw [List.getElem?_eq_getElem hi]; exact congrArg some e1)
        | kd i =>
          have hi : i < (kwd.map (·.2)).length := by rw [List.length_map]; exact of_decide_eq_true hb.1
          simp only [toS, pick1, Option.some.injEq] at e1
          rw [List.getD_eq_getElem?_getD, List.getElem?_eq_getElem hi] at e1
          exact rvs_get he (by rw [List.getElem?_eq_getElem hi]; exact congrArg some e1)
      obtain ⟨v', e3, rv⟩ := this
      unfold selI at ih ⊢
      rw [List.filterMap_cons, e3]
      unfold RVs
      exact ⟨v', _, rfl, rv, ih⟩
    · cases e
theorem selI_id {α : Type} (us its ms : List α) : selI ((List.range us.length).map .ps) us [] its ms = us := by
  unfold selI
  rw [List.filterMap_map]
  have e : (pick4 us [] its ms ∘ SrcI.ps) = fun i => us[i]? := rfl
  rw [e]
  clear e
  induction us with
  | nil => rfl
  | cons x us ih =>
    rw [List.length_cons, List.range_succ_eq_map, List.filterMap_cons]
    simp only [List.getElem?_cons_zero, List.filterMap_map, Function.comp_def, List.getElem?_cons_succ]
    rw [ih]
/-- a shape of call -/
theorem shp_ok {L : Lk} {d : Dd} {n : Nat} {ks : List Str} {seli : List SrcI} {f : Addr} {fd : FuncData} {dvs : List V} (F : FunD K d.name d.qual d.params d.body d.sc dvs (kwsOf d.kwd) f fd) (hd : ∀ f H, RVs L K f H d.dfl dvs) (b : BindOk d n ks seli) {sel : List Src} (hs : bindV d.fn n ks = some sel) :
    ShpOk L K fd d.ps n ks sel ∧ (ks = [] → n = d.ps.length → Binds K fd d.ps []) := by
  have es : sel = seli.map (toS d.dfl d.kwd) := Option.some.inj (hs.symm.trans b.bv)
  subst es
  obtain ⟨oc, od, dV, kV, doc, pm, an, cdv, ct, osl, rfl, lk, hcd, hD, hK⟩ := F.ex
  have hl : d.dfl.length = dvs.length := (hd (fun _ => none) (fun _ => none)).length
  have hkl : (kwsOf d.kwd).map (·.1) = d.kwd.map (·.1) := by
    have : ∀ l : List (Str × Val), (kwsOf l).map (·.1) = l.map (·.1) := fun l => by
      induction l with
      | nil => rfl
      | cons q r ih => obtain ⟨x, v⟩ := q; simp [kwsOf, ih]
    exact this _
  have hkn : d.kwd.length = (kwsOf d.kwd).length := by
    have := congrArg List.length hkl
    simpa using this.symm
  -- the defaults' values
  have main : ∃ its ms : List Value, Vals dvs its ∧ Vals ((kwsOf d.kwd).map (·.2)) ms ∧ ∀ (s : Shared) (us ws : List Value), K.In s.heap → us.length = n → ws.length = ks.length → BindsTo s (PySem.W.fnOf d.name d.qual d.params d.body d.sc dV kV doc pm an cdv ct) ⟨us, ks.zip ws⟩ (d.ps.zip (selI seli us ws its ms)) := by
    have lacks : ∀ (D : Addr) (ms : List Value), ms.length = (kwsOf d.kwd).length → (∀ q ∈ ((kwsOf d.kwd).map (·.1)).zip ms, PySem.W.nsIn K D q.1 = some (some q.2)) → ∀ q ∈ lack ks (d.kwd.map (·.1)) ms, PySem.W.nsIn K D q.1 = some (some q.2) := fun D ms _ h q hq => h q (by
      rw [hkl]
      exact (List.mem_filter.mp hq).1)
    by_cases hk0 : d.kwd = []
    · have ek : kwsOf d.kwd = [] := by rw [hk0]; rfl
      rcases hD with ⟨e, rfl⟩ | ⟨ne, T, o, its, m, rfl, lT, oT, rT⟩
      · subst e
        refine ⟨[], [], .nil, by rw [ek]; exact .nil, fun s us ws X l1 l2 => .of_eq ?_⟩
        have e0 : d.dfl = [] := List.eq_nil_of_length_eq_zero hl
        exact ((b.no e0 hk0 kV doc pm an cdv ct).at_ us l1).at_ ws l2
      · refine ⟨its, [], rT, by rw [ek]; exact .nil, fun s us ws X l1 l2 => ?_⟩
        have e0 : d.dfl ≠ [] := fun e => by
          rw [e] at hl
          exact ne (List.eq_nil_of_length_eq_zero hl.symm)
        obtain ⟨k, e1, e2⟩ := (((b.some_ e0 hk0 T kV doc pm an cdv ct).at_ us l1).at_ ws l2).at_ its (by rw [hl, rT.length])
        refine BindsTo.of_looks fun M => ?_
        rw [e1]
        exact looks_items X lT oT (.of_pure e2)
    · have ek : kwsOf d.kwd ≠ [] := fun e => hk0 (List.eq_nil_of_length_eq_zero (by rw [hkn, e]; rfl))
      rcases hK with e | ⟨D, rfl, hq⟩
      · exact absurd e ek
      · obtain ⟨ms, hml, rk, hks⟩ := kwd_vals hq
        have hks := lacks D ms hml hks
        have hmn : ms.length = d.kwd.length := hml.trans hkn.symm
        rcases hD with ⟨e, rfl⟩ | ⟨ne, T, o, its, m, rfl, lT, oT, rT⟩
        · subst e
          refine ⟨[], ms, .nil, rk, fun s us ws X l1 l2 => BindsTo.of_looks fun M => ?_⟩
          have e0 : d.dfl = [] := List.eq_nil_of_length_eq_zero hl
          exact KwChain.looks X hks ((((b.noK e0 hk0 D doc pm an cdv ct).at_ us l1).at_ ws l2).at_ ms hmn)
        · refine ⟨its, ms, rT, rk, fun s us ws X l1 l2 => ?_⟩
          have e0 : d.dfl ≠ [] := fun e => by
            rw [e] at hl
            exact ne (List.eq_nil_of_length_eq_zero hl.symm)
          obtain ⟨k, e1, e2⟩ := ((((b.someK e0 hk0 T D doc pm an cdv ct).at_ us l1).at_ ws l2).at_ its (by rw [hl, rT.length])).at_ ms hmn
          refine BindsTo.of_looks fun M => ?_
          rw [e1]
          exact looks_items X lT oT (KwChain.looks X hks e2)
  obtain ⟨its, ms, rT, rM, to⟩ := main
  refine ⟨⟨fun us ws => selI seli us ws its ms, fun vs zs => selI seli vs zs dvs ((kwsOf d.kwd).map (·.2)), ⟨to, fun r1 r2 => vals_sel r1 r2 rT rM seli⟩, ?_⟩, ?_⟩
  · intro f H ts zs vs ws us r1 r2 l1 l2 e
    refine sel_rel (hd f H) (kws_rel b.flt) r1 r2 seli us ?_ e
    have := b.inb
    rw [List.all_eq_true] at this ⊢
    intro x hx
    have := this x hx
    cases x with
    | df i => exact this
    | kd i => exact this
    | _ => rfl
  · intro hk hn s us X hlen
    subst hk hn
    rw [List.append_nil] at hlen ⊢
    have q := b.idq
    rw [Bool.or_eq_true] at q
    rcases q with q | q
    · simp at q
    · have q := of_decide_eq_true q
      have := to s us [] X hlen rfl
      rw [q, ← hlen, selI_id] at this
      exact this
end
/-! ### the program -/
/-- the __init__ of an own exception -/
structure Xi where
  g : Str
  name : Str
  qual : Str
  params : Arguments
  sc : Scope
  body : List Stmt
  N : List Str
  sf : Str
  pn : Str
  fld : Str
/-- an own exception class -/
structure Xd where
  c : Str
  sup : List Str
  flds : List Str
  xi : Option Xi := none
def Xd.dat (x : Xd) : XcD := ⟨(match x.xi with
  | some i => i.g
  | none => ""), x.flds, x.sup⟩
structure Txt where
  dds : List Dd
  tops : List Str
  cls : List (Str × ClD)
  glob : List (Str × Val)
  shapes : List (Str × Nat × List Str)
  xds : List Xd := []
  file : Str := ""
def Txt.xcl (T : Txt) : List (Str × XcD) := T.xds.map fun x => (x.c, x.dat)
def Txt.xin (T : Txt) : List (Str × XiD) := T.xds.filterMap fun x => x.xi.map fun i => (i.g, .txt i.fld)
def Txt.pg (T : Txt) : Pg := { fns := T.dds.map fun d => (d.g, d.fn), tops := T.tops, cls := T.cls, glob := T.glob, shapes := T.shapes, xcl := T.xcl, xin := T.xin }
def adIn (K : PySem.W.Frag) : List Dd → Str → Addr
  | [], _ => 0
  | d :: r, g => if g == d.g then d.ad K else adIn K r g
def Txt.lk (T : Txt) (K : PySem.W.Frag) : Lk := ⟨fun c => He.ga K c, adIn K T.dds, (0, ⟨.none, none, .fields #[], #[]⟩), []⟩
def adOf (dds : List Dd) (g : Str) : Bool × Str × Option Str := match dds.find? (fun d => g == d.g) with
  | some d => (d.prop, d.at_)
  | none => (true, "", none)
def clFa (c : Str) (C : ClD) : List He.Fa := [.glo c, .cls c, .mkr c] ++ C.flds.map (.noat c) ++ C.meths.map fun m => .meth c m.1
def Txt.fa (T : Txt) : List He.Fa := T.xds.map (fun x => .glo x.c) ++ T.tops.map .glo ++ T.cls.flatMap (fun p => clFa p.1 p.2) ++ bltNames.map .free
theorem relVal_pl {K : PySem.W.Frag} {v : Val} {u : Value} (h : relVal K v u = true) {v' : V} (r : RelV v' u) : TupPl K v v' := by
  intro ts ev
  subst ev
  cases u with
  | ref a =>
    have h0 : (match K.lookup a with
      | some ⟨.type c, od, .seq its _, _⟩ => decide (c = "tuple") && (od.isNone && (decide (its.size ≤ sizeLine) && relVals K ts its.toList))
      | _ => false) = true := by
      simpa only [relVal] using h
    cases q : K.lookup a with
    | none => rw [q] at h0; cases h0
    | some o =>
      obtain ⟨oc, od, dt, osl⟩ := o
      rw [q] at h0
      cases oc with
      | type c =>
        cases dt with
        | seq its n =>
          obtain ⟨h1, h2'⟩ := He.ba (show (decide (c = "tuple") && (od.isNone && (decide (its.size ≤ sizeLine) && relVals K ts its.toList))) = true from h0)
          obtain ⟨h2, _⟩ := He.ba h2'
          have ev : v' = .ref a := by
            cases v' <;> first | (cases r; rfl) | (obtain ⟨_, r⟩ := r; cases r) | cases r
          exact ⟨a, _, ev, q, congrArg Value.type (of_decide_eq_true h1), Option.isNone_iff_eq_none.mp h2⟩
        | _ => cases h0
      | _ => cases dt <;> cases h0
  | _ => simp [relVal] at h
def noLst (o : Obj) : Bool := match o.cls with
  | .type c => !decide (c = "list")
  | _ => true
def globB (K : PySem.W.Frag) (p : Str × Val) : Bool := match PySem.W.nsIn K mainGlobals p.1 with
  | some (some u) => relVal K p.2 u
  | _ => false
def dflsB (K : PySem.W.Frag) (d : Dd) : Bool := match K.lookup (d.ad K) with
  | some ⟨_, _, .func fd, _⟩ => (match d.dfl with
    | [] => true
    | _ => (match fd.defaults with
      | .ref T => (match K.lookup T with
        | some ⟨_, _, .seq its _, _⟩ => relVals K d.dfl its.toList
        | _ => false)
      | _ => false))
  | _ => false
def propB (K : PySem.W.Frag) (c x : Str) (g : Addr) : Bool := match PySem.W.findIn K (.ref (He.ga K c)) x with
  | some (some (.ref p)) => He.eqO (PySem.W.specialIn K (.ref p) "__get__") (some (some (.builtin "property.__get__"))) && (decide (PySem.W.takesIn K (.ref p) = some true) && (match PySem.W.recIn K p "property" with
    | some (.ref g' :: _) => decide (g' = g)
    | _ => false))
  | _ => false
def xcB (K : PySem.W.Frag) (T : Txt) (x : Xd) : Bool := (PySem.W.clsIn K (He.ga K x.c)).isSome && (xfB K (He.ga K x.c) && (decide (PySem.W.findIn K (.ref (He.ga K x.c)) "__class__" = some (some (.builtin "object.__class__"))) &&
  (decide (PySem.W.specialIn K (.builtin "object.__class__") "__get__" = some (some (.builtin "getset_descriptor.__get__"))) && (decide (PySem.W.takesIn K (.builtin "object.__class__") = some true) && (decide (PySem.W.mroIn K (He.ga K x.c) (.type "object") = some true) &&
  ((xnames T.pg).all (fun y => decide (PySem.W.kitOne K (.ref (He.ga K x.c)) (xval (T.lk K) T.pg y) = some (x.sup.contains y))) && (T.xds.all (fun y => decide (PySem.W.exmOne K (.ref (He.ga K x.c)) (.ref (He.ga K y.c)) = some (x.sup.contains y.c))) && x.flds.all fun f => decide (PySem.W.findIn K (.ref (He.ga K x.c)) f = some none))))))))
def oexB (K : PySem.W.Frag) (C : Addr) : Bool := (match K.lookup C with
  | some ⟨cl, _, .cls cd, sl⟩ => decide (cl = .type "type") && (match cd.mro, sl.toList with
    | .ref C' :: bm, [_, _, _, _, some (.builtin n), _] => decide (C' = C) && (decide (n = "ValueError.__new__") && (!cd.hasDel && (cd.hasDict && PySem.HandSPX.refsVE bm)))
    | _, _ => false)
  | _ => false) && (decide (PySem.W.findIn K (.ref C) "__setattr__" = some (some (.builtin "object.__setattr__"))) && (decide (PySem.W.subIn K (.ref C) (.type "BaseException") = some true) && (decide (PySem.W.typeIn K (.ref C) = some (.type "type")) && PySem.W.keepIn K (.ref C))))
theorem oexB_ok {K : PySem.W.Frag} {C : Addr} (h : oexB K C = true) : OexC K C := by
  obtain ⟨h1, h⟩ := He.ba h
  obtain ⟨h2, h⟩ := He.ba h
  obtain ⟨h3, h⟩ := He.ba h
  obtain ⟨h4, h5⟩ := He.ba h
  refine ⟨?_, of_decide_eq_true h2, of_decide_eq_true h3, of_decide_eq_true h4, h5⟩
  split at h1
  · rename_i cl dd cd sl ho
    obtain ⟨e1, h1⟩ := He.ba h1
    have e1 := of_decide_eq_true e1
    subst e1
    split at h1
    · rename_i C' bm s0 s1 s2 s3 n s5 em es
      obtain ⟨_, h1⟩ := He.ba h1
      obtain ⟨e2, h1⟩ := He.ba h1
      obtain ⟨e3, h1⟩ := He.ba h1
      obtain ⟨e4, h1⟩ := He.ba h1
      obtain ⟨e5, e6⟩ := He.ba h1
      have e2 := of_decide_eq_true e2
      have e3 := of_decide_eq_true e3
      subst e2 e3
      obtain ⟨nm, bs, mro, ns, qn, hd, sn, sb, ab, col, del⟩ := cd
      dsimp only at em e4 e5
      subst em
      have e4 : del = false := by simpa using e4
      subst e4 e5
      have esl : sl = #[s0, s1, s2, s3, some (.builtin "ValueError.__new__"), s5] := by
        have := congrArg List.toArray es
        simpa using this
      subst esl
      exact ⟨nm, qn, ns, bs, bm, sn, sb, ab, col, dd, s0, s1, s2, s3, s5, ho, e6⟩
    · cases h1
  · cases h1
/-- the __init__ of a class -/
def initAd (K : PySem.W.Frag) (C : Addr) : Addr := match PySem.W.findIn K (.ref C) "__init__" with
  | some (some (.ref f)) => f
  | _ => 0
abbrev FnX : Type := Option (Str × Str × Arguments × FuncBody × Scope × Addr × Addr)
def fnXO (K : PySem.W.Frag) (a : Addr) : FnX := match K.lookup a with
  | some ⟨_, _, .func y, _⟩ => some (y.name, y.qualname, y.params, y.body, y.scope, y.globals, y.builtins)
  | _ => none
def Xi.val (i : Xi) : FnX := some (i.name, i.qual, i.params, .stmts i.body, i.sc, mainGlobals, builtinsNs)
def xiB (K : PySem.W.Frag) (file : Str) (C : Addr) (i : Xi) : Bool := decide (PySem.W.findIn K (.ref C) "__init__" = some (some (.ref (initAd K C)))) && (decide (PySem.W.typeIn K (.ref (initAd K C)) = some (.type "function")) && (oexB K C && (decide (PySem.W.mroIn K C (.ref C) = some true) &&
  (decide (PySem.W.ks_superIn K C C "__init__" = some (some (.builtin "ValueError.__init__"))) && (decide (PySem.W.subIn K (.ref C) (.type "ValueError") = some true) && (decide (PySem.W.findIn K (.ref C) i.fld = some none) && (decide (PySem.W.nsIn K cStatics "thirdparty.any" = some none) && ((PySem.W.clsIn K C).isSome &&
  (match K.lookup (initAd K C) with
  | some ⟨_, _, .func y, _⟩ => (match y.closure, y.code, y.defaults, y.kwdefaults with
    | [(nm, cc)], .ref ca, .none, .none => decide (nm = ("__class__" : Str)) && (PySem.W.codeIn K (.ref ca) i.qual && ((match K.lookup ca with
        | some ⟨_, _, .fields vs, _⟩ => (match (vs[2]? : Option Value) with
          | some (.str f _) => decide (f = file)
          | _ => false)
        | _ => false) && (match K.lookup cc with
        | some ⟨_, _, .cell (some (.ref D)), _⟩ => decide (D = C)
        | _ => false)))
    | _, _, _, _ => false)
  | _ => false)))))))))
def xdB (K : PySem.W.Frag) (T : Txt) (x : Xd) : Bool := xcB K T x && (match x.xi with
  | some i => xiB K T.file (He.ga K x.c) i
  | none => true)
def itK (K : PySem.W.Frag) (C : ClD) (a : Addr) : Bool := match C.it with
  | none => true
  | some _ => decide (PySem.W.findIn K (.ref a) "__len__" = some none) && decide (PySem.W.findIn K (.ref a) "__length_hint__" = some none)
def Txt.ex (T : Txt) (K : PySem.W.Frag) : Bool := (K.all fun q => noLst q.2) && (T.glob.all (globB K) && (T.dds.all (dflsB K) && (T.xds.all (xdB K T) && T.cls.all fun p => ((!((p.2.meths.lookup ("__setitem__" : Str)).isSome) || PySem.W.noSeq K (He.ga K p.1)) && itK K p.2 (He.ga K p.1)) && p.2.props.all fun q => propB K p.1 q.1 (adIn K T.dds q.2))))
/-- the Hook -/
abbrev AlM : Type := Bool × List FnO × List FnX
def Txt.obs (T : Txt) (K : PySem.W.Frag) : AlM := ((T.fa.all fun f => f.ok K) && (T.dds.all (Dd.ok K) && T.ex K), T.dds.map fun d => fnO K (d.ad K), T.xds.filterMap fun x => x.xi.map fun _ => fnXO K (initAd K (He.ga K x.c)))
def Txt.told (T : Txt) : AlM := (true, T.dds.map Dd.val, T.xds.filterMap fun x => x.xi.map Xi.val)
structure Says (T : Txt) (K : PySem.W.Frag) : Prop where
  fa : ∀ f ∈ T.fa, f.ok K = true
  df : ∀ d ∈ T.dds, ∃ fd, FunD K d.name d.qual d.params d.body d.sc (dvsOf K (d.ad K) 0 d.dfl) (kwsOf d.kwd) (d.ad K) fd
  ex : T.ex K = true
  xi : ∀ x ∈ T.xds, ∀ i, x.xi = some i → fnXO K (initAd K (He.ga K x.c)) = i.val
theorem fm_inj {α β : Type} {f g : α → Option β} : ∀ {l : List α}, (∀ a ∈ l, (f a).isSome = (g a).isSome) → l.filterMap f = l.filterMap g → ∀ a ∈ l, f a = g a
  | [], _, _, a, h => by cases h
  | x :: l, hs, e, a, h => by
    rw [List.filterMap_cons, List.filterMap_cons] at e
    have hx := hs x List.mem_cons_self
    cases e1 : f x with
    | none =>
      cases e2 : g x with
      | none =>
        rw [e1, e2] at e
        rcases List.mem_cons.mp h with rfl | h
        · rw [e1, e2]
        · exact fm_inj (fun b hb => hs b (List.mem_cons_of_mem _ hb)) e a h
      | some z => rw [e1, e2] at hx; cases hx
    | some y =>
      cases e2 : g x with
      | none => rw [e1, e2] at hx; cases hx
      | some z =>
        rw [e1, e2] at e
        injection e with e3 e4
        rcases List.mem_cons.mp h with rfl | h
        · rw [e1, e2, e3]
        · exact fm_inj (fun b hb => hs b (List.mem_cons_of_mem _ hb)) e4 a h
theorem says_of {T : Txt} {K : PySem.W.Frag} (e : T.obs K = T.told) : Says T K := by
  have e1 : ((T.fa.all fun f => f.ok K) && (T.dds.all (Dd.ok K) && T.ex K)) = true := congrArg (fun z : AlM => z.1) e
  have e2 : (T.dds.map fun d => fnO K (d.ad K)) = T.dds.map Dd.val := congrArg (fun z : AlM => z.2.1) e
  have e3 : (T.xds.filterMap fun x => x.xi.map fun _ => fnXO K (initAd K (He.ga K x.c))) = T.xds.filterMap fun x => x.xi.map Xi.val := congrArg (fun z : AlM => z.2.2) e
  have h1 := He.ba e1
  have h2 := He.ba h1.2
  refine ⟨List.all_eq_true.mp h1.1, fun d hd => Dd.fun_ (List.map_inj_left.mp e2 d hd) (List.all_eq_true.mp h2.1 d hd), h2.2, fun x hx i ei => ?_⟩
  have := fm_inj (fun a _ => by cases a.xi <;> rfl) e3 x hx
  rw [ei] at this
  exact Option.some.inj this
def Txt.obsG (T : Txt) (g : Addr → Option Obj) : AlM := T.obs (He.frT g (He.asD g 6 ++ [cStatics]))
def Txt.hook (T : Txt) : PySem.W.Hook where
  α := AlM
  obs := fun s => T.obsG s.heap.get?
  val := fun _ => T.told
  says := fun _ h => ∃ K : PySem.W.Frag, K.In h ∧ Says T K
  of := fun _ _ e => ⟨_, He.frT_in, says_of e⟩
  keeps := fun _ _ _ z k => z.elim fun K y => ⟨K, PySem.W.Frag.In.keeps y.1 k, y.2⟩
theorem obsG_eq {T : Txt} {g : Addr → Option Obj} {s : Shared} (h : ∀ a, g a = s.heap.get? a) : T.obsG g = T.hook.obs s := by
  have : g = s.heap.get? := funext h
  subst this
  rfl
/-- .. of the __init__ of an own exception -/
structure XiOk (T : Txt) (x : Xd) (i : Xi) : Prop where
  fl : x.flds = [i.fld]
  bd : XBody i.body i.sf i.pn i.fld
  sc : NdefX.nscB i.N [i.sf, i.pn] ["__class__"] i.sc = true
  g1 : decide (i.sc.names.lookup ("super" : Str) = some .globalImplicit) = true
  g2 : decide (i.sc.names.lookup ("copy_of" : Str) = some .globalImplicit) = true
  hd : (match (i.params.posonlyargs ++ i.params.args).head? with | some ar => decide (ar.arg = i.sf) | none => false) = true
  nm : (!(i.sf == ("__debug__" : Str)) && (!(i.sf == ("__classdict__" : Str)) && (!(i.pn == ("__debug__" : Str)) && !(i.pn == ("__classdict__" : Str))))) = true
  bn : ∀ (doc pm : Value) (an : Option Addr) (ca : Addr) (ct : Value) (cc : Addr), AllL 2 fun us => bindArgs (PySem.W.ksFn i.name i.qual i.params i.body i.sc .none .none doc pm an (.ref ca) ct cc) ⟨us, []⟩ = pure ([i.sf, i.pn].zip us)
  no : (T.pg.fns.lookup i.g).isNone = true
def itT (T : Txt) (p : Str × ClD) : Bool := match p.2.it with
  | none => true
  | some fld => (match p.2.meths.lookup ("__iter__" : Str) with
    | some g => (match T.pg.fns.lookup g with
      | some D => (match D.ps with
        | [sf] => itBodyB D.body sf fld && (decide (D.sc.names.lookup ("iter" : Str) = some .globalImplicit) && (!(sf == ("__debug__" : Str)) && (!(sf == ("__classdict__" : Str)) && (decide (fld ∈ p.2.flds) && ((T.shapes.any fun s => decide (s = (g, 1, []))) && (bindV D 1 []).isSome)))))
        | _ => false)
      | none => false)
    | none => false)
/-- what is to be looked at of the text alone -/
structure TxtOk (T : Txt) : Prop where
  nd : (T.dds.map (·.g)).Nodup
  sc : (T.dds.all fun d => C8.scC d.N d.ps d.sc) = true
  sh : ∀ s ∈ T.shapes, ∃ d ∈ T.dds, d.g = s.1 ∧ ∃ sel, BindOk d s.2.1 s.2.2 sel
  tops : (T.tops.all fun g => decide (adOf T.dds g = (false, g, none)) && (T.dds.any fun d => g == d.g)) = true
  cl : (T.cls.all fun p => decide (adOf T.dds p.2.init = (false, p.1, some ("__init__" : Str))) && (T.dds.any fun d => p.2.init == d.g) && p.2.meths.all fun m => decide (adOf T.dds m.2 = (false, p.1, some m.1)) && (T.dds.any fun d => m.2 == d.g)) = true
  pr : (T.cls.all fun p => p.2.props.all fun q => (match T.pg.fns.lookup q.2 with | some D => decide (D.ps.length = 1) && (T.shapes.any fun s => decide (s = (q.2, 1, []))) && (bindV D 1 []).isSome | none => false)) = true
  nob : (bltNames.all fun x => !(T.tops.contains x) && (T.cls.lookup x).isNone && (T.glob.lookup x).isNone) = true
  xs : ∀ x ∈ T.xds, ∀ i, x.xi = some i → XiOk T x i
  it : (T.cls.all (itT T)) = true
  xe : (T.xin.lookup ("" : Str)).isNone = true
  cpy : ((T.xds.all fun x => x.xi.isNone) || (match T.pg.fns.lookup ("copy_of" : Str) with | some D => decide (D.ps.length = 1) && (decide (D.xs = []) && (T.tops.contains "copy_of" && (T.shapes.any (fun s => decide (s = (("copy_of" : Str), 1, ([] : List Str)))) && (bindV D 1 []).isSome))) | none => false)) = true
theorem lookup_map_dd : ∀ {dds : List Dd} {g : Str} {D : FnD}, (dds.map fun d => (d.g, d.fn)).lookup g = some D → ∃ d ∈ dds, d.g = g ∧ d.fn = D
  | [], g, D, h => by cases h
  | d :: r, g, D, h => by
    simp only [List.map_cons, List.lookup_cons] at h
    cases q : g == d.g with
    | true =>
      rw [q] at h
      cases h
      exact ⟨d, List.mem_cons_self, (beq_iff_eq.mp q).symm, rfl⟩
    | false =>
      rw [q] at h
      obtain ⟨d', m, e⟩ := lookup_map_dd h
      exact ⟨d', List.mem_cons_of_mem _ m, e⟩
theorem adIn_at {K : PySem.W.Frag} : ∀ {dds : List Dd} {d : Dd}, (dds.map (·.g)).Nodup → d ∈ dds → adIn K dds d.g = d.ad K
  | [], d, _, h => by cases h
  | x :: r, d, nd, h => by
    rw [List.map_cons, List.nodup_cons] at nd
    unfold adIn
    rcases List.mem_cons.mp h with rfl | h
    · simp
    · have : (d.g == x.g) = false := by
        cases q : d.g == x.g with
        | false => rfl
        | true => exact absurd (by rw [← beq_iff_eq.mp q]; exact List.mem_map_of_mem h) nd.1
      rw [this]
      simpa using adIn_at nd.2 h
theorem adIn_of {K : PySem.W.Frag} {dds : List Dd} {g : Str} {p : Str × Option Str} (h : adOf dds g = (false, p)) (ha : (dds.any fun d => g == d.g) = true) : adIn K dds g = He.fAd K p := by
  unfold adOf at h
  induction dds with
  | nil => cases ha
  | cons d r ih =>
    unfold adIn
    cases q : g == d.g with
    | true =>
      rw [List.find?_cons, q] at h
      simp only [Prod.mk.injEq] at h
      rw [if_pos rfl]
      unfold Dd.ad
      rw [h.1, if_neg (by simp), h.2]
    | false =>
      rw [List.find?_cons, q] at h
      rw [List.any_cons, q, Bool.false_or] at ha
      rw [if_neg (by simp)]
      exact ih h ha
theorem dvs_rel {L : Lk} {K : PySem.W.Frag} {a0 : Addr} {oc : Value} {od : Option Addr} {fd : FuncData} {osl : Array (Option Value)} {T : Addr} {its : Array Value} {oc2 : Value} {od2 : Option Addr} {n2 : Nat} {osl2 : Array (Option Value)} (lk : K.lookup a0 = some ⟨oc, od, .func fd, osl⟩) (ed : fd.defaults = .ref T) (lT : K.lookup T = some ⟨oc2, od2, .seq its n2, osl2⟩) :
    ∀ (vs : List Val) (i : Nat) (us : List Value), its.toList.drop i = us → relVals K vs us = true → ∀ f H, RVs L K f H vs (dvsOf K a0 i vs)
  | [], i, us, _, _, f, H => by
    unfold RVs dvsOf
    rfl
  | v :: vs, i, us, eu, h, f, H => by
    cases us with
    | nil => simp [relVals] at h
    | cons u us =>
      have h0 : (relVal K v u && relVals K vs us) = true := by simpa only [relVals] using h
      obtain ⟨h1, h2⟩ := He.ba h0
      have eu2 : its.toList.drop (i + 1) = us := by
        rw [← List.tail_drop, eu]
        rfl
      have ei : its.toList[i]? = some u := by
        have : (its.toList.drop i)[0]? = some u := by rw [eu]; rfl
        simpa using this
      have ih := dvs_rel (L := L) lk ed lT vs (i + 1) us eu2 h2 f H
      obtain ⟨v', r1, q1⟩ := relVal_ok L v u h1
      have q1 := q1 f H
      have ev : dvOf K a0 i v = v' := by
        cases v with
        | non => unfold RV at q1; subst q1; rfl
        | bl b => unfold RV at q1; subst q1; rfl
        | int b => unfold RV at q1; subst q1; rfl
        | str b => unfold RV at q1; subst q1; rfl
        | ref n => cases u <;> simp [relVal] at h1
        | fn n => cases u <;> simp [relVal] at h1
        | exn _ _ => cases u <;> simp [relVal] at h1
        | tup xs =>
          unfold RV at q1
          obtain ⟨a, vs', rfl, _⟩ := q1
          obtain rfl : u = Value.ref a := r1
          show V.ref (dfAd K a0 i) = _
          unfold dfAd
          rw [lk]
          simp only [ed, lT, ei]
      unfold RVs
      refine ⟨_, _, rfl, ?_, ih⟩
      rw [ev]
      exact q1
theorem lookup_map_xd : ∀ {xds : List Xd} {c : Str} {D : XcD}, (xds.map fun x => (x.c, x.dat)).lookup c = some D → ∃ x ∈ xds, x.c = c ∧ x.dat = D
  | [], c, D, h => by cases h
  | d :: r, c, D, h => by
    simp only [List.map_cons, List.lookup_cons] at h
    cases q : c == d.c with
    | true =>
      rw [q] at h
      cases h
      exact ⟨d, List.mem_cons_self, (beq_iff_eq.mp q).symm, rfl⟩
    | false =>
      rw [q] at h
      obtain ⟨d', m, e⟩ := lookup_map_xd h
      exact ⟨d', List.mem_cons_of_mem _ m, e⟩
/-- an own exception that may be raised -/
theorem exc_ok {T : Txt} (ok : TxtOk T) {P : Program} (hP1 : (P.main.scope.names.lookup ("super" : Str)).isSome = false) (hP2 : ((P.main.file : Str) == T.file) = true) {K : PySem.W.Frag} {mg : Str → Option Value} (hs : mg "super" = none) {x : Xd} {i : Xi} (hx : x ∈ T.xds) (ei : x.xi = some i)
    (c : Says T K) (b : xiB K T.file (He.ga K x.c) i = true) : ExcF P (T.lk K) K mg x.c x.dat := by
  have o := ok.xs x hx i ei
  obtain ⟨b1, b⟩ := He.ba b
  obtain ⟨b2, b⟩ := He.ba b
  obtain ⟨b3, b⟩ := He.ba b
  obtain ⟨b4, b⟩ := He.ba b
  obtain ⟨b5, b⟩ := He.ba b
  obtain ⟨b6, b⟩ := He.ba b
  obtain ⟨b7, b⟩ := He.ba b
  obtain ⟨b8, b⟩ := He.ba b
  obtain ⟨b9, b⟩ := He.ba b
  have e := c.xi x hx i ei
  unfold fnXO Xi.val at e
  cases q : K.lookup (initAd K (He.ga K x.c)) with
  | none => rw [q] at e; cases e
  | some ob =>
    obtain ⟨oc, od, dt, osl⟩ := ob
    rw [q] at e b
    cases dt with
    | func y =>
      obtain ⟨y1, y2, y3, y4, y5, y6, y7, y8, y9, y10, y11, y12, y13, y14, y15⟩ := y
      simp only [Option.some.injEq, Prod.mk.injEq] at e
      obtain ⟨e1, e2, e3, e4, e5, e6, e7⟩ := e
      subst e1 e2 e3 e4 e5 e6 e7
      dsimp only at b
      split at b
      · rename_i nm cc ca
        obtain ⟨d1, b⟩ := He.ba b
        obtain ⟨d2, b⟩ := He.ba b
        obtain ⟨d3, d4⟩ := He.ba b
        have d1 := of_decide_eq_true d1
        subst d1
        have code : ∃ ccl cdd vs ccs file tf, K.lookup ca = some ⟨ccl, cdd, .fields vs, ccs⟩ ∧ vs[2]? = some (.str file tf) ∧ ((P.main.file : Str) == file) = true := by
          split at d3
          · rename_i ccl cdd vs ccs eca
            split at d3
            · rename_i f tf ev
              have d3 := of_decide_eq_true d3
              subst d3
              exact ⟨ccl, cdd, vs, ccs, _, tf, eca, ev, hP2⟩
            · cases d3
          · cases d3
        have cell : ∃ cl cld csl, K.lookup cc = some ⟨cl, cld, .cell (some (.ref (He.ga K x.c))), csl⟩ := by
          split at d4
          · rename_i cl cld D csl ec
            have d4 := of_decide_eq_true d4
            subst d4
            exact ⟨cl, cld, csl, ec⟩
          · cases d4
        have hdA : ∃ ar, (i.params.posonlyargs ++ i.params.args).head? = some ar ∧ ar.arg = i.sf := by
          have := o.hd
          split at this
          · rename_i ar ea
            exact ⟨ar, ea, of_decide_eq_true this⟩
          · cases this
        have nm := o.nm
        simp only [Bool.and_eq_true, Bool.not_eq_true'] at nm
        refine ⟨⟨initAd K (He.ga K x.c), He.ga K x.c, _, i.fld, i.sf, i.pn, o.fl, ⟨⟨i.name, i.qual, i.params, i.body, i.sc, cc, ca, y10, y11, y14, oc, od, y12, osl, i.N, rfl, q, d2, code, cell, NdefX.nscope_by o.sc, of_decide_eq_true o.g1, of_decide_eq_true o.g2, hdA, o.bd⟩, Option.isSome_iff_exists.mp b9, hs, hP1, of_decide_eq_true b8, ⟨nm.1, nm.2.1⟩, ⟨nm.2.2.1, nm.2.2.2⟩⟩, ?_,
          ⟨oexB_ok b3, of_decide_eq_true b4, of_decide_eq_true b5, of_decide_eq_true b6, of_decide_eq_true b7⟩, of_decide_eq_true b1, of_decide_eq_true b2⟩⟩
        intro s us KX hl
        rw [List.append_nil] at hl ⊢
        exact .of_eq ((o.bn y10 y11 y12 ca y14 cc).at_ us hl)
      · cases b
    | _ => cases e
/-- THE FACTS of a text -/
theorem pg_ok {T : Txt} (ok : TxtOk T) {P : Program} (hP1 : (P.main.scope.names.lookup ("super" : Str)).isSome = false) (hP2 : ((P.main.file : Str) == T.file) = true) {K : PySem.W.Frag} {h : Heap} {mg : Str → Option Value} (X : K.In h) (G : h.Ns mainGlobals mg) (c : Says T K) : PgOk P T.pg (T.lk K) K mg := by
  have fact : ∀ f ∈ T.fa, f.ok K = true := c.fa
  obtain ⟨_, more⟩ := He.ba (show ((K.all fun q => noLst q.2) && _) = true from c.ex)
  obtain ⟨hglob, more⟩ := He.ba more
  obtain ⟨hdfl, more⟩ := He.ba more
  obtain ⟨hxd, hprop⟩ := He.ba more
  have fTop : ∀ g ∈ T.tops, mg g = some (.ref (He.ga K g)) := fun g hg => He.glo_ok X G (fact _ (by unfold Txt.fa; simp [hg]))
  have fCls : ∀ c C, T.cls.lookup c = some C → (c, C) ∈ T.cls := fun c C h => by
    obtain ⟨l1, l2, e, _⟩ := List.lookup_eq_some_iff.mp h
    rw [e]
    simp
  have fFa : ∀ c C, T.cls.lookup c = some C → ∀ f ∈ clFa c C, f.ok K = true := fun c C h f hf => fact _ (by
    unfold Txt.fa
    rw [List.mem_append, List.mem_append, List.mem_append]
    exact .inl (.inr (List.mem_flatMap.mpr ⟨(c, C), fCls c C h, hf⟩)))
  have fCl : ∀ c C, T.cls.lookup c = some C → (decide (adOf T.dds C.init = (false, c, some ("__init__" : Str))) && (T.dds.any fun d => C.init == d.g) && C.meths.all fun m => decide (adOf T.dds m.2 = (false, c, some m.1)) && (T.dds.any fun d => m.2 == d.g)) = true := fun c C h => List.all_eq_true.mp ok.cl (c, C) (fCls c C h)
  refine ⟨?_, ?_, ?_, ?_, ?_, ?_, ?_, ?_, ?_, ?_, ?_, ?_, ?_, rfl⟩
  · intro g D hg
    obtain ⟨d, hd, rfl, rfl⟩ := lookup_map_dd hg
    obtain ⟨fd, F⟩ := c.df d hd
    have eF : (T.lk K).F d.g = d.ad K := adIn_at ok.nd hd
    refine ⟨⟨d.name, d.qual, d.params, _, _, fd, by rw [eF]; exact F, ?_⟩, List.all_eq_true.mp ok.sc d hd⟩
    intro n ks sel hs hb
    obtain ⟨d', hd', e1, seli, b⟩ := ok.sh _ hs
    have ed : d' = d := by
      have := ok.nd
      have key : ∀ (l : List Dd), (l.map (·.g)).Nodup → d' ∈ l → d ∈ l → d'.g = d.g → d' = d := fun l => by
        induction l with
        | nil => intro _ h; cases h
        | cons x r ih =>
          intro nd h1 h2 e
          rw [List.map_cons, List.nodup_cons] at nd
          rcases List.mem_cons.mp h1 with rfl | h1
          · rcases List.mem_cons.mp h2 with rfl | h2
            · rfl
            · exact absurd (by rw [e]; exact List.mem_map_of_mem h2) nd.1
          · rcases List.mem_cons.mp h2 with rfl | h2
            · exact absurd (by rw [← e]; exact List.mem_map_of_mem ‹d' ∈ r›) nd.1
            · exact ih nd.2 h1 h2 e
      exact key _ this hd' hd e1
    subst ed
    refine shp_ok (d := d') F ?_ b hb
    intro f H
    have hB := List.all_eq_true.mp hdfl d' hd
    unfold dflsB at hB
    show RVs (T.lk K) K f H d'.dfl (dvsOf K (d'.ad K) 0 d'.dfl)
    cases q : K.lookup (d'.ad K) with
    | none => rw [q] at hB; cases hB
    | some o =>
      obtain ⟨oc, od, dt, osl⟩ := o
      rw [q] at hB
      cases dt with
      | func fd' =>
        cases ed : d'.dfl with
        | nil =>
          unfold RVs dvsOf
          rfl
        | cons v vs =>
          simp only [ed] at hB
          cases ez : fd'.defaults with
          | ref T' =>
            rw [ez] at hB
            simp only at hB
            cases q2 : K.lookup T' with
            | none => rw [q2] at hB; cases hB
            | some o2 =>
              obtain ⟨oc2, od2, dt2, osl2⟩ := o2
              rw [q2] at hB
              cases dt2 with
              | seq its n2 => exact dvs_rel q ez q2 (v :: vs) 0 its.toList rfl hB f H
              | _ => cases hB
          | _ => rw [ez] at hB; cases hB
      | _ => cases hB
  · intro g hg
    have hm : g ∈ T.tops := by simpa [Txt.pg] using hg
    have := List.all_eq_true.mp ok.tops g hm
    rw [Bool.and_eq_true] at this
    have e : (T.lk K).F g = He.ga K g := adIn_of (of_decide_eq_true this.1) this.2
    rw [e]
    exact fTop g hm
  · intro cN C hc
    have ff := fFa cN C hc
    have fc := fCl cN C hc
    simp only [Bool.and_eq_true, decide_eq_true_eq, List.all_eq_true] at fc
    obtain ⟨⟨c1, c2⟩, c3⟩ := fc
    have eI : (T.lk K).F C.init = He.ma K (He.ga K cN) "__init__" := adIn_of c1 c2
    have hp2 := He.ba (List.all_eq_true.mp hprop (cN, C) (fCls cN C hc))
    refine ⟨He.cls_ok (ff _ (by unfold clFa; simp)), ?_, ?_, ?_, ?_, fun z => by
      have h1 := (He.ba hp2.1).1
      have z : (C.meths.lookup ("__setitem__" : Str)).isSome = true := z
      rw [z] at h1
      show PySem.W.noSeq K (He.ga K cN) = true
      simpa using h1⟩
    · rw [eI]
      exact He.mkr_ok (ff _ (by unfold clFa; simp))
    · intro x hx
      exact He.noat_ok (ff (.noat cN x) (by unfold clFa; simp [hx]))
    · intro p hp
      obtain ⟨m1, m2⟩ := c3 p hp
      have e : (T.lk K).F p.2 = He.ma K (He.ga K cN) p.1 := adIn_of m1 m2
      rw [e]
      exact He.meth_ok (ff (.meth cN p.1) (by unfold clFa; simp; exact ⟨_, hp⟩))
    · intro p hp
      have := List.all_eq_true.mp hp2.2 p hp
      unfold propB at this
      show ∃ q, PropOf K (He.ga K cN) p.1 q (adIn K T.dds p.2)
      cases q : PySem.W.findIn K (.ref (He.ga K cN)) p.1 with
      | none => rw [q] at this; cases this
      | some r =>
        rw [q] at this
        cases r with
        | none => cases this
        | some u =>
          cases u with
          | ref pa =>
            obtain ⟨z1, z2⟩ := He.ba this
            obtain ⟨z3, z4⟩ := He.ba z2
            cases qr : PySem.W.recIn K pa "property" with
            | none => rw [qr] at z4; cases z4
            | some l =>
              rw [qr] at z4
              cases l with
              | nil => cases z4
              | cons y rest =>
                cases y with
                | ref g' =>
                  have e : g' = adIn K T.dds p.2 := of_decide_eq_true z4
                  subst e
                  exact ⟨pa, q, He.eqO_ok z1, of_decide_eq_true z3, rest, qr⟩
                | _ => cases z4
          | _ => cases this
  · intro cN C hc
    exact He.glo_ok X G (fFa cN C hc (.glo cN) (by unfold clFa; simp))
  · intro x v hv
    have hm : (x, v) ∈ T.glob := by
      obtain ⟨l1, l2, e, _⟩ := List.lookup_eq_some_iff.mp hv
      have e : T.glob = l1 ++ (x, v) :: l2 := e
      rw [e]
      simp
    have := List.all_eq_true.mp hglob (x, v) hm
    unfold globB at this
    cases q : PySem.W.nsIn K mainGlobals x with
    | none => simp only [q] at this; cases this
    | some r =>
      simp only [q] at this
      cases r with
      | none => cases this
      | some u =>
        obtain ⟨v', r1, r2⟩ := relVal_ok (T.lk K) v u this
        exact ⟨v', u, PySem.W.mg_of X G q, r1, r2, relVal_pl this r1⟩
  · intro x hx _ _ _
    exact He.free_ok X G (fact _ (by unfold Txt.fa; simp [hx]))
  · intro x hx
    have := List.all_eq_true.mp ok.nob x hx
    simpa [Txt.pg, and_assoc] using this
  · intro cN C x g hc hp
    have hm : (x, g) ∈ C.props := by
      obtain ⟨l1, l2, e, _⟩ := List.lookup_eq_some_iff.mp hp
      rw [e]
      simp
    have := List.all_eq_true.mp (List.all_eq_true.mp ok.pr (cN, C) (fCls cN C hc)) (x, g) hm
    cases q : T.pg.fns.lookup g with
    | none => simp only [q] at this; cases this
    | some D =>
      simp only [q, Bool.and_eq_true, decide_eq_true_eq] at this
      obtain ⟨⟨p1, p2⟩, p3⟩ := this
      refine ⟨D, rfl, p1, ?_, ?_⟩
      · obtain ⟨s, hs, e⟩ := List.any_eq_true.mp p2
        have := of_decide_eq_true e
        subst this
        exact hs
      · exact Option.isSome_iff_exists.mp p3
  · intro cN D hc
    obtain ⟨x, hx, rfl, rfl⟩ := lookup_map_xd hc
    obtain ⟨b, _⟩ := He.ba (List.all_eq_true.mp hxd x hx)
    obtain ⟨b1, b⟩ := He.ba b
    obtain ⟨b2, b⟩ := He.ba b
    obtain ⟨b3, b⟩ := He.ba b
    obtain ⟨b4, b⟩ := He.ba b
    obtain ⟨b5, b⟩ := He.ba b
    obtain ⟨b6, b⟩ := He.ba b
    obtain ⟨b7, b⟩ := He.ba b
    obtain ⟨b8, b9⟩ := He.ba b
    have xf := xfB_ok b2
    refine ⟨b1, xf.ga, xf.gg, xf.exC, of_decide_eq_true b3, of_decide_eq_true b4, of_decide_eq_true b5, of_decide_eq_true b6, xf.hdC, fun y hy => of_decide_eq_true (List.all_eq_true.mp b7 y hy), fun y Dy hy => ?_, fun f hf => of_decide_eq_true (List.all_eq_true.mp b9 f hf)⟩
    obtain ⟨z, hz, rfl, _⟩ := lookup_map_xd hy
    exact of_decide_eq_true (List.all_eq_true.mp b8 z hz)
  · intro cN D hc
    obtain ⟨x, hx, rfl, rfl⟩ := lookup_map_xd hc
    exact He.glo_ok X G (fact (.glo x.c) (by unfold Txt.fa; simp only [List.mem_append, List.mem_map]; exact .inl (.inl (.inl ⟨x, hx, rfl⟩))))
  · intro cN D hc hi
    obtain ⟨x, hx, rfl, rfl⟩ := lookup_map_xd hc
    obtain ⟨_, b⟩ := He.ba (List.all_eq_true.mp hxd x hx)
    cases ei : x.xi with
    | none =>
      exfalso
      have : x.dat.init = ("" : Str) := by unfold Xd.dat; rw [ei]
      rw [this] at hi
      have z := ok.xe
      have hi : (T.xin.lookup ("" : Str)).isSome = true := hi
      cases q : T.xin.lookup ("" : Str) with
      | none => rw [q] at hi; cases hi
      | some _ => rw [q] at z; cases z
    | some i =>
      rw [ei] at b
      refine ⟨exc_ok ok hP1 hP2 (He.free_ok X G (fact (.free "super") (by unfold Txt.fa; simp only [List.mem_append, List.mem_map]; exact .inr ⟨"super", by decide +kernel, rfl⟩))) hx ei c b, ?_⟩
      have : x.dat.init = i.g := by unfold Xd.dat; rw [ei]
      rw [this]
      have z := (ok.xs x hx i ei).no
      cases q : T.pg.fns.lookup i.g with
      | none => rfl
      | some _ => rw [q] at z; cases z
  · intro hne
    have z := ok.cpy
    rw [Bool.or_eq_true] at z
    rcases z with z | z
    · exfalso
      apply hne
      show T.xin = []
      unfold Txt.xin
      rw [List.filterMap_eq_nil_iff]
      intro x hx
      have := List.all_eq_true.mp z x hx
      cases ei : x.xi with
      | none => rfl
      | some i => rw [ei] at this; cases this
    · cases q : T.pg.fns.lookup ("copy_of" : Str) with
      | none => rw [q] at z; cases z
      | some D =>
        rw [q] at z
        dsimp only at z
        obtain ⟨z1, z⟩ := He.ba z
        obtain ⟨z2, z⟩ := He.ba z
        obtain ⟨z3, z⟩ := He.ba z
        obtain ⟨z4, z5⟩ := He.ba z
        have z1 := of_decide_eq_true z1
        obtain ⟨cp, hcp⟩ : ∃ cp, D.ps = [cp] := by
          match hh : D.ps, z1 with
          | [cp], _ => exact ⟨cp, rfl⟩
        obtain ⟨s, hs, e⟩ := List.any_eq_true.mp z4
        have := of_decide_eq_true e
        subst this
        exact ⟨D, cp, rfl, hcp, of_decide_eq_true z2, z3, hs, Option.isSome_iff_exists.mp z5⟩
  · intro cN C fld hc hi
    have t1 := List.all_eq_true.mp ok.it (cN, C) (fCls cN C hc)
    have t2 := (He.ba (He.ba (List.all_eq_true.mp hprop (cN, C) (fCls cN C hc))).1).2
    unfold itT at t1
    unfold itK at t2
    simp only [hi] at t1 t2
    split at t1
    · rename_i g eg
      split at t1
      · rename_i D eD
        split at t1
        · rename_i sf es
          simp only [Bool.and_eq_true, Bool.not_eq_true', decide_eq_true_eq] at t1 t2
          obtain ⟨u1, u2, u3, u4, u5, u6, u7⟩ := t1
          obtain ⟨s, hs, e⟩ := List.any_eq_true.mp u6
          have := of_decide_eq_true e
          subst this
          obtain ⟨sel, hsel⟩ := Option.isSome_iff_exists.mp u7
          exact ⟨g, D, sf, sel, eg, eD, es, itBodyB_ok u1, u2, ⟨u3, u4⟩, u5, hs, hsel, t2.1, t2.2⟩
        · cases t1
      · cases t1
    · cases t1
/-- the script as the mini interpreter has it -/
def mem0 (ns : List Int) : Mem := [.rol (ns.map .int)]
theorem script_sim {L : Lk} {K : PySem.W.Frag} {H : Hp} {a : Addr} {ns : List Int} (hK : (K.all fun q => noLst q.2) = true) (hO : Only H) (hS : SqL K H a (ns.map V.int)) : Sim L K (fun n => if n = 0 then some a else none) (mem0 ns) H := by
  have hf : ∃ o, H a = some (.frz o (.lst (ns.map V.int))) := by
    rcases hS with (h | ⟨o, h⟩) | ⟨o, its, n, lk, ec, _⟩
    · rcases hO a with z | ⟨o, xs, z⟩
      · rw [h] at z; cases z
      · rw [h] at z; cases z
    · exact ⟨o, h⟩
    · exfalso
      have := List.all_eq_true.mp hK (a, o) (He.lookup_mem lk)
      unfold noLst at this
      rw [ec] at this
      simp at this
  obtain ⟨o, hf⟩ := hf
  refine ⟨?_, ?_, ?_⟩
  · intro n m b e1 e2
    by_cases h1 : n = 0
    · by_cases h2 : m = 0
      · rw [h1, h2]
      · rw [if_neg h2] at e2; cases e2
    · rw [if_neg h1] at e1; cases e1
  · intro n hn
    have : n = 0 := by
      have : n < 1 := hn
      omega
    exact ⟨a, if_pos this⟩
  · intro n b e
    by_cases h1 : n = 0
    · subst h1
      cases e
      refine ⟨_, rfl, o, _, hf, ?_⟩
      have : ∀ ns : List Int, RVs L K (fun n => if n = 0 then some a else none) H (ns.map .int) (ns.map V.int) := fun ns => by
        induction ns with
        | nil => simp only [List.map_nil]; unfold RVs; rfl
        | cons x r ih => simp only [List.map_cons]; unfold RVs; exact ⟨_, _, rfl, by unfold RV; rfl, ih⟩
      exact this ns
    · rw [if_neg h1] at e; cases e
/-- the law's promise off the mini interpreter -/
theorem law_walk {T : Txt} (ok : TxtOk T) {l : PySem.W.OpenLaw} {n dq : Nat} {q : Program} {loose : List Str} {XP : (Str → Option Value) → Heap → Prop} {dl : Dd} {d : DefRec} {x : Str}
    (hn : l.most = some n) (hn2 : n ≤ sizeLine) (hdf : d.params.defaults = []) (hr : Room (2 * (dq + 1) + 3) callerA) (hd : d.name = ("law" : Str)) (hdl : dl ∈ T.dds) (hg : dl.g = ("law" : Str)) (hat : dl.at_ = (("law" : Str), none)) (htop : T.tops.contains "law" = true) (hps : dl.ps = [x]) (hdd : dl.dfl = []) (hkk : dl.kwd = [])
    (hbnd : BindOk dl 1 [] [.ps 0]) (hP1 : (l.prog.main.scope.names.lookup ("super" : Str)).isSome = false) (hP2 : ((l.prog.main.file : Str) == T.file) = true)
    (main : ∀ ns : List Int, ns.length ≤ n → ∃ h', callF T.pg (dq + 1) "law" [.ref 0] (mem0 ns) = .ok (.bl true) h') :
    PySem.W.WalkO q loose XP T.hook.says l.row.toRowW d [] (fun f vs => PySem.call f vs) := by
  refine L2.walk_ofE (l := l) (n := n) (k := 2 * (dq + 1) + 3) (x := x) (CX := fun outer H s E u s' => ∃ w, L2N.CX l.prog w outer H s E u s') hn hn2 hdf hr ?_ (fun H s e s' ⟨w, z⟩ => by
    obtain ⟨a, B, H', cls, d, _, _, _, _, _, _, _, z⟩ := z
    exact z)
  intro w mg fa h Y G hmg
  obtain ⟨K, KX, c⟩ := Y
  rw [hd] at hmg
  have pg := pg_ok ok (P := l.prog) hP1 hP2 KX G c
  have hl : T.pg.fns.lookup ("law" : Str) = some dl.fn := by
    have key : ∀ (l : List Dd), (l.map (·.g)).Nodup → dl ∈ l → (l.map fun d => (d.g, d.fn)).lookup ("law" : Str) = some dl.fn := fun l => by
      induction l with
      | nil => intro _ h; cases h
      | cons y r ih =>
        intro nd hm
        rw [List.map_cons, List.nodup_cons] at nd
        simp only [List.map_cons, List.lookup_cons]
        rcases List.mem_cons.mp hm with e | hm
        · subst e
          rw [hg]
          simp
        · have : (("law" : Str) == y.g) = false := by
            cases q : (("law" : Str) == y.g) with
            | false => rfl
            | true => exact absurd (by rw [← beq_iff_eq.mp q, ← hg]; exact List.mem_map_of_mem hm) nd.1
          rw [this]
          exact ih nd.2 hm
    exact key T.dds ok.nd hdl
  have eF : (T.lk K).F "law" = fa := by
    have := (pg.top "law" htop).symm.trans hmg
    cases this
    rfl
  obtain ⟨fd, FD⟩ := c.df dl hdl
  have eA : dl.ad K = fa := by
    rw [← eF, ← hg]
    exact (adIn_at ok.nd hdl).symm
  have hK : (K.all fun q => noLst q.2) = true := (He.ba (show ((K.all fun q => noLst q.2) && _) = true from c.ex)).1
  refine ⟨K, fd, spF (T.lk K) K 1 dl.xs (callF T.pg (dq + 1) "law"), KX, ?_, ?_, ?_⟩
  · intro s u
    have FD' : FunD K dl.name dl.qual dl.params dl.body dl.sc [] [] (dl.ad K) fd := by
      have := FD
      rw [hdd, hkk] at this
      exact this
    have := FunD.bindsA (ps := dl.ps) FD' (fun kV doc pm an cdv ct us hl => by
      rw [hps] at hl
      have := ((hbnd.no hdd hkk kV doc pm an cdv ct).at_ us hl).at_ [] rfl
      match us, hl with
      | [u], _ => exact this) s [u] (by rw [hps]; rfl)
    rw [hps] at this
    exact this
  · intro H a ns hl hO hS
    obtain ⟨h', e⟩ := main ns hl
    refine ⟨rfl, _, _, [.ref 0], script_sim hK hO hS, ArgR.of ?_, ?_⟩
    · unfold RVs
      refine ⟨_, _, rfl, ?_, ?_⟩
      · unfold RV
        exact ⟨a, rfl, rfl⟩
      · unfold RVs
        rfl
    · rw [e]
      intro f' H' v' _ _ rv
      unfold RV at rv
      exact rv
  · intro base hb hN
    have e1 : dl.ps = dl.fn.ps := rfl
    have F1 : FunD K dl.name dl.qual dl.params dl.fn.body dl.fn.sc (dvsOf K (dl.ad K) 0 dl.dfl) (kwsOf dl.kwd) ((T.lk K).F "law") fd := by
      rw [eF, ← eA]
      exact FD
    have Fo := fnStep (P := l.prog) (w := w) (base := base) (d := dq) pg (fnAll pg dq).1 (fnAll pg dq).2 hl F1
    rw [← e1, hps, eF] at Fo
    refine ⟨Fo.len, fun A outer s H args us vs Q E r1 r2 r3 r4 r5 => codeAny_mono (Fo.run A outer s H args us vs Q E r1 r2 r3 r4 r5) fun r s' hc => ?_⟩
    cases r with
    | error e => exact ⟨w, hc⟩
    | ok fl =>
      cases fl with
      | ret u => exact hc
      | next => exact hc
      | brk => exact hc
      | cont => exact hc
end Mp
set_option Elab.async false
set_option linter.all false
set_option maxRecDepth 100000
set_option maxHeartbeats 1000000
namespace Mp
open PySem
/-! ### what a run promises -/
abbrev XQ := Str → List (Str × Val) → Mem → Prop
def nX : XQ := fun _ _ _ => False
/-- an option's content -/
def optP {α : Type} (o : Option α) (P : α → Prop) : Prop := match o with
  | some a => P a
  | none => False
@[simp] theorem optP_some {α : Type} (a : α) (P : α → Prop) : optP (some a) P ↔ P a := Iff.rfl
@[simp] theorem optP_none {α : Type} (P : α → Prop) : optP (none : Option α) P ↔ False := Iff.rfl
@[simp] theorem optP_map {α β : Type} (f : α → β) (o : Option α) (P : β → Prop) : optP (o.map f) P ↔ optP o fun a => P (f a) := by cases o <;> rfl
theorem optP_of {α : Type} {o : Option α} {P : α → Prop} {a : α} (e : o = some a) (p : P a) : optP o P := by rw [e]; exact p
def Res.W {α : Type} (r : Res α) (Q : α → Mem → Prop) (X : XQ) : Prop := match r with
  | .ok a h => Q a h
  | .exc c fs h => X c fs h
  | .bad => False
section
variable {α β : Type} {Q Q' : α → Mem → Prop} {X : XQ}
@[simp] theorem W_ok (a : α) (h : Mem) : (Res.ok a h).W Q X ↔ Q a h := Iff.rfl
@[simp] theorem W_exc (c : Str) (fs : List (Str × Val)) (h : Mem) : (Res.exc c fs h : Res α).W Q X ↔ X c fs h := Iff.rfl
@[simp] theorem W_bad : (Res.bad : Res α).W Q X ↔ False := Iff.rfl
@[simp] theorem W_bind {Q : β → Mem → Prop} (r : Res α) (k : α → Mem → Res β) : (r.bind k).W Q X ↔ r.W (fun a h => (k a h).W Q X) X := by
  cases r <;> rfl
@[simp] theorem W_opt (o : Option α) (h : Mem) : (Res.opt o h).W Q X ↔ optP o fun a => Q a h := by
  cases o <;> simp [Res.opt]
@[simp] theorem W_shut (r : Res α) : r.shut.W Q X ↔ r.W Q nX := by
  cases r <;> simp [Res.shut, nX]
theorem W_ite {c : Prop} [Decidable c] (a b : Res α) : (if c then a else b).W Q X ↔ (c → a.W Q X) ∧ (¬ c → b.W Q X) := by
  by_cases h : c <;> simp [h]
theorem Res.W.imp {r : Res α} {X' : XQ} (w : r.W Q X) (i : ∀ a h, Q a h → Q' a h) (j : ∀ c fs h, X c fs h → X' c fs h) : r.W Q' X' := by
  cases r with
  | ok a h => exact i _ _ w
  | exc c fs h => exact j _ _ _ w
  | bad => exact w
theorem Res.W.mono {r : Res α} (w : r.W Q nX) (i : ∀ a h, Q a h → Q' a h) : r.W Q' X := w.imp i fun _ _ _ z => z.elim
end
theorem W_eq {α : Type} {r : Res α} {v : α} {h : Mem} (w : r.W (fun a h' => a = v ∧ h' = h) nX) : r = .ok v h := by
  cases r with
  | ok a h' => obtain ⟨rfl, rfl⟩ := w; rfl
  | exc c fs h' => exact w.elim
  | bad => exact w.elim
/-- how a suite may end -/
structure Po where
  nx : Env → Mem → Prop
  rt : Val → Mem → Prop
  bk : Env → Mem → Prop := fun _ _ => False
  ct : Env → Mem → Prop := fun _ _ => False
  xc : Env → XQ := fun _ => nX
def Fw (r : Res Fl) (P : Po) : Prop := match r with
  | .ok (.nx ρ) h => P.nx ρ h
  | .ok (.rt v) h => P.rt v h
  | .ok (.bk ρ) h => P.bk ρ h
  | .ok (.ct ρ) h => P.ct ρ h
  | .ok (.xc ρ c fs) h => P.xc ρ c fs h
  | .exc _ _ _ => False
  | .bad => False
section
variable {P : Po} {ρ : Env} {h : Mem}
@[simp] theorem Fw_nx : Fw (.ok (.nx ρ) h) P ↔ P.nx ρ h := Iff.rfl
@[simp] theorem Fw_rt (v : Val) : Fw (.ok (.rt v) h) P ↔ P.rt v h := Iff.rfl
@[simp] theorem Fw_bk : Fw (.ok (.bk ρ) h) P ↔ P.bk ρ h := Iff.rfl
@[simp] theorem Fw_ct : Fw (.ok (.ct ρ) h) P ↔ P.ct ρ h := Iff.rfl
@[simp] theorem Fw_xc (c : Str) (fs : List (Str × Val)) : Fw (.ok (.xc ρ c fs) h) P ↔ P.xc ρ c fs h := Iff.rfl
@[simp] theorem Fw_bad : Fw .bad P ↔ False := Iff.rfl
@[simp] theorem Fw_onE {α : Type} (r : Res α) (k : α → Mem → Res Fl) : Fw (onE r ρ k) P ↔ r.W (fun v h => Fw (k v h) P) (P.xc ρ) := by
  cases r <;> rfl
@[simp] theorem Fw_then (r : Res Fl) (k : Env → Mem → Res Fl) : Fw (thenF r k) P ↔ Fw r { P with nx := fun ρ h => Fw (k ρ h) P } := by
  cases r with
  | ok f h => cases f <;> rfl
  | _ => rfl
theorem Fw_ite {c : Prop} [Decidable c] (a b : Res Fl) : Fw (if c then a else b) P ↔ (c → Fw a P) ∧ (¬ c → Fw b P) := by
  by_cases h : c <;> simp [h]
theorem Fw.imp {r : Res Fl} {P' : Po} (w : Fw r P) (i1 : ∀ ρ h, P.nx ρ h → P'.nx ρ h) (i2 : ∀ v h, P.rt v h → P'.rt v h) (i3 : ∀ ρ h, P.bk ρ h → P'.bk ρ h) (i4 : ∀ ρ h, P.ct ρ h → P'.ct ρ h) (i5 : ∀ ρ c fs h, P.xc ρ c fs h → P'.xc ρ c fs h) : Fw r P' := by
  cases r with
  | ok f h =>
    cases f with
    | nx ρ => exact i1 _ _ w
    | rt v => exact i2 _ _ w
    | bk ρ => exact i3 _ _ w
    | ct ρ => exact i4 _ _ w
    | xc ρ c fs => exact i5 _ _ _ _ w
  | _ => exact w
theorem W_fin {Q : Val → Mem → Prop} {X : XQ} (r : Res Fl) : (fin r).W Q X ↔ Fw r ⟨fun _ h => Q .non h, Q, fun _ _ => False, fun _ _ => False, fun _ => X⟩ := by
  cases r with
  | ok f h => cases f <;> rfl
  | _ => rfl
end
/-! ### turns -/
section
variable {w : Wk} {t : Tg} {body els : MS} {P : Po}
/-- a for: I holds ahead of turn i -/
theorem for_wk (n : Nat) (I : Nat → Env → Mem → Prop)
    (turn : ∀ i ρ h, i < n → I i ρ h → ∃ v ρ1, w.at_ i h = some (some v) ∧ put1 t v ρ = some ρ1 ∧ Fw (body ρ1 h) ⟨I (i + 1), P.rt, P.nx, I (i + 1), P.xc⟩)
    (stop : ∀ ρ h, I n ρ h → w.at_ n h = some none ∧ Fw (els ρ h) P) : ∀ (k i fuel : Nat) (ρ : Env) (h : Mem), n - i = k → i ≤ n → n - i ≤ fuel → I i ρ h → Fw (forF w t body els fuel i ρ h) P := by
  intro k
  induction k with
  | zero =>
    intro i fuel ρ h hk hi hf hI
    have e : i = n := by omega
    subst e
    obtain ⟨e1, e2⟩ := stop ρ h hI
    unfold forF
    rw [e1]
    exact e2
  | succ k ih =>
    intro i fuel ρ h hk hi hf hI
    obtain ⟨v, ρ1, e1, e2, e3⟩ := turn i ρ h (by omega) hI
    unfold forF
    rw [e1]
    cases fuel with
    | zero => omega
    | succ fuel =>
      simp only [e2]
      cases e : body ρ1 h with
      | ok f h2 =>
        rw [e] at e3
        cases f with
        | nx ρ2 => exact ih (i + 1) fuel ρ2 h2 (by omega) (by omega) (by omega) e3
        | ct ρ2 => exact ih (i + 1) fuel ρ2 h2 (by omega) (by omega) (by omega) e3
        | bk ρ2 => exact e3
        | rt v => exact e3
        | xc ρ c fs => exact e3
      | exc c fs h2 => rw [e] at e3; exact e3
      | bad => rw [e] at e3; exact e3
/-- for k in range(n) -/
theorem for_rng {j : Nat} {lo : Int} {n : Nat} {ρ : Env} {h : Mem} (I : Nat → Env → Mem → Prop) (h0 : I 0 ρ h)
    (turn : ∀ i ρ h, i < n → I i ρ h → Fw (body (ρ.set j (some (.int (lo + i)))) h) ⟨I (i + 1), P.rt, P.nx, I (i + 1), P.xc⟩)
    (stop : ∀ ρ h, I n ρ h → Fw (els ρ h) P) : Fw (forF (wkR lo n) (.nm j) body els (wkR lo n).fuel 0 ρ h) P := by
  refine for_wk n I (fun i ρ h hi hI => ⟨_, _, by simp [wkR, hi], rfl, turn i ρ h hi hI⟩) (fun ρ h hI => ⟨by simp [wkR], stop ρ h hI⟩) n 0 _ ρ h rfl (Nat.zero_le _) (Nat.le_refl _) h0
/-- for x in a list that keeps its items -/
theorem for_lst {j a : Nat} {xs : List Val} {ρ : Env} {h : Mem} (I : Nat → Env → Mem → Prop) (h0 : I 0 ρ h) (keep : ∀ i ρ h, i ≤ xs.length → I i ρ h → h[a]? = some (.lst xs))
    (turn : ∀ i x ρ h, xs[i]? = some x → I i ρ h → Fw (body (ρ.set j (some x)) h) ⟨I (i + 1), P.rt, P.nx, I (i + 1), P.xc⟩)
    (stop : ∀ ρ h, I xs.length ρ h → Fw (els ρ h) P) : Fw (forF (wkL a xs.length) (.nm j) body els (wkL a xs.length).fuel 0 ρ h) P := by
  refine for_wk xs.length I (fun i ρ h hi hI => ⟨xs[i], _, by simp [wkL, keep i ρ h (by omega) hI, hi], rfl, turn i _ ρ h (by simp [hi]) hI⟩) (fun ρ h hI => ⟨by simp [wkL, keep _ ρ h (Nat.le_refl _) hI], stop ρ h hI⟩) xs.length 0 _ ρ h rfl (Nat.zero_le _) (Nat.le_refl _) h0
theorem for_rol {j a : Nat} {xs : List Val} {ρ : Env} {h : Mem} (I : Nat → Env → Mem → Prop) (h0 : I 0 ρ h) (keep : ∀ i ρ h, i ≤ xs.length → I i ρ h → h[a]? = some (.rol xs))
    (turn : ∀ i x ρ h, xs[i]? = some x → I i ρ h → Fw (body (ρ.set j (some x)) h) ⟨I (i + 1), P.rt, P.nx, I (i + 1), P.xc⟩)
    (stop : ∀ ρ h, I xs.length ρ h → Fw (els ρ h) P) : Fw (forF (wkL a xs.length) (.nm j) body els (wkL a xs.length).fuel 0 ρ h) P := by
  refine for_wk xs.length I (fun i ρ h hi hI => ⟨xs[i], _, by simp [wkL, keep i ρ h (by omega) hI, hi], rfl, turn i _ ρ h (by simp [hi]) hI⟩) (fun ρ h hI => ⟨by simp [wkL, keep _ ρ h (Nat.le_refl _) hI], stop ρ h hI⟩) xs.length 0 _ ρ h rfl (Nat.zero_le _) (Nat.le_refl _) h0
/-- for i, x in enumerate(a list that keeps its items) -/
theorem for_enum {j k a : Nat} {xs : List Val} {ρ : Env} {h : Mem} (I : Nat → Env → Mem → Prop) (h0 : I 0 ρ h) (keep : ∀ i ρ h, i ≤ xs.length → I i ρ h → h[a]? = some (.lst xs))
    (turn : ∀ i x ρ h, xs[i]? = some x → I i ρ h → Fw (body ((ρ.set j (some (.int i))).set k (some x)) h) ⟨I (i + 1), P.rt, P.nx, I (i + 1), P.xc⟩)
    (stop : ∀ ρ h, I xs.length ρ h → Fw (els ρ h) P) : Fw (forF (wkE (wkL a xs.length)) (.tp [.nm j, .nm k]) body els (wkE (wkL a xs.length)).fuel 0 ρ h) P := by
  refine for_wk xs.length I (fun i ρ h hi hI => ⟨.tup [.int i, xs[i]], _, by simp [wkE, wkL, keep i ρ h (by omega) hI, hi], rfl, turn i _ ρ h (by simp [hi]) hI⟩) (fun ρ h hI => ⟨by simp [wkE, wkL, keep _ ρ h (Nat.le_refl _) hI], stop ρ h hI⟩) xs.length 0 _ ρ h rfl (Nat.zero_le _) (Nat.le_refl _) h0
/-- for i, x in enumerate(a tuple) -/
theorem for_enumT {j k : Nat} {xs : List Val} {ρ : Env} {h : Mem} (I : Nat → Env → Mem → Prop) (h0 : I 0 ρ h)
    (turn : ∀ i x ρ h, xs[i]? = some x → I i ρ h → Fw (body ((ρ.set j (some (.int i))).set k (some x)) h) ⟨I (i + 1), P.rt, P.nx, I (i + 1), P.xc⟩)
    (stop : ∀ ρ h, I xs.length ρ h → Fw (els ρ h) P) : Fw (forF (wkE (wkT xs)) (.tp [.nm j, .nm k]) body els (wkE (wkT xs)).fuel 0 ρ h) P := by
  refine for_wk xs.length I (fun i ρ h hi hI => ⟨.tup [.int i, xs[i]], _, by simp [wkE, wkT, hi], rfl, turn i _ ρ h (by simp [hi]) hI⟩) (fun ρ h hI => ⟨by simp [wkE, wkT], stop ρ h hI⟩) xs.length 0 _ ρ h rfl (Nat.zero_le _) (Nat.le_refl _) h0
/-- for i, (x, y) in enumerate(a tuple of pairs), any target -/
theorem for_enumTt {t : Tg} {xs : List Val} {ρ : Env} {h : Mem} (I : Nat → Env → Mem → Prop) (h0 : I 0 ρ h)
    (turn : ∀ i x ρ h, xs[i]? = some x → I i ρ h → ∃ ρ1, put1 t (.tup [.int i, x]) ρ = some ρ1 ∧ Fw (body ρ1 h) ⟨I (i + 1), P.rt, P.nx, I (i + 1), P.xc⟩)
    (stop : ∀ ρ h, I xs.length ρ h → Fw (els ρ h) P) : Fw (forF (wkE (wkT xs)) t body els (wkE (wkT xs)).fuel 0 ρ h) P := by
  refine for_wk xs.length I (fun i ρ h hi hI => ?_) (fun ρ h hI => ⟨by simp [wkE, wkT], stop ρ h hI⟩) xs.length 0 _ ρ h rfl (Nat.zero_le _) (Nat.le_refl _) h0
  obtain ⟨ρ1, e1, e2⟩ := turn i xs[i] ρ h (by simp [hi]) hI
  exact ⟨.tup [.int i, xs[i]], ρ1, by simp [wkE, wkT, hi], e1, e2⟩
/-- for i, x in enumerate(a text) -/
theorem for_enumS {j k : Nat} {z : Str} {ρ : Env} {h : Mem} (I : Nat → Env → Mem → Prop) (h0 : I 0 ρ h)
    (turn : ∀ i c ρ h, z.cps[i]? = some c → I i ρ h → Fw (body ((ρ.set j (some (.int i))).set k (some (.str ⟨#[c]⟩))) h) ⟨I (i + 1), P.rt, P.nx, I (i + 1), P.xc⟩)
    (stop : ∀ ρ h, I z.cps.size ρ h → Fw (els ρ h) P) : Fw (forF (wkE (wkS z)) (.tp [.nm j, .nm k]) body els (wkE (wkS z)).fuel 0 ρ h) P := by
  refine for_wk z.cps.size I (fun i ρ h hi hI => ⟨.tup [.int i, .str ⟨#[z.cps[i]]⟩], _, by simp [wkE, wkS, hi], rfl, turn i _ ρ h (by simp [hi]) hI⟩) (fun ρ h hI => ⟨by simp [wkE, wkS], stop ρ h hI⟩) z.cps.size 0 _ ρ h rfl (Nat.zero_le _) (Nat.le_refl _) h0
/-- for x in a text -/
theorem for_str {j : Nat} {z : Str} {ρ : Env} {h : Mem} (I : Nat → Env → Mem → Prop) (h0 : I 0 ρ h)
    (turn : ∀ i c ρ h, z.cps[i]? = some c → I i ρ h → Fw (body (ρ.set j (some (.str ⟨#[c]⟩))) h) ⟨I (i + 1), P.rt, P.nx, I (i + 1), P.xc⟩)
    (stop : ∀ ρ h, I z.cps.size ρ h → Fw (els ρ h) P) : Fw (forF (wkS z) (.nm j) body els (wkS z).fuel 0 ρ h) P := by
  refine for_wk z.cps.size I (fun i ρ h hi hI => ⟨.str ⟨#[z.cps[i]]⟩, _, by simp [wkS, hi], rfl, turn i _ ρ h (by simp [hi]) hI⟩) (fun ρ h hI => ⟨by simp [wkS], stop ρ h hI⟩) z.cps.size 0 _ ρ h rfl (Nat.zero_le _) (Nat.le_refl _) h0
/-- for x in a tuple -/
theorem for_tup {j : Nat} {xs : List Val} {ρ : Env} {h : Mem} (I : Nat → Env → Mem → Prop) (h0 : I 0 ρ h)
    (turn : ∀ i x ρ h, xs[i]? = some x → I i ρ h → Fw (body (ρ.set j (some x)) h) ⟨I (i + 1), P.rt, P.nx, I (i + 1), P.xc⟩)
    (stop : ∀ ρ h, I xs.length ρ h → Fw (els ρ h) P) : Fw (forF (wkT xs) (.nm j) body els (wkT xs).fuel 0 ρ h) P := by
  refine for_wk xs.length I (fun i ρ h hi hI => ⟨xs[i], _, by simp [wkT, hi], rfl, turn i _ ρ h (by simp [hi]) hI⟩) (fun ρ h hI => ⟨by simp [wkT], stop ρ h hI⟩) xs.length 0 _ ρ h rfl (Nat.zero_le _) (Nat.le_refl _) h0
/-- a comprehension -/
theorem lc_wk {c : MT} {elt : ME} {ρ : Env} {Q : List Val → Mem → Prop} (n : Nat) (I : Nat → List Val → Mem → Prop)
    (turn : ∀ i acc h, i < n → I i acc h → ∃ v ρ1, w.at_ i h = some (some v) ∧ put1 t v ρ = some ρ1 ∧ (c ρ1 h).W (fun k h2 => if k = true then (elt ρ1 h2).W (fun y h3 => acc.length < sizeLine ∧ I (i + 1) (acc ++ [y]) h3) nX else I (i + 1) acc h2) nX)
    (stop : ∀ acc h, I n acc h → w.at_ n h = some none ∧ Q acc h) {X : XQ} : ∀ (k i fuel : Nat) (acc : List Val) (h : Mem), n - i = k → i ≤ n → n - i ≤ fuel → I i acc h → (lcF w t c elt ρ fuel i acc h).W Q X := by
  intro k
  induction k with
  | zero =>
    intro i fuel acc h hk hi hf hI
    have e : i = n := by omega
    subst e
    obtain ⟨e1, e2⟩ := stop acc h hI
    unfold lcF
    rw [e1]
    exact e2
  | succ k ih =>
    intro i fuel acc h hk hi hf hI
    obtain ⟨v, ρ1, e1, e2, e3⟩ := turn i acc h (by omega) hI
    unfold lcF
    rw [e1]
    cases fuel with
    | zero => omega
    | succ fuel =>
      simp only [e2]
      cases e : c ρ1 h with
      | ok b h2 =>
        rw [e] at e3
        cases b with
        | false => exact ih (i + 1) fuel acc h2 (by omega) (by omega) (by omega) (by simpa using e3)
        | true =>
          have e3 : (elt ρ1 h2).W (fun y h3 => acc.length < sizeLine ∧ I (i + 1) (acc ++ [y]) h3) nX := by simpa using e3
          cases e4 : elt ρ1 h2 with
          | ok y h3 =>
            rw [e4] at e3
            simp only [e4]
            rw [if_pos e3.1]
            exact ih (i + 1) fuel _ h3 (by omega) (by omega) (by omega) e3.2
          | exc c fs h3 => rw [e4] at e3; exact (show False from e3).elim
          | bad => rw [e4] at e3; exact (show False from e3).elim
      | exc c fs h2 => rw [e] at e3; exact e3.elim
      | bad => rw [e] at e3; exact e3.elim
theorem lc_rng {j : Nat} {lo : Int} {n : Nat} {c : MT} {elt : ME} {ρ : Env} {h : Mem} {Q : List Val → Mem → Prop} {X : XQ} (I : Nat → List Val → Mem → Prop) (h0 : I 0 [] h)
    (turn : ∀ i acc h, i < n → I i acc h → (c (ρ.set j (some (.int (lo + i)))) h).W (fun k h2 => if k = true then (elt (ρ.set j (some (.int (lo + i)))) h2).W (fun y h3 => acc.length < sizeLine ∧ I (i + 1) (acc ++ [y]) h3) nX else I (i + 1) acc h2) nX)
    (stop : ∀ acc h, I n acc h → Q acc h) : (lcF (wkR lo n) (.nm j) c elt ρ (wkR lo n).fuel 0 [] h).W Q X :=
  lc_wk n I (fun i acc h hi hI => ⟨_, _, by simp [wkR, hi], rfl, turn i acc h hi hI⟩) (fun acc h hI => ⟨by simp [wkR], stop acc h hI⟩) n 0 _ [] h rfl (Nat.zero_le _) (Nat.le_refl _) h0
theorem lc_lst {j a : Nat} {xs : List Val} {c : MT} {elt : ME} {ρ : Env} {h : Mem} {Q : List Val → Mem → Prop} {X : XQ} (I : Nat → List Val → Mem → Prop) (h0 : I 0 [] h) (keep : ∀ i acc h, i ≤ xs.length → I i acc h → h[a]? = some (.lst xs))
    (turn : ∀ i x acc h, xs[i]? = some x → I i acc h → (c (ρ.set j (some x)) h).W (fun k h2 => if k = true then (elt (ρ.set j (some x)) h2).W (fun y h3 => acc.length < sizeLine ∧ I (i + 1) (acc ++ [y]) h3) nX else I (i + 1) acc h2) nX)
    (stop : ∀ acc h, I xs.length acc h → Q acc h) : (lcF (wkL a xs.length) (.nm j) c elt ρ (wkL a xs.length).fuel 0 [] h).W Q X :=
  lc_wk xs.length I (fun i acc h hi hI => ⟨xs[i], _, by simp [wkL, keep i acc h (by omega) hI, hi], rfl, turn i _ acc h (by simp [hi]) hI⟩) (fun acc h hI => ⟨by simp [wkL, keep _ acc h (Nat.le_refl _) hI], stop acc h hI⟩) xs.length 0 _ [] h rfl (Nat.zero_le _) (Nat.le_refl _) h0
theorem lc_enum {j k a : Nat} {xs : List Val} {c : MT} {elt : ME} {ρ : Env} {h : Mem} {Q : List Val → Mem → Prop} {X : XQ} (I : Nat → List Val → Mem → Prop) (h0 : I 0 [] h) (keep : ∀ i acc h, i ≤ xs.length → I i acc h → h[a]? = some (.lst xs))
    (turn : ∀ i x acc h, xs[i]? = some x → I i acc h → (c ((ρ.set j (some (.int i))).set k (some x)) h).W (fun b h2 => if b = true then (elt ((ρ.set j (some (.int i))).set k (some x)) h2).W (fun y h3 => acc.length < sizeLine ∧ I (i + 1) (acc ++ [y]) h3) nX else I (i + 1) acc h2) nX)
    (stop : ∀ acc h, I xs.length acc h → Q acc h) : (lcF (wkE (wkL a xs.length)) (.tp [.nm j, .nm k]) c elt ρ (wkE (wkL a xs.length)).fuel 0 [] h).W Q X :=
  lc_wk xs.length I (fun i acc h hi hI => ⟨.tup [.int i, xs[i]], _, by simp [wkE, wkL, keep i acc h (by omega) hI, hi], rfl, turn i _ acc h (by simp [hi]) hI⟩) (fun acc h hI => ⟨by simp [wkE, wkL, keep _ acc h (Nat.le_refl _) hI], stop acc h hI⟩) xs.length 0 _ [] h rfl (Nat.zero_le _) (Nat.le_refl _) h0
theorem lc_tup {j : Nat} {xs : List Val} {c : MT} {elt : ME} {ρ : Env} {h : Mem} {Q : List Val → Mem → Prop} {X : XQ} (I : Nat → List Val → Mem → Prop) (h0 : I 0 [] h)
    (turn : ∀ i x acc h, xs[i]? = some x → I i acc h → (c (ρ.set j (some x)) h).W (fun k h2 => if k = true then (elt (ρ.set j (some x)) h2).W (fun y h3 => acc.length < sizeLine ∧ I (i + 1) (acc ++ [y]) h3) nX else I (i + 1) acc h2) nX)
    (stop : ∀ acc h, I xs.length acc h → Q acc h) : (lcF (wkT xs) (.nm j) c elt ρ (wkT xs).fuel 0 [] h).W Q X :=
  lc_wk xs.length I (fun i acc h hi hI => ⟨xs[i], _, by simp [wkT, hi], rfl, turn i _ acc h (by simp [hi]) hI⟩) (fun acc h hI => ⟨by simp [wkT], stop acc h hI⟩) xs.length 0 _ [] h rfl (Nat.zero_le _) (Nat.le_refl _) h0
/-- the keys of a locked dict -/
theorem lc_key {j a : Nat} {kvs : List (L2.Key × Val)} {c : MT} {elt : ME} {ρ : Env} {h : Mem} {Q : List Val → Mem → Prop} {X : XQ} (I : Nat → List Val → Mem → Prop) (h0 : I 0 [] h) (keep : ∀ i acc h, i ≤ kvs.length → I i acc h → h[a]? = some (.frd kvs))
    (turn : ∀ i kv acc h, kvs[i]? = some kv → I i acc h → (c (ρ.set j (some (keyV kv.1))) h).W (fun k h2 => if k = true then (elt (ρ.set j (some (keyV kv.1))) h2).W (fun y h3 => acc.length < sizeLine ∧ I (i + 1) (acc ++ [y]) h3) nX else I (i + 1) acc h2) nX)
    (stop : ∀ acc h, I kvs.length acc h → Q acc h) : (lcF (wkK a kvs.length) (.nm j) c elt ρ (wkK a kvs.length).fuel 0 [] h).W Q X :=
  lc_wk kvs.length I (fun i acc h hi hI => ⟨keyV kvs[i].1, _, by simp [wkK, keep i acc h (by omega) hI, hi], rfl, turn i _ acc h (by simp [hi]) hI⟩) (fun acc h hI => ⟨by simp [wkK, keep _ acc h (Nat.le_refl _) hI], stop acc h hI⟩) kvs.length 0 _ [] h rfl (Nat.zero_le _) (Nat.le_refl _) h0
/-- a dict comprehension -/
theorem dc_wk {c : MT} {ek ev : ME} {ρ : Env} {Q : List (L2.Key × Val) → Mem → Prop} (n : Nat) (I : Nat → List (L2.Key × Val) → Mem → Prop)
    (turn : ∀ i acc h, i < n → I i acc h → ∃ v ρ1, w.at_ i h = some (some v) ∧ put1 t v ρ = some ρ1 ∧ (c ρ1 h).W (fun k h2 => if k = true then (ek ρ1 h2).W (fun y h3 => (ev ρ1 h3).W (fun z h4 => ∃ kk, keyOf y = some kk ∧ acc.length < sizeLine ∧ I (i + 1) (dPut acc kk z) h4) nX) nX else I (i + 1) acc h2) nX)
    (stop : ∀ acc h, I n acc h → w.at_ n h = some none ∧ Q acc h) {X : XQ} : ∀ (k i fuel : Nat) (acc : List (L2.Key × Val)) (h : Mem), n - i = k → i ≤ n → n - i ≤ fuel → I i acc h → (dcF w t c ek ev ρ fuel i acc h).W Q X := by
  intro k
  induction k with
  | zero =>
    intro i fuel acc h hk hi hf hI
    have e : i = n := by omega
    subst e
    obtain ⟨e1, e2⟩ := stop acc h hI
    unfold dcF
    rw [e1]
    exact e2
  | succ k ih =>
    intro i fuel acc h hk hi hf hI
    obtain ⟨v, ρ1, e1, e2, e3⟩ := turn i acc h (by omega) hI
    unfold dcF
    rw [e1]
    cases fuel with
    | zero => omega
    | succ fuel =>
      simp only [e2]
      cases e : c ρ1 h with
      | ok b h2 =>
        rw [e] at e3
        cases b with
        | false => exact ih (i + 1) fuel acc h2 (by omega) (by omega) (by omega) (by simpa using e3)
        | true =>
          have e3 : (ek ρ1 h2).W (fun y h3 => (ev ρ1 h3).W (fun z h4 => ∃ kk, keyOf y = some kk ∧ acc.length < sizeLine ∧ I (i + 1) (dPut acc kk z) h4) nX) nX := by simpa using e3
          cases e4 : ek ρ1 h2 with
          | ok y h3 =>
            rw [e4] at e3
            simp only [e4]
            have e3 : (ev ρ1 h3).W (fun z h4 => ∃ kk, keyOf y = some kk ∧ acc.length < sizeLine ∧ I (i + 1) (dPut acc kk z) h4) nX := e3
            cases e5 : ev ρ1 h3 with
            | ok z h4 =>
              rw [e5] at e3
              simp only [e5]
              obtain ⟨kk, q1, q2, q3⟩ := e3
              simp only [q1]
              rw [if_pos q2]
              exact ih (i + 1) fuel _ h4 (by omega) (by omega) (by omega) q3
            | exc c fs h4 => rw [e5] at e3; exact (show False from e3).elim
            | bad => rw [e5] at e3; exact (show False from e3).elim
          | exc c fs h3 => rw [e4] at e3; exact (show False from e3).elim
          | bad => rw [e4] at e3; exact (show False from e3).elim
      | exc c fs h2 => rw [e] at e3; exact e3.elim
      | bad => rw [e] at e3; exact e3.elim
/-- {..: .. for x, y in a list of pairs} -/
theorem dc_pair {j k a : Nat} {xs : List (Val × Val)} {c : MT} {ek ev : ME} {ρ : Env} {h : Mem} {Q : List (L2.Key × Val) → Mem → Prop} {X : XQ} (I : Nat → List (L2.Key × Val) → Mem → Prop) (h0 : I 0 [] h) (keep : ∀ i acc h, i ≤ xs.length → I i acc h → h[a]? = some (.lst (xs.map fun p => .tup [p.1, p.2])))
    (turn : ∀ i p acc h, xs[i]? = some p → I i acc h → (c ((ρ.set j (some p.1)).set k (some p.2)) h).W (fun b h2 => if b = true then (ek ((ρ.set j (some p.1)).set k (some p.2)) h2).W (fun y h3 => (ev ((ρ.set j (some p.1)).set k (some p.2)) h3).W (fun z h4 => ∃ kk, keyOf y = some kk ∧ acc.length < sizeLine ∧ I (i + 1) (dPut acc kk z) h4) nX) nX else I (i + 1) acc h2) nX)
    (stop : ∀ acc h, I xs.length acc h → Q acc h) : (dcF (wkL a xs.length) (.tp [.nm j, .nm k]) c ek ev ρ (wkL a xs.length).fuel 0 [] h).W Q X :=
  dc_wk xs.length I (fun i acc h hi hI => ⟨.tup [xs[i].1, xs[i].2], _, by simp [wkL, keep i acc h (by omega) hI, hi], rfl, turn i xs[i] acc h (by simp [hi]) hI⟩) (fun acc h hI => ⟨by simp [wkL, keep _ acc h (Nat.le_refl _) hI], stop acc h hI⟩) xs.length 0 _ [] h rfl (Nat.zero_le _) (Nat.le_refl _) h0
end
/-! ### memories -/
/-- h' is a later memory: the objects out of S are as they were -/
structure Fr (S : List Nat) (h h' : Mem) : Prop where
  len : h.length ≤ h'.length
  keep : ∀ n, n < h.length → n ∉ S → h'[n]? = h[n]?
theorem lt_of_get {h : Mem} {n : Nat} {o : Ob} (e : h[n]? = some o) : n < h.length := (List.getElem?_eq_some_iff.mp e).1
theorem Fr.refl (S : List Nat) (h : Mem) : Fr S h h := ⟨Nat.le_refl _, fun _ _ _ => rfl⟩
theorem Fr.get {S : List Nat} {h h' : Mem} (f : Fr S h h') {n : Nat} {o : Ob} (e : h[n]? = some o) (hn : n ∉ S) : h'[n]? = some o := by
  rw [f.keep n (lt_of_get e) hn, e]
theorem Fr.mono {S S' : List Nat} {h h' : Mem} (f : Fr S h h') (i : ∀ n, n < h.length → n ∈ S → n ∈ S') : Fr S' h h' := ⟨f.len, fun n hn hS => f.keep n hn fun z => hS (i n hn z)⟩
theorem Fr.trans {S : List Nat} {h h' h'' : Mem} (f : Fr S h h') (g : Fr S h' h'') : Fr S h h'' := ⟨Nat.le_trans f.len g.len, fun n hn hS => (g.keep n (Nat.lt_of_lt_of_le hn f.len) hS).trans (f.keep n hn hS)⟩
/-- objects made since h may change too -/
theorem Fr.trans' {S S2 : List Nat} {h h' h'' : Mem} (f : Fr S h h') (g : Fr S2 h' h'') (i : ∀ n, n ∈ S2 → n < h.length → n ∈ S) : Fr S h h'' := ⟨Nat.le_trans f.len g.len, fun n hn hS => (g.keep n (Nat.lt_of_lt_of_le hn f.len) fun z => hS (i n z hn)).trans (f.keep n hn hS)⟩
theorem Fr.app (S : List Nat) (h l : Mem) : Fr S h (h ++ l) := ⟨by simp, fun n hn _ => List.getElem?_append_left hn⟩
theorem Fr.set (h : Mem) (a : Nat) (o : Ob) : Fr [a] h (h.set a o) := ⟨by simp, fun n hn hS => List.getElem?_set_ne fun e => hS (by simp [e])⟩
theorem get_app {h : Mem} {n : Nat} {o : Ob} (l : Mem) (e : h[n]? = some o) : (h ++ l)[n]? = some o := by
  rw [List.getElem?_append_left (lt_of_get e), e]
theorem get_new (h : Mem) (o : Ob) : (h ++ [o])[h.length]? = some o := by simp
theorem get_set {h : Mem} {a : Nat} {o o' : Ob} (e : h[a]? = some o') : (h.set a o)[a]? = some o := by
  simp [List.getElem?_set, lt_of_get e]
theorem get_set_ne {h : Mem} {a b : Nat} {o o' : Ob} (e : h[b]? = some o') (ne : a ≠ b) : (h.set a o)[b]? = some o' := by
  rw [List.getElem?_set_ne ne, e]
end Mp
set_option Elab.async false
set_option linter.all false
set_option maxRecDepth 100000
set_option maxHeartbeats 1000000
namespace Mp
open PySem L2 PySem.W
/-! ### the combinators, read as promises -/
section
variable {α : Type} {Q : Val → Mem → Prop} {B : Bool → Mem → Prop} {R : List Val → Mem → Prop} {X : XQ} {P : Po} {ρ : Env} {h : Mem}
@[simp] theorem W_ite_bad {Q : α → Mem → Prop} {c : Prop} [Decidable c] (r : Res α) : (if c then r else .bad).W Q X ↔ c ∧ r.W Q X := by
  by_cases h : c <;> simp [h]
@[simp] theorem Fw_ite_bad {c : Prop} [Decidable c] (r : Res Fl) : Fw (if c then r else .bad) P ↔ c ∧ Fw r P := by
  by_cases h : c <;> simp [h]
@[simp] theorem w_eC (v : Val) : (eC v ρ h).W Q X ↔ Q v h := Iff.rfl
@[simp] theorem w_eVar (i : Nat) : (eVar i ρ h).W Q X ↔ optP ρ[i]? fun o => optP o fun v => Q v h := by
  unfold eVar
  rcases e : ρ[i]? with _ | _ | v <;> simp
@[simp] theorem w_e1 (f : Val → Mem → Res Val) (a : ME) : (e1 f a ρ h).W Q X ↔ (a ρ h).W (fun x h => (f x h).W Q X) X := by simp [e1]
@[simp] theorem w_e2 (f : Val → Val → Mem → Res Val) (a b : ME) : (e2 f a b ρ h).W Q X ↔ (a ρ h).W (fun x h => (b ρ h).W (fun y h => (f x y h).W Q X) X) X := by simp [e2]
@[simp] theorem w_eBin (op : Operator) (a b : ME) : (eBin op a b ρ h).W Q X ↔ (a ρ h).W (fun x h => (b ρ h).W (fun y h => (binop op x y h).W Q X) X) X := by simp [eBin]
@[simp] theorem w_eCmp (op : CmpOp) (a b : ME) : (eCmp op a b ρ h).W Q X ↔ (a ρ h).W (fun x h => (b ρ h).W (fun y h => optP (cmpop op h x y) fun k => Q (.bl k) h) X) X := by simp [eCmp, cmpR]
@[simp] theorem w_eNeg (a : ME) : (eNeg a ρ h).W Q X ↔ (a ρ h).W (fun x h => ∃ i, x = .int i ∧ Q (.int (-i)) h) X := by
  simp only [eNeg, w_e1]
  refine iff_of_eq (congrArg (fun z => (a ρ h).W z X) (funext fun x => funext fun h => propext ?_))
  cases x <;> simp [negV]
@[simp] theorem w_eNot (a : ME) : (eNot a ρ h).W Q X ↔ (a ρ h).W (fun x h => optP (truthy h x) fun k => Q (.bl (!k)) h) X := by simp [eNot]
@[simp] theorem w_eAnd (a b : ME) : (eAnd a b ρ h).W Q X ↔ (a ρ h).W (fun x h => optP (truthy h x) fun k => (k = true → (b ρ h).W Q X) ∧ (k = false → Q x h)) X := by
  simp [eAnd, W_ite]
@[simp] theorem w_eOr (a b : ME) : (eOr a b ρ h).W Q X ↔ (a ρ h).W (fun x h => optP (truthy h x) fun k => (k = true → Q x h) ∧ (k = false → (b ρ h).W Q X)) X := by
  simp [eOr, W_ite]
@[simp] theorem w_eIf (c : MT) (a b : ME) : (eIf c a b ρ h).W Q X ↔ (c ρ h).W (fun k h => (k = true → (a ρ h).W Q X) ∧ (k = false → (b ρ h).W Q X)) X := by
  simp [eIf, W_ite]
@[simp] theorem w_aNil : (aNil ρ h).W R X ↔ R [] h := Iff.rfl
@[simp] theorem w_aCons (a : ME) (r : MA) : (aCons a r ρ h).W R X ↔ (a ρ h).W (fun x h => (r ρ h).W (fun xs h => R (x :: xs) h) X) X := by simp [aCons]
@[simp] theorem w_eTup (as : MA) : (eTup as ρ h).W Q X ↔ (as ρ h).W (fun xs h => xs.length ≤ sizeLine ∧ Q (.tup xs) h) X := by simp [eTup]
@[simp] theorem w_newL (xs : List Val) : (newL xs h).W Q X ↔ xs.length ≤ sizeLine ∧ Q (.ref h.length) (h ++ [.lst xs]) := by simp [newL]
@[simp] theorem w_eLst (as : MA) : (eLst as ρ h).W Q X ↔ (as ρ h).W (fun xs h => xs.length ≤ sizeLine ∧ Q (.ref h.length) (h ++ [.lst xs])) X := by simp [eLst]
@[simp] theorem w_eIdx (a b : ME) : (eIdx a b ρ h).W Q X ↔ (a ρ h).W (fun x h => (b ρ h).W (fun y h => optP (idx h x y) fun v => Q v h) X) X := by simp [eIdx]
@[simp] theorem w_tE (a : ME) : (tE a ρ h).W B X ↔ (a ρ h).W (fun x h => optP (truthy h x) fun k => B k h) X := by simp [tE]
@[simp] theorem w_tNot (a : MT) : (tNot a ρ h).W B X ↔ (a ρ h).W (fun k h => B (!k) h) X := by simp [tNot]
@[simp] theorem w_tAnd (a b : MT) : (tAnd a b ρ h).W B X ↔ (a ρ h).W (fun k h => (k = true → (b ρ h).W B X) ∧ (k = false → B false h)) X := by simp [tAnd, W_ite]
@[simp] theorem w_tOr (a b : MT) : (tOr a b ρ h).W B X ↔ (a ρ h).W (fun k h => (k = true → B true h) ∧ (k = false → (b ρ h).W B X)) X := by simp [tOr, W_ite]
@[simp] theorem w_tYes : (tYesM ρ h).W B X ↔ B true h := Iff.rfl
@[simp] theorem w_eCall (m : List Val → Mem → Res Val) (as : MA) : (eCall m as ρ h).W Q X ↔ (as ρ h).W (fun vs h => (m vs h).W Q X) X := by simp [eCall]
@[simp] theorem w_eCallS (m : List Val → Mem → Res Val) (sel : List Src) (as ks : MA) : (eCallS m sel as ks ρ h).W Q X ↔ (as ρ h).W (fun us h => (ks ρ h).W (fun ws h => optP (selV us ws sel) fun vs => (m vs h).W Q X) X) X := by simp [eCallS]
theorem w_dropNon (r : Res Val) (v : Val) : (dropNon r v).W Q X ↔ r.W (fun u h => u = .non ∧ Q v h) X := by
  cases r with
  | ok a h => cases a <;> simp [dropNon]
  | _ => simp [dropNon]
@[simp] theorem w_eMake (m : List Val → Mem → Res Val) (c : Str) (sel : List Src) (as ks : MA) : (eMake m c sel as ks ρ h).W Q X ↔ (as ρ h).W (fun us h => (ks ρ h).W (fun ws h => optP (selV (.ref h.length :: us) ws sel) fun vs => (m vs (h ++ [.ins c []])).W (fun u h2 => u = .non ∧ Q (.ref h.length) h2) X) X) X := by
  simp only [eMake, W_bind]
  refine iff_of_eq (congrArg (fun z => (as ρ h).W z X) (funext fun us => funext fun h1 => congrArg (fun z => (ks ρ h1).W z X) (funext fun ws => funext fun h2 => propext ?_)))
  unfold mkI
  cases e : selV (.ref h2.length :: us) ws sel with
  | none => simp
  | some vs => simp [w_dropNon]
@[simp] theorem w_eBi (b : Bi) (as : MA) : (eBi b as ρ h).W Q X ↔ (as ρ h).W (fun vs h => (biRun b vs h).W Q X) X := by simp [eBi]
@[simp] theorem w_eIsi (Ts : List String) (a : ME) : (eIsi Ts a ρ h).W Q X ↔ (a ρ h).W (fun v h => optP (tyOf h v) fun t => Q (.bl (Ts.any (subTy t))) h) X := by
  simp only [eIsi, w_e1]
  refine iff_of_eq (congrArg (fun z => (a ρ h).W z X) (funext fun x => funext fun h => propext ?_))
  unfold isiV
  cases tyOf h x <;> simp
@[simp] theorem w_eRev (a : ME) : (eRev a ρ h).W Q X ↔ (a ρ h).W (fun v h => optP (lstOf h v) fun xs => (newL xs.reverse h).W Q X) X := by simp [eRev]
@[simp] theorem w_eLenSet (a : ME) : (eLenSet a ρ h).W Q X ↔ (a ρ h).W (fun v h => optP ((lstOf h v).bind intsOf) fun ns => (if ns.length ≤ 4000 then (Res.ok (Val.int (lenSet ns)) h : Res Val) else .bad).W Q X) X := by simp [eLenSet]
@[simp] theorem w_eSortSet (a : ME) : (eSortSet a ρ h).W Q X ↔ (a ρ h).W (fun v h => optP ((lstOf h v).bind intsOf) fun ns => (if ns.length ≤ 4000 then newL ((srtSet ns).map .int) h else .bad).W Q X) X := by simp [eSortSet]
@[simp] theorem w_eSlice (a : ME) (lo hi : MO) : (eSlice a lo hi ρ h).W Q X ↔ (a ρ h).W (fun v h => (lo ρ h).W (fun l h => (hi ρ h).W (fun u h => (sliceV v l u h).W Q X) X) X) X := by simp [eSlice]
@[simp] theorem w_oNone {O : Option Int → Mem → Prop} : (oNone ρ h).W O X ↔ O none h := Iff.rfl
@[simp] theorem w_oSome {O : Option Int → Mem → Prop} (e : ME) : (oSome e ρ h).W O X ↔ (e ρ h).W (fun v h => ∃ i, v = .int i ∧ O (some i) h) X := by
  simp only [oSome, W_bind]
  refine iff_of_eq (congrArg (fun z => (e ρ h).W z X) (funext fun x => funext fun h => propext ?_))
  cases x <;> simp
@[simp] theorem w_eLc (vs : List Nat) (t : Tg) (it : MI) (c : MT) (elt : ME) : (eLc vs t it c elt ρ h).W Q X ↔ (it ρ h).W (fun w h => (lcF w t c elt (wipeE ρ vs) w.fuel 0 [] h).W (fun xs h => xs.length ≤ sizeLine ∧ Q (.ref h.length) (h ++ [.lst xs])) X) X := by simp [eLc]
@[simp] theorem dicAt_eq (i : Nat) : dicAt ρ h i = match ρ[i]? with
  | some (some (.ref n)) => (match h[n]? with
    | some (.dic kvs) => some (n, kvs)
    | _ => none)
  | _ => none := rfl
theorem w_unlk (n : Nat) (r : Res Val) : (unlk n r).W Q X ↔ r.W (fun v h => ∃ kvs, h[n]? = some (.frd kvs) ∧ Q v (h.set n (.dic kvs))) nX := by
  cases r with
  | ok v h =>
    simp only [unlk, W_ok]
    cases e : h[n]? with
    | none => simp
    | some o => cases o <;> simp
  | exc c fs h => simp [unlk, nX]
  | bad => simp [unlk]
/-- of a dict, of a list -/
def lcN (o : Option (Nat × List (Key × Val))) (i : Nat) (vs : List Nat) (t : Tg) (c : MT) (elt : ME) (ρ : Env) (h : Mem) (Q : Val → Mem → Prop) (X : XQ) : Prop := match o with
  | some (n, kvs) => (eLc vs t (iKey (eVar i)) c elt ρ (h.set n (.frd kvs))).W (fun v h => ∃ kvs, h[n]? = some (.frd kvs) ∧ Q v (h.set n (.dic kvs))) nX
  | none => (eLc vs t (iVal (eVar i)) c elt ρ h).W Q X
@[simp] theorem lcN_none (i : Nat) (vs : List Nat) (t : Tg) (c : MT) (elt : ME) : lcN none i vs t c elt ρ h Q X ↔ (eLc vs t (iVal (eVar i)) c elt ρ h).W Q X := Iff.rfl
@[simp] theorem lcN_some (n : Nat) (kvs : List (Key × Val)) (i : Nat) (vs : List Nat) (t : Tg) (c : MT) (elt : ME) : lcN (some (n, kvs)) i vs t c elt ρ h Q X ↔ (eLc vs t (iKey (eVar i)) c elt ρ (h.set n (.frd kvs))).W (fun v h => ∃ kvs, h[n]? = some (.frd kvs) ∧ Q v (h.set n (.dic kvs))) nX := Iff.rfl
@[simp] theorem w_eLcN (i : Nat) (vs : List Nat) (t : Tg) (c : MT) (elt : ME) : (eLcN i vs t c elt ρ h).W Q X ↔ lcN (dicAt ρ h i) i vs t c elt ρ h Q X := by
  cases e : dicAt ρ h i with
  | none =>
    have : eLcN i vs t c elt ρ h = eLc vs t (iVal (eVar i)) c elt ρ h := by unfold eLcN; rw [e]
    rw [this, lcN_none]
  | some nk =>
    obtain ⟨n, kvs⟩ := nk
    have : eLcN i vs t c elt ρ h = unlk n (eLc vs t (iKey (eVar i)) c elt ρ (h.set n (.frd kvs))) := by
      unfold eLcN
      rw [e]
      show eLk i _ ρ h = _
      unfold eLk
      rw [e]
    rw [this, w_unlk, lcN_some]
def isKey (v : Val) (h : Mem) (O : Wk → Mem → Prop) : Prop := match v with
  | .ref n => (match h[n]? with
    | some (.frd kvs) => O (wkK n kvs.length) h
    | _ => False)
  | _ => False
@[simp] theorem isKey_ref (n : Nat) (O : Wk → Mem → Prop) : isKey (.ref n) h O ↔ match h[n]? with
    | some (.frd kvs) => O (wkK n kvs.length) h
    | _ => False := Iff.rfl
@[simp] theorem w_iKey {O : Wk → Mem → Prop} (e : ME) : (iKey e ρ h).W O X ↔ (e ρ h).W (fun v h => isKey v h O) X := by
  simp only [iKey, W_bind]
  refine iff_of_eq (congrArg (fun z => (e ρ h).W z X) (funext fun v => funext fun h => propext ?_))
  cases v with
  | ref n =>
    simp only [isKey]
    cases h[n]? with
    | none => simp
    | some o => cases o <;> simp
  | _ => simp [isKey]
@[simp] theorem w_eDc (vs : List Nat) (t : Tg) (it : MI) (c : MT) (ek ev : ME) : (eDc vs t it c ek ev ρ h).W Q X ↔ (it ρ h).W (fun w h => (dcF w t c ek ev (wipeE ρ vs) w.fuel 0 [] h).W (fun kvs h => Q (.ref h.length) (h ++ [.dic kvs])) X) X := by simp [eDc, newD]
@[simp] theorem w_iVal {O : Wk → Mem → Prop} (e : ME) : (iVal e ρ h).W O X ↔ (e ρ h).W (fun v h => optP (wkV h v) fun w => O w h) X := by simp [iVal]
@[simp] theorem w_iRng1 {O : Wk → Mem → Prop} (e : ME) : (iRng1 e ρ h).W O X ↔ (e ρ h).W (fun v h => ∃ j, v = .int j ∧ small62 j = true ∧ O (wkR 0 j.toNat) h) X := by
  simp only [iRng1, W_bind]
  refine iff_of_eq (congrArg (fun z => (e ρ h).W z X) (funext fun x => funext fun h => propext ?_))
  cases x <;> simp
@[simp] theorem w_iEnum {O : Wk → Mem → Prop} (e : ME) : (iEnum e ρ h).W O X ↔ (e ρ h).W (fun v h => optP (wkV h v) fun w => O (wkE w) h) X := by simp [iEnum]
@[simp] theorem lstB_ref' (n : Nat) : lstB h (.ref n) = match h[n]? with
  | some (.lst xs) => some (wkL n xs.length)
  | some (.rol xs) => some (wkL n xs.length)
  | _ => none := rfl
@[simp] theorem w_eAttr (Γ : Pg) (call : CallT) (x : Str) (a : ME) : (eAttr Γ call x a ρ h).W Q X ↔ (a ρ h).W (fun v h => (attrOf Γ call x v h).W Q X) X := by simp [eAttr]
@[simp] theorem w_eMeth (Γ : Pg) (call : CallT) (m : Str) (n : Nat) (ks : List Str) (o : ME) (as kas : MA) : (eMeth Γ call m n ks o as kas ρ h).W Q X ↔ (o ρ h).W (fun v h => (methBy Γ call m n ks as kas ρ v h).W Q X) X := by simp [eMeth]
@[simp] theorem w_eChain (op op' : CmpOp) (a b c : ME) : (eChain op op' a b c ρ h).W Q X ↔ (a ρ h).W (fun x h => (b ρ h).W (fun y h => optP (cmpop op h x y) fun k => (k = true → (c ρ h).W (fun w h => optP (cmpop op' h y w) fun k' => Q (.bl k') h) X) ∧ (k = false → Q (.bl false) h)) X) X := by
  simp only [eChain, W_bind, cmpR, W_opt]
  refine iff_of_eq (congrArg (fun z => (a ρ h).W z X) (funext fun x => funext fun h1 => congrArg (fun z => (b ρ h1).W z X) (funext fun y => funext fun h2 => propext ?_)))
  cases cmpop op h2 x y with
  | none => simp
  | some k => cases k <;> simp
/-! statements -/
@[simp] theorem w_sSeq (a b : MS) : Fw (sSeq a b ρ h) P ↔ Fw (a ρ h) ⟨fun ρ h => Fw (b ρ h) P, P.rt, P.bk, P.ct, P.xc⟩ := by simp [sSeq]
@[simp] theorem w_sSkip : Fw (sSkip ρ h) P ↔ P.nx ρ h := Iff.rfl
@[simp] theorem w_sBad : Fw (sBad ρ h) P ↔ False := Iff.rfl
@[simp] theorem w_sExpr (e : ME) : Fw (sExpr e ρ h) P ↔ (e ρ h).W (fun _ h => P.nx ρ h) (P.xc ρ) := by simp [sExpr]
@[simp] theorem w_sRet (e : ME) : Fw (sRet e ρ h) P ↔ (e ρ h).W P.rt (P.xc ρ) := by simp [sRet]
@[simp] theorem w_sRetN : Fw (sRetN ρ h) P ↔ P.rt .non h := Iff.rfl
@[simp] theorem w_sBrk : Fw (sBrk ρ h) P ↔ P.bk ρ h := Iff.rfl
@[simp] theorem w_sCnt : Fw (sCnt ρ h) P ↔ P.ct ρ h := Iff.rfl
@[simp] theorem w_sIf (t : MT) (a b : MS) : Fw (sIf t a b ρ h) P ↔ (t ρ h).W (fun k h => (k = true → Fw (a ρ h) P) ∧ (k = false → Fw (b ρ h) P)) (P.xc ρ) := by simp [sIf, Fw_ite]
@[simp] theorem w_sSet (i : Nat) (e : ME) : Fw (sSet i e ρ h) P ↔ (e ρ h).W (fun v h => P.nx (ρ.set i (some v)) h) (P.xc ρ) := by simp [sSet]
@[simp] theorem w_sAsg (t : Tg) (e : ME) : Fw (sAsg t e ρ h) P ↔ (e ρ h).W (fun v h => optP (put1 t v ρ) fun ρ1 => P.nx ρ1 h) (P.xc ρ) := by
  simp only [sAsg, Fw_onE]
  refine iff_of_eq (congrArg (fun z => (e ρ h).W z (P.xc ρ)) (funext fun x => funext fun h => propext ?_))
  cases put1 t x ρ <;> simp
@[simp] theorem w_sPar (i j : Nat) (as : MA) : Fw (sPar i j as ρ h) P ↔ (as ρ h).W (fun vs h => ∃ v w, vs = [v, w] ∧ P.nx ((ρ.set i (some v)).set j (some w)) h) (P.xc ρ) := by
  simp only [sPar, Fw_onE]
  refine iff_of_eq (congrArg (fun z => (as ρ h).W z (P.xc ρ)) (funext fun x => funext fun h => propext ?_))
  rcases x with _ | ⟨a, _ | ⟨b, _ | ⟨c, r⟩⟩⟩
  · simp
  · simp
  · constructor
    · exact fun q => ⟨a, b, rfl, q⟩
    · rintro ⟨v, w, e, q⟩
      cases e
      exact q
  · simp
@[simp] theorem w_sSetIdx (o i e : ME) : Fw (sSetIdx o i e ρ h) P ↔ (e ρ h).W (fun v h => (o ρ h).W (fun ov h => (i ρ h).W (fun iv h => (setIdx ov iv v h).W (fun _ h => P.nx ρ h) (P.xc ρ)) (P.xc ρ)) (P.xc ρ)) (P.xc ρ) := by simp [sSetIdx]
@[simp] theorem w_sAug (i : Nat) (op : Operator) (e : ME) : Fw (sAug i op e ρ h) P ↔ optP ρ[i]? fun o => optP o fun x => (e ρ h).W (fun y h => (augop op x y h).W (fun z h => P.nx (ρ.set i (some z)) h) (P.xc ρ)) (P.xc ρ) := by
  unfold sAug
  rcases q : ρ[i]? with _ | _ | v <;> simp
@[simp] theorem w_sAugIdx (o i : ME) (op : Operator) (e : ME) : Fw (sAugIdx o i op e ρ h) P ↔ (o ρ h).W (fun ov h => (i ρ h).W (fun iv h => optP (idxL h ov iv) fun x => (e ρ h).W (fun y h => (augop op x y h).W (fun z h => (setIdx ov iv z h).W (fun _ h => P.nx ρ h) (P.xc ρ)) (P.xc ρ)) (P.xc ρ)) (P.xc ρ)) (P.xc ρ) := by simp [sAugIdx]
@[simp] theorem w_sDelIdx (o i : ME) : Fw (sDelIdx o i ρ h) P ↔ (o ρ h).W (fun ov h => (i ρ h).W (fun iv h => (delIdx ov iv h).W (fun _ h => P.nx ρ h) (P.xc ρ)) (P.xc ρ)) (P.xc ρ) := by simp [sDelIdx]
@[simp] theorem w_eDic0 : (eDic0 ρ h).W Q X ↔ Q (.ref h.length) (h ++ [.dic []]) := Iff.rfl
@[simp] theorem w_eIn (Γ : Pg) (c : CallT) (neg : Bool) (a b : ME) : (eIn Γ c neg a b ρ h).W Q X ↔ (a ρ h).W (fun x h => (b ρ h).W (fun y h => (inM Γ c neg x y h).W Q X) X) X := by simp [eIn]
@[simp] theorem w_sFor (t : Tg) (it : MI) (body els : MS) : Fw (sFor t it body els ρ h) P ↔ (it ρ h).W (fun w h => Fw (forF w t body els w.fuel 0 ρ h) P) (P.xc ρ) := by simp [sFor]
@[simp] theorem w_sSetAttr (Γ : Pg) (x : Str) (o e : ME) : Fw (sSetAttr Γ x o e ρ h) P ↔ (e ρ h).W (fun v h => (o ρ h).W (fun ov h => (setAttrM Γ x ov v h).W (fun _ h => P.nx ρ h) (P.xc ρ)) (P.xc ρ)) (P.xc ρ) := by simp [sSetAttr]
end
/-! ### values -/
section
variable {h : Mem} {i j : Int}
@[simp] theorem bin_add : binop .Add (.int i) (.int j) h = .ok (.int (i + j)) h := rfl
@[simp] theorem bin_sub : binop .Sub (.int i) (.int j) h = .ok (.int (i - j)) h := rfl
@[simp] theorem bin_mul : binop .Mult (.int i) (.int j) h = if mulOk i j then .ok (.int (i * j)) h else .bad := rfl
@[simp] theorem bin_mod : binop .Mod (.int i) (.int j) h = if 0 < j then .ok (.int (i % j)) h else .bad := rfl
@[simp] theorem bin_div : binop .FloorDiv (.int i) (.int j) h = if 0 < j ∧ j < 2 ^ 64 then .ok (.int (i / j)) h else .bad := rfl
@[simp] theorem bin_pow : binop .Pow (.int i) (.int j) h = if 0 ≤ j ∧ j ≤ 1000000 ∧ i.natAbs < 2 ^ 64 then .ok (.int (i ^ j.toNat)) h else .bad := rfl
@[simp] theorem bin_addT (xs ys : List Val) : binop .Add (.tup xs) (.tup ys) h = if xs.length + ys.length ≤ sizeLine then .ok (.tup (xs ++ ys)) h else .bad := rfl
@[simp] theorem bin_mulL (n : Nat) : binop .Mult (.ref n) (.int j) h = match h[n]? with
  | some (.lst xs) => if -(2 ^ 63) ≤ j ∧ j < 2 ^ 63 ∧ xs.length * j.toNat ≤ sizeLine then newL (List.replicate j.toNat xs).flatten h else .bad
  | _ => .bad := rfl
@[simp] theorem bin_addL (n m : Nat) : binop .Add (.ref n) (.ref m) h = match h[n]?, h[m]? with
  | some (.lst xs), some (.lst ys) => newL (xs ++ ys) h
  | _, _ => .bad := rfl
@[simp] theorem aug_addL (n m : Nat) : augop .Add (.ref n) (.ref m) h = match h[n]?, h[m]? with
  | some (.lst xs), some (.lst ys) => if xs.length + ys.length ≤ sizeLine then .ok (.ref n) (h.set n (.lst (xs ++ ys))) else .bad
  | _, _ => .bad := rfl
@[simp] theorem bi_divmod : biRun .divmod [.int i, .int j] h = if 0 < j ∧ j < 1073741824 then .ok (.tup [.int (i / j), .int (i % j)]) h else .bad := rfl
@[simp] theorem aug_add : augop .Add (.int i) (.int j) h = .ok (.int (i + j)) h := rfl
@[simp] theorem aug_sub : augop .Sub (.int i) (.int j) h = .ok (.int (i - j)) h := rfl
@[simp] theorem tru_bl (b : Bool) : truthy h (.bl b) = some b := rfl
@[simp] theorem tru_int : truthy h (.int i) = some (i != 0) := rfl
@[simp] theorem tru_non : truthy h .non = some false := rfl
@[simp] theorem tru_tup (ts : List Val) : truthy h (.tup ts) = some (!ts.isEmpty) := rfl
@[simp] theorem cmp_lt : cmpop .Lt h (.int i) (.int j) = some (decide (i < j)) := rfl
@[simp] theorem cmp_le : cmpop .LtE h (.int i) (.int j) = some (decide (i ≤ j)) := rfl
@[simp] theorem cmp_gt : cmpop .Gt h (.int i) (.int j) = some (decide (j < i)) := rfl
@[simp] theorem cmp_ge : cmpop .GtE h (.int i) (.int j) = some (decide (j ≤ i)) := rfl
@[simp] theorem rdS_int : rdS h (.int i) = some (.int i) := rfl
@[simp] theorem rdS_bl (b : Bool) : rdS h (.bl b) = some (.bool b) := rfl
@[simp] theorem rdS_non : rdS h .non = some .none := rfl
theorem rdS_str {x : Str} (hx : SeqAt.shaped (.str x) = true) : rdS h (.str x) = some (.str x) := by
  show (if SeqAt.shaped (.str x) then some (PyData.str x) else none) = _
  rw [if_pos hx]
@[simp] theorem cmp_eq_int : cmpop .Eq h (.int i) (.int j) = some (decide (i = j)) := by
  rfl
@[simp] theorem cmp_ne_int : cmpop .NotEq h (.int i) (.int j) = some (!decide (i = j)) := by
  rfl
theorem cmp_eq_str {x y : Str} (hx : SeqAt.shaped (.str x) = true) (hy : SeqAt.shaped (.str y) = true) : cmpop .Eq h (.str x) (.str y) = some (x == y) := by
  simp only [cmpop, rdS_str hx, rdS_str hy]
  rfl
theorem cmp_ne_str {x y : Str} (hx : SeqAt.shaped (.str x) = true) (hy : SeqAt.shaped (.str y) = true) : cmpop .NotEq h (.str x) (.str y) = some (!(x == y)) := by
  simp only [cmpop, rdS_str hx, rdS_str hy]
  rfl
@[simp] theorem cmp_eq_bl (x y : Bool) : cmpop .Eq h (.bl x) (.bl y) = some (x == y) := rfl
@[simp] theorem cmp_ne_bl (x y : Bool) : cmpop .NotEq h (.bl x) (.bl y) = some (!(x == y)) := rfl
@[simp] theorem cmp_is (x : Val) : cmpop .Is h x .non = some (isNon x) := by cases x <;> rfl
@[simp] theorem cmp_isNot (x : Val) : cmpop .IsNot h x .non = some (!isNon x) := by cases x <;> rfl
@[simp] theorem isNon_non : isNon .non = true := rfl
@[simp] theorem isNon_int : isNon (.int i) = false := rfl
@[simp] theorem isNon_bl (b : Bool) : isNon (.bl b) = false := rfl
@[simp] theorem isNon_str (x : Str) : isNon (.str x) = false := rfl
@[simp] theorem isNon_tup (x : List Val) : isNon (.tup x) = false := rfl
@[simp] theorem isNon_ref (n : Nat) : isNon (.ref n) = false := rfl
@[simp] theorem ty_non : tyOf h .non = some "NoneType" := rfl
@[simp] theorem ty_int : tyOf h (.int i) = some "int" := rfl
@[simp] theorem ty_bl (b : Bool) : tyOf h (.bl b) = some "bool" := rfl
@[simp] theorem ty_str (x : Str) : tyOf h (.str x) = some "str" := rfl
@[simp] theorem ty_tup (x : List Val) : tyOf h (.tup x) = some "tuple" := rfl
@[simp] theorem ty_ref (n : Nat) : tyOf h (.ref n) = match h[n]? with
  | some (.lst _) => some "list"
  | some (.rol _) => some "list"
  | _ => none := rfl
@[simp] theorem tru_ref (n : Nat) : truthy h (.ref n) = match h[n]? with
  | some (.lst xs) => some (!xs.isEmpty)
  | some (.rol xs) => some (!xs.isEmpty)
  | _ => none := rfl
@[simp] theorem bi_int : biRun .int [.int i] h = .ok (.int i) h := rfl
@[simp] theorem bi_intB (b : Bool) : biRun .int [.bl b] h = .ok (.int (if b then 1 else 0)) h := rfl
@[simp] theorem bi_abs : biRun .abs [.int i] h = .ok (.int (if i < 0 then -i else i)) h := rfl
@[simp] theorem bi_max : biRun .max [.int i, .int j] h = .ok (.int (if j > i then j else i)) h := rfl
@[simp] theorem bi_max3 {k : Int} : biRun .max [.int i, .int j, .int k] h = .ok (.int (if (if j > i then j else i) < k then k else (if j > i then j else i))) h := rfl
@[simp] theorem bi_min3 {k : Int} : biRun .min [.int i, .int j, .int k] h = .ok (.int (if k < (if j < i then j else i) then k else (if j < i then j else i))) h := rfl
@[simp] theorem bi_min : biRun .min [.int i, .int j] h = .ok (.int (if j < i then j else i)) h := rfl
@[simp] theorem bi_lenT (xs : List Val) : biRun .len [.tup xs] h = .ok (.int xs.length) h := rfl
@[simp] theorem seq_ref (n : Nat) : seqOf h (.ref n) = match h[n]? with
  | some (.lst xs) => some xs
  | some (.rol xs) => some xs
  | _ => none := rfl
@[simp] theorem lst_ref (n : Nat) : lstOf h (.ref n) = match h[n]? with
  | some (.lst xs) => some xs
  | some (.rol xs) => some xs
  | _ => none := rfl
@[simp] theorem lenK_ref (n : Nat) : lenK h (.ref n) = match h[n]? with
  | some (.lst xs) => some xs.length
  | some (.rol xs) => some xs.length
  | some (.dic kvs) => some kvs.length
  | _ => none := rfl
@[simp] theorem seqK_ref (n : Nat) : seqK h (.ref n) = match h[n]? with
  | some (.lst xs) => some xs
  | some (.rol xs) => some xs
  | some (.dic kvs) => some (kvs.map fun kv => keyV kv.1)
  | _ => none := rfl
@[simp] theorem sortK_ref (n : Nat) : sortK h (.ref n) = match h[n]? with
  | some (.lst xs) => intsOf xs
  | some (.rol xs) => intsOf xs
  | some (.dic kvs) => if kvs.length < 64 then intsOf (kvs.map fun kv => keyV kv.1) else none
  | _ => none := rfl
@[simp] theorem bi_lenL (n : Nat) : biRun .len [.ref n] h = (Res.opt (lenK h (.ref n)) h).bind fun m h => .ok (.int m) h := rfl
@[simp] theorem bi_listL (n : Nat) : biRun .list [.ref n] h = (Res.opt (seqK h (.ref n)) h).bind newL := rfl
@[simp] theorem bi_sorted (n : Nat) : biRun .sorted [.ref n] h = match sortK h (.ref n) with
  | some ns => newL ((ns.mergeSort (· ≤ ·)).map .int) h
  | none => (Res.opt (sortT h (.ref n)) h).bind newL := rfl
@[simp] theorem bi_any (n : Nat) : biRun .any [.ref n] h = (Res.opt ((lstOf h (.ref n)).bind blsOf) h).bind fun bs h => .ok (.bl (bs.any id)) h := rfl
@[simp] theorem bi_all (n : Nat) : biRun .all [.ref n] h = (Res.opt ((lstOf h (.ref n)).bind blsOf) h).bind fun bs h => .ok (.bl (bs.all id)) h := rfl
@[simp] theorem bi_tupL (n : Nat) : biRun .tuple [.ref n] h = (Res.opt (seqOf h (.ref n)) h).bind fun xs h => .ok (.tup xs) h := rfl
@[simp] theorem bi_listT (xs : List Val) : biRun .list [.tup xs] h = newL xs h := by simp [biRun, seqK]
@[simp] theorem idx_tup (xs : List Val) : idx h (.tup xs) (.int i) = atI xs i := rfl
@[simp] theorem idx_ref (n : Nat) : idx h (.ref n) (.int i) = match h[n]? with
  | some (.lst xs) => atI xs i
  | some (.rol xs) => atI xs i
  | some (.dic kvs) => dGet kvs (.inl i)
  | some (.frd kvs) => dGet kvs (.inl i)
  | _ => none := rfl
@[simp] theorem idx_str (n : Nat) (z : Str) : idx h (.ref n) (.str z) = match h[n]? with
  | some (.dic kvs) => dGet kvs (.inr z)
  | some (.frd kvs) => dGet kvs (.inr z)
  | _ => none := rfl
@[simp] theorem idxL_ref (n : Nat) : idxL h (.ref n) (.int i) = match h[n]? with
  | some (.lst xs) => atI xs i
  | some (.dic kvs) => dGet kvs (.inl i)
  | _ => none := rfl
@[simp] theorem idxL_str (n : Nat) (z : Str) : idxL h (.ref n) (.str z) = match h[n]? with
  | some (.dic kvs) => dGet kvs (.inr z)
  | _ => none := rfl
theorem atI_nat {α : Type} (xs : List α) (k : Nat) : atI xs (k : Int) = xs[k]? := by
  unfold atI ixN
  rw [if_pos (by omega)]
  by_cases hk : k < xs.length
  · rw [if_pos (by omega)]
    simp
  · rw [if_neg (by omega)]
    simp at hk
    simp [hk]
theorem atI_pos {α : Type} (xs : List α) (hi : 0 ≤ i) : atI xs i = xs[i.toNat]? := by
  have := atI_nat xs i.toNat
  rwa [Int.toNat_of_nonneg hi] at this
@[simp] theorem atI_0 {α : Type} (xs : List α) : atI xs 0 = xs[0]? := atI_nat xs 0
@[simp] theorem atI_2 {α : Type} (xs : List α) : atI xs 2 = xs[2]? := atI_nat xs 2
@[simp] theorem atI_3 {α : Type} (xs : List α) : atI xs 3 = xs[3]? := atI_nat xs 3
@[simp] theorem atI_4 {α : Type} (xs : List α) : atI xs 4 = xs[4]? := atI_nat xs 4
@[simp] theorem atI_5 {α : Type} (xs : List α) : atI xs 5 = xs[5]? := atI_nat xs 5
@[simp] theorem atI_6 {α : Type} (xs : List α) : atI xs 6 = xs[6]? := atI_nat xs 6
@[simp] theorem atI_7 {α : Type} (xs : List α) : atI xs 7 = xs[7]? := atI_nat xs 7
@[simp] theorem atI_1 {α : Type} (xs : List α) : atI xs 1 = xs[1]? := atI_nat xs 1
theorem ixN_pos {n : Nat} (h0 : 0 ≤ i) (h1 : i < n) : ixN n i = some i.toNat := by
  unfold ixN
  rw [if_pos h0, if_pos h1]
@[simp] theorem setIdx_ref (n : Nat) (v : Val) : setIdx (.ref n) (.int i) v h = match h[n]? with
  | some (.lst xs) => (match ixN xs.length i with
    | some k => .ok .non (h.set n (.lst (xs.set k v)))
    | none => .bad)
  | some (.dic kvs) => if kvs.length < sizeLine then .ok .non (h.set n (.dic (dPut kvs (.inl i) v))) else .bad
  | _ => .bad := rfl
@[simp] theorem setIdx_str (n : Nat) (z : Str) (v : Val) : setIdx (.ref n) (.str z) v h = match h[n]? with
  | some (.dic kvs) => if kvs.length < sizeLine then .ok .non (h.set n (.dic (dPut kvs (.inr z) v))) else .bad
  | _ => .bad := rfl
@[simp] theorem delIdx_ref (n : Nat) (v : Val) : delIdx (.ref n) v h = match h[n]? with
  | some (.dic kvs) => (match keyOf v with
    | some k => if (dGet kvs k).isSome then .ok .non (h.set n (.dic (dDrop kvs k))) else .bad
    | none => .bad)
  | _ => .bad := by
  simp only [delIdx]
  all_goals (rcases h[n]? with _ | o <;> first | rfl | (cases o <;> rfl))
@[simp] theorem keyOf_int : keyOf (.int i) = some (.inl i) := rfl
@[simp] theorem keyOf_str (x : Str) : keyOf (.str x) = some (.inr x) := rfl
/-- x in o -/
def notB (neg : Bool) (r : Res Val) : Res Val := match r with
  | .ok (.bl b) h => .ok (.bl (b != neg)) h
  | _ => .bad
def isB (v : Val) (f : Bool → Prop) : Prop := match v with
  | .bl b => f b
  | _ => False
@[simp] theorem isB_bl (b : Bool) (f : Bool → Prop) : isB (.bl b) f ↔ f b := Iff.rfl
@[simp] theorem w_notB {Q : Val → Mem → Prop} {X : XQ} (neg : Bool) (r : Res Val) : (notB neg r).W Q X ↔ r.W (fun v h => isB v fun b => Q (.bl (b != neg)) h) nX := by
  cases r with
  | ok v h => cases v <;> simp [notB, isB]
  | exc c fs h => simp [notB, nX]
  | bad => simp [notB]
def inIn (Γ : Pg) (call : CallT) (neg : Bool) (c : Str) (x y : Val) (h : Mem) : Res Val := match Γ.cls.lookup c with
  | some C => match C.meths.lookup ("__contains__" : Str) with
    | some g => notB neg (callBy Γ call g 2 [] [y, x] [] h)
    | none => .bad
  | none => .bad
@[simp] theorem inM_ref (Γ : Pg) (call : CallT) (neg : Bool) (x : Val) (n : Nat) : inM Γ call neg x (.ref n) h = match h[n]? with
  | some (.ins c _) => inIn Γ call neg c x (.ref n) h
  | some (.dic kvs) => (Res.opt (keyOf x) h).bind fun k h => .ok (.bl ((dGet kvs k).isSome != neg)) h
  | some (.frd kvs) => (Res.opt (keyOf x) h).bind fun k h => .ok (.bl ((dGet kvs k).isSome != neg)) h
  | _ => (Res.opt (cmpop (if neg then .NotIn else .In) h x (.ref n)) h).bind fun b h => .ok (.bl b) h := by
  simp only [inM]
  cases e : h[n]? with
  | none => rfl
  | some o =>
    cases o with
    | ins c fs =>
      unfold inIn notB
      try dsimp only
      all_goals (rcases Γ.cls.lookup c with _ | C <;> first | rfl | (dsimp only; rcases C.meths.lookup ("__contains__" : Str) with _ | g <;> first | rfl | (dsimp only; rcases callBy Γ call g 2 [] [.ref n, x] [] h with ⟨v, h⟩ | _ | _ <;> first | rfl | (cases v <;> rfl))))
    | dic kvs =>
      have hx : ∀ y : Val, inOp h y (.ref n) = (keyOf y).map fun k => (dGet kvs k).isSome := fun y => by
        cases y <;> simp only [inOp, e]
      cases neg with
      | false =>
        show (Res.opt (cmpop .In h x (.ref n)) h).bind _ = _
        simp only [cmpop, hx]
        cases keyOf x <;> simp
      | true =>
        show (Res.opt (cmpop .NotIn h x (.ref n)) h).bind _ = _
        simp only [cmpop, hx]
        cases keyOf x <;> simp
    | frd kvs =>
      have hx : ∀ y : Val, inOp h y (.ref n) = (keyOf y).map fun k => (dGet kvs k).isSome := fun y => by
        cases y <;> simp only [inOp, e]
      cases neg with
      | false =>
        show (Res.opt (cmpop .In h x (.ref n)) h).bind _ = _
        simp only [cmpop, hx]
        cases keyOf x <;> simp
      | true =>
        show (Res.opt (cmpop .NotIn h x (.ref n)) h).bind _ = _
        simp only [cmpop, hx]
        cases keyOf x <;> simp
    | lst xs => rfl
    | rol xs => rfl
@[simp] theorem inM_tup (Γ : Pg) (call : CallT) (neg : Bool) (x : Val) (ts : List Val) : inM Γ call neg x (.tup ts) h = (Res.opt (cmpop (if neg then .NotIn else .In) h x (.tup ts)) h).bind fun b h => .ok (.bl b) h := rfl
@[simp] theorem inM_strS (Γ : Pg) (call : CallT) (neg : Bool) (x : Val) (z : Str) : inM Γ call neg x (.str z) h = (Res.opt (cmpop (if neg then .NotIn else .In) h x (.str z)) h).bind fun b h => .ok (.bl b) h := rfl
@[simp] theorem wkV_ref (n : Nat) : wkV h (.ref n) = match h[n]? with
  | some (.lst xs) => some (wkL n xs.length)
  | some (.rol xs) => some (wkL n xs.length)
  | _ => none := rfl
theorem ixN_lit (n k : Nat) : ixN n (k : Int) = if k < n then some k else none := by
  unfold ixN
  rw [if_pos (by omega)]
  by_cases hk : k < n
  · rw [if_pos (by omega), if_pos hk]
    simp
  · rw [if_neg (by omega), if_neg hk]
@[simp] theorem ixN_0 (n : Nat) : ixN n 0 = if 0 < n then some 0 else none := ixN_lit n 0
@[simp] theorem ixN_1 (n : Nat) : ixN n 1 = if 1 < n then some 1 else none := ixN_lit n 1
@[simp] theorem ixN_2 (n : Nat) : ixN n 2 = if 2 < n then some 2 else none := ixN_lit n 2
@[simp] theorem ixN_3 (n : Nat) : ixN n 3 = if 3 < n then some 3 else none := ixN_lit n 3
@[simp] theorem ixN_4 (n : Nat) : ixN n 4 = if 4 < n then some 4 else none := ixN_lit n 4
@[simp] theorem wkV_tup (xs : List Val) : wkV h (.tup xs) = some (wkT xs) := rfl
@[simp] theorem selV_nil (us ws : List Val) : selV us ws [] = some [] := rfl
@[simp] theorem selV_ps (us ws : List Val) (i : Nat) (r : List Src) : selV us ws (.ps i :: r) = us[i]?.bind fun v => (selV us ws r).map (v :: ·) := by
  simp only [selV, pick1]
  cases us[i]? <;> cases selV us ws r <;> rfl
@[simp] theorem selV_kw (us ws : List Val) (i : Nat) (r : List Src) : selV us ws (.kw i :: r) = ws[i]?.bind fun v => (selV us ws r).map (v :: ·) := by
  simp only [selV, pick1]
  cases ws[i]? <;> cases selV us ws r <;> rfl
@[simp] theorem selV_df (us ws : List Val) (v : Val) (r : List Src) : selV us ws (.df v :: r) = (selV us ws r).map (v :: ·) := by
  simp only [selV, pick1]
  cases selV us ws r <;> rfl
@[simp] theorem put_nm (i : Nat) (v : Val) (ρ : Env) : put1 (.nm i) v ρ = some (ρ.set i (some v)) := rfl
@[simp] theorem put_2 (i j : Nat) (v w : Val) (ρ : Env) : put1 (.tp [.nm i, .nm j]) (.tup [v, w]) ρ = some ((ρ.set i (some v)).set j (some w)) := rfl
@[simp] theorem put_3 (i j k : Nat) (u v w : Val) (ρ : Env) : put1 (.tp [.nm i, .nm j, .nm k]) (.tup [u, v, w]) ρ = some (((ρ.set i (some u)).set j (some v)).set k (some w)) := rfl
/-- a field -/
def fget (fs : List (Str × Val)) (x : Str) : Option Val := fs.lookup x
/-- an object's attribute, its class known -/
def attrIn (Γ : Pg) (call : CallT) (x c : Str) (fs : List (Str × Val)) (v : Val) (h : Mem) : Res Val := match Γ.cls.lookup c with
  | some C => match C.props.lookup x with
    | some g => (call g [v] h).shut
    | none => if C.flds.contains x then Res.opt (fs.lookup x) h else .bad
  | none => .bad
@[simp] theorem attr_ref (Γ : Pg) (call : CallT) (x : Str) (n : Nat) : attrOf Γ call x (.ref n) h = match h[n]? with
  | some (.ins c fs) => attrIn Γ call x c fs (.ref n) h
  | _ => .bad := by
  simp only [attrOf]
  rcases h[n]? with _ | o
  · rfl
  · cases o <;> rfl
def setIn (Γ : Pg) (x c : Str) (fs : List (Str × Val)) (n : Nat) (v : Val) (h : Mem) : Res Val := match Γ.cls.lookup c with
  | some C => if C.flds.contains x && decide (fs.length < 1000) then .ok .non (h.set n (.ins c (putFd x v fs))) else .bad
  | none => .bad
@[simp] theorem setA_ref (Γ : Pg) (x : Str) (n : Nat) (v : Val) : setAttrM Γ x (.ref n) v h = match h[n]? with
  | some (.ins c fs) => setIn Γ x c fs n v h
  | _ => .bad := by
  simp only [setAttrM]
  rcases h[n]? with _ | o
  · rfl
  · cases o <;> rfl
def methIn (Γ : Pg) (call : CallT) (m : Str) (n : Nat) (ks : List Str) (c : Str) (fs : List (Str × Val)) (as kas : MA) (ρ : Env) (v : Val) (h : Mem) : Res Val := match Γ.cls.lookup c with
  | some C => match C.meths.lookup m with
    | some g => if (fs.lookup m).isNone then (as ρ h).bind fun us h => (kas ρ h).bind fun ws h => callBy Γ call g (n + 1) ks (v :: us) ws h else .bad
    | none => .bad
  | none => .bad
@[simp] theorem meth_ref (Γ : Pg) (call : CallT) (m : Str) (n : Nat) (ks : List Str) (as kas : MA) (ρ : Env) (a : Nat) : methBy Γ call m n ks as kas ρ (.ref a) h = match h[a]? with
  | some (.ins c fs) => methIn Γ call m n ks c fs as kas ρ (.ref a) h
  | some (.lst _) => (match lmOf m, ks with
    | some k, [] => (as ρ h).bind fun us h => lmRun k a us h
    | _, _ => .bad)
  | some (.dic _) => (match ks with
    | [] => if m = "pop" then (as ρ h).bind fun us h => dPop a us h else if m = "get" then (as ρ h).bind fun us h => dGetM a us h else .bad
    | _ => .bad)
  | _ => .bad := by
  simp only [methBy]
  rcases h[a]? with _ | o
  · rfl
  · cases o <;> rfl
@[simp] theorem methBy_str (Γ : Pg) (call : CallT) (m : Str) (n : Nat) (as kas : MA) (z : Str) : methBy Γ call m n [] as kas ρ (.str z) h = match smOf m with
  | some k => (as ρ h).bind fun us h => smRun k z us h
  | none => .bad := by
  simp only [methBy]
  all_goals (cases smOf m <;> rfl)
@[simp] theorem sm_join : smOf "join" = some .join := by kernel_rfl
@[simp] theorem sm_find : smOf "find" = some .find := by kernel_rfl
@[simp] theorem sm_rfind : smOf "rfind" = some .rfind := by kernel_rfl
@[simp] theorem sm_startswith : smOf "startswith" = some .startswith := by kernel_rfl
@[simp] theorem sm_endswith : smOf "endswith" = some .endswith := by kernel_rfl
@[simp] theorem sm_count : smOf "count" = some .count := by kernel_rfl
@[simp] theorem sm_upper : smOf "upper" = some .upper := by kernel_rfl
@[simp] theorem sm_split : smOf "split" = some .split := by kernel_rfl
@[simp] theorem smr_join (z : Str) (us : List Val) : smRun .join z us h = sJoin z us h := rfl
@[simp] theorem smr_find (z b : Str) : smRun .find z [.str b] h = .ok (.int (Txt.find z b)) h := rfl
@[simp] theorem smr_rfind (z b : Str) : smRun .rfind z [.str b] h = .ok (.int (Txt.rfind z b)) h := rfl
@[simp] theorem smr_startswith (z b : Str) : smRun .startswith z [.str b] h = .ok (.bl (Txt.startswith z b)) h := rfl
@[simp] theorem smr_endswith (z b : Str) : smRun .endswith z [.str b] h = .ok (.bl (Txt.endswith z b)) h := rfl
@[simp] theorem smr_count (z b : Str) : smRun .count z [.str b] h = .ok (.int (Txt.count z b)) h := rfl
@[simp] theorem smr_upper (z : Str) : smRun .upper z [] h = if z.length ≤ 5592405 then .ok (.str (Txt.upper z)) h else .bad := rfl
@[simp] theorem smr_split (z b : Str) : smRun .split z [.str b] h = if (b.length == 0) = false ∧ z.length + 2 ≤ sizeLine then newL ((Txt.split z b).map .str) h else .bad := rfl
@[simp] theorem smr_words (z : Str) : smRun .split z [] h = if z.length + 2 ≤ sizeLine then newL ((Txt.words z).map .str) h else .bad := rfl
@[simp] theorem w_eTIdx (ts : List Val) (a : ME) : (eTIdx ts a ρ h).W Q X ↔ (a ρ h).W (fun v h => (tIndex ts [v] h).W Q X) X := by simp [eTIdx]
@[simp] theorem tIndex_1 (ts : List Val) (z : Str) : tIndex ts [.str z] h = match strsOf ts with
  | some ys => (match ys.findIdx? (fun y => decide (y = z)) with
    | some j => .ok (.int (j : Nat)) h
    | none => .bad)
  | none => .bad := rfl
@[simp] theorem wkV_str (z : Str) : wkV h (.str z) = some (wkS z) := rfl
@[simp] theorem lm_insert : lmOf "insert" = some .insert := by kernel_rfl
@[simp] theorem lm_count : lmOf "count" = some .count := by kernel_rfl
@[simp] theorem lmr_insert (n : Nat) (i : Int) (y : Val) : lmRun .insert n [.int i, y] h = match h[n]? with
  | some (.lst xs) => if xs.length < sizeLine ∧ 0 ≤ i ∧ i < 2 ^ 63 then .ok .non (h.set n (.lst (xs.take i.toNat ++ [y] ++ xs.drop i.toNat))) else .bad
  | _ => .bad := by
  simp only [lmRun]
  all_goals (rcases h[n]? with _ | o <;> first | rfl | (cases o <;> rfl))
@[simp] theorem lmr_count (n : Nat) (i : Int) : lmRun .count n [.int i] h = match h[n]? with
  | some (.lst xs) => (match intsOf xs with
    | some ns => .ok (.int ((ns.count i : Nat) : Int)) h
    | none => .bad)
  | _ => .bad := by
  simp only [lmRun]
  all_goals (rcases h[n]? with _ | o <;> first | rfl | (cases o <;> rfl))
@[simp] theorem sJoin_ref (z : Str) (n : Nat) : sJoin z [.ref n] h = match (lstOf h (.ref n)).bind strsOf with
  | some ys => if (ys.map (·.length)).sum + ys.length * z.length ≤ 16777216 then .ok (.str (Txt.join z ys)) h else .bad
  | none => .bad := rfl
@[simp] theorem lm_append : lmOf "append" = some .append := by kernel_rfl
@[simp] theorem lm_extend : lmOf "extend" = some .extend := by kernel_rfl
@[simp] theorem lm_pop : lmOf "pop" = some .pop := by kernel_rfl
@[simp] theorem lm_clear : lmOf "clear" = some .clear := by kernel_rfl
@[simp] theorem lm_reverse : lmOf "reverse" = some .reverse := by kernel_rfl
@[simp] theorem lm_remove : lmOf "remove" = some .remove := by kernel_rfl
@[simp] theorem lmr_remove (n : Nat) (i : Int) : lmRun .remove n [.int i] h = match h[n]? with
  | some (.lst xs) => (match intsOf xs with
    | some ns => if i ∈ ns then .ok .non (h.set n (.lst ((ns.erase i).map .int))) else .bad
    | none => .bad)
  | _ => .bad := by
  simp only [lmRun]
  all_goals (rcases h[n]? with _ | o <;> first | rfl | (cases o <;> rfl))
@[simp] theorem lm_index : lmOf "index" = some .index := by kernel_rfl
@[simp] theorem lmr_index (n : Nat) (y : Val) : lmRun .index n [y] h = match h[n]? with
  | some (.lst xs) => if (flat y && xs.all flat) = true then (match xs.findIdx? (fun z => eqF z y) with
    | some j => .ok (.int (j : Nat)) h
    | none => .bad) else .bad
  | _ => .bad := by
  simp only [lmRun]
  all_goals (rcases h[n]? with _ | o <;> first | rfl | (cases o <;> rfl))
@[simp] theorem dGetM_2 (a : Nat) (y d : Val) : dGetM a [y, d] h = match h[a]? with
  | some (.dic kvs) => (match keyOf y with
    | some k => .ok ((dGet kvs k).getD d) h
    | none => .bad)
  | _ => .bad := by
  simp only [dGetM]
  all_goals (rcases h[a]? with _ | o <;> first | rfl | (cases o <;> first | rfl | (dsimp only; cases keyOf y <;> rfl)))
@[simp] theorem lmr_clear (n : Nat) : lmRun .clear n [] h = match h[n]? with
  | some (.lst xs) => .ok .non (h.set n (.lst []))
  | _ => .bad := by
  simp only [lmRun]
  all_goals (rcases h[n]? with _ | o <;> first | rfl | (cases o <;> rfl))
@[simp] theorem lmr_popI (n : Nat) (i : Int) : lmRun .pop n [.int i] h = match h[n]? with
  | some (.lst xs) => (match ixN xs.length i with
    | some k => (match xs[k]? with
      | some y => .ok y (h.set n (.lst (xs.eraseIdx k)))
      | none => .bad)
    | none => .bad)
  | _ => .bad := by
  simp only [lmRun]
  all_goals (rcases h[n]? with _ | o <;> first | rfl | (cases o <;> rfl))
@[simp] theorem lmr_append (n : Nat) (y : Val) : lmRun .append n [y] h = match h[n]? with
  | some (.lst xs) => if xs.length < sizeLine then .ok .non (h.set n (.lst (xs ++ [y]))) else .bad
  | _ => .bad := by
  simp only [lmRun]
  all_goals (rcases h[n]? with _ | o <;> first | rfl | (cases o <;> rfl))
end
end Mp
set_option Elab.async false
set_option linter.all false
set_option maxRecDepth 100000
set_option maxHeartbeats 1000000
namespace Mp
open PySem L2
/-! ### the draws of every law -/
def L_mixed (c : CallT) : MS := (sSeq (sSet 3 (eBin .Mod (eBi .int (aCons (eBin .Add (eBin .Add (eBin .Mult (eBi .int (aCons (eVar 0) aNil)) (eC (.int (48271)))) (eBin .Mult (eBi .int (aCons (eVar 1) aNil)) (eC (.int (1583458089))))) (eC (.int (1013)))) aNil)) (eC (.int (2147483647))))) (sSeq (sSet 4 (eBin .Mod (eBi .int (aCons (eBin .Add (eBin .Add (eBin .Mult (eVar 3) (eVar 3)) (eBin .Mult (eBi .int (aCons (eVar 1) aNil)) (eC (.int (40692))))) (eC (.int (7)))) aNil)) (eC (.int (2147483399))))) (sSeq (sSet 5 (eBin .Mod (eBi .int (aCons (eBin .Add (eBin .Mult (eVar 4) (eVar 4)) (eVar 3)) aNil)) (eC (.int (2147483563))))) (sSeq (sIf (tE (eCmp .Gt (eVar 2) (eC (.int (1000000000))))) (sRet (eBin .Mod (eBi .int (aCons (eBin .Add (eBin .Mult (eVar 4) (eC (.int (2147483563)))) (eVar 5)) aNil)) (eVar 2))) sSkip) (sRet (eBin .Mod (eVar 5) (eVar 2)))))))
def L_store (c : CallT) : MS := (sSeq (sSet 2 (eBin .Add (eBin .Mult (eVar 1) (eC (.int (7919)))) (eBi .len (aCons (eVar 0) aNil)))) (sSeq (sFor (.nm 3) (iVal (eVar 0)) (sSet 2 (eBin .Mod (eBi .int (aCons (eBin .Add (eBin .Add (eBin .Mult (eVar 2) (eC (.int (1000003)))) (eBin .Mod (eBi .int (aCons (eVar 3) aNil)) (eC (.int (2147483629))))) (eC (.int (1)))) aNil)) (eC (.int (2147483647))))) sSkip) (sRet (eLst (aCons (eBi .list (aCons (eVar 0) aNil)) (aCons (eC (.int (0))) (aCons (eC (.int (0))) (aCons (eC (.int (0))) (aCons (eVar 2) aNil)))))))))
def L_take (c : CallT) : MS := (sSeq (sAugIdx (eVar 0) (eC (.int (3))) .Add (eC (.int (1)))) (sSeq (sIf (tE (eCmp .Lt (eVar 1) (eC (.int (2))))) (sRet (eC (.int (0)))) sSkip) (sSeq (sIf (tAnd (tE (eCmp .Eq (eIdx (eVar 0) (eC (.int (2)))) (eC (.int (0))))) (tE (eCmp .Lt (eIdx (eVar 0) (eC (.int (1)))) (eBi .len (aCons (eIdx (eVar 0) (eC (.int (0)))) aNil))))) (sSeq (sSet 2 (eBi .int (aCons (eIdx (eIdx (eVar 0) (eC (.int (0)))) (eIdx (eVar 0) (eC (.int (1))))) aNil))) (sSeq (sAugIdx (eVar 0) (eC (.int (1))) .Add (eC (.int (1)))) (sSeq (sIf (tE (eCmp .Lt (eBi .abs (aCons (eVar 2) aNil)) (eBin .Pow (eC (.int (10))) (eC (.int (18)))))) (sRet (eCall (c "_law_mixed") (aCons (eVar 2) (aCons (eIdx (eVar 0) (eC (.int (3)))) (aCons (eVar 1) aNil))))) sSkip) (sSetIdx (eVar 0) (eC (.int (2))) (eBi .abs (aCons (eVar 2) aNil)))))) sSkip) (sSeq (sIf (tE (eCmp .Eq (eIdx (eVar 0) (eC (.int (2)))) (eC (.int (0))))) (sRet (eCall (c "_law_mixed") (aCons (eIdx (eVar 0) (eC (.int (4)))) (aCons (eIdx (eVar 0) (eC (.int (3)))) (aCons (eVar 1) aNil))))) sSkip) (sSeq (sSet 3 (eBin .Mod (eBi .int (aCons (eIdx (eVar 0) (eC (.int (2)))) aNil)) (eVar 1))) (sSeq (sSetIdx (eVar 0) (eC (.int (2))) (eBin .FloorDiv (eBi .int (aCons (eIdx (eVar 0) (eC (.int (2)))) aNil)) (eVar 1))) (sRet (eVar 3))))))))
def L_pick (c : CallT) : MS := (sRet (eIdx (eVar 1) (eCall (c "_law_take") (aCons (eVar 0) (aCons (eBi .len (aCons (eVar 1) aNil)) aNil)))))
def L_between (c : CallT) : MS := (sSeq (sSet 3 (eBin .Add (eBin .Sub (eVar 2) (eVar 1)) (eC (.int (1))))) (sSeq (sSet 4 (eCall (c "_law_take") (aCons (eVar 0) (aCons (eC (.int (6))) aNil)))) (sSeq (sIf (tE (eCmp .Eq (eVar 4) (eC (.int (0))))) (sRet (eBin .Add (eVar 1) (eCall (c "_law_take") (aCons (eVar 0) (aCons (eBi .min (aCons (eVar 3) (aCons (eC (.int (2))) aNil))) aNil))))) sSkip) (sSeq (sIf (tE (eCmp .Eq (eVar 4) (eC (.int (1))))) (sRet (eBin .Sub (eVar 2) (eCall (c "_law_take") (aCons (eVar 0) (aCons (eBi .min (aCons (eVar 3) (aCons (eC (.int (2))) aNil))) aNil))))) sSkip) (sRet (eBin .Add (eVar 1) (eCall (c "_law_take") (aCons (eVar 0) (aCons (eVar 3) aNil)))))))))
def L_size (c : CallT) : MS := (sSeq (sSet 2 (eCall (c "_law_take") (aCons (eVar 0) (aCons (eC (.int (12))) aNil)))) (sSeq (sIf (tE (eCmp .Eq (eVar 2) (eC (.int (0))))) (sRet (eC (.int (0)))) sSkip) (sSeq (sIf (tE (eCmp .Eq (eVar 2) (eC (.int (1))))) (sRet (eVar 1)) sSkip) (sSeq (sIf (tE (eCmp .Eq (eVar 2) (eC (.int (2))))) (sRet (eBi .max (aCons (eC (.int (0))) (aCons (eBin .Sub (eVar 1) (eC (.int (1)))) aNil)))) sSkip) (sSeq (sIf (tE (eCmp .Eq (eVar 2) (eC (.int (3))))) (sRet (eCall (c "_law_take") (aCons (eVar 0) (aCons (eBin .Add (eVar 1) (eC (.int (1)))) aNil)))) sSkip) (sRet (eCall (c "_law_take") (aCons (eVar 0) (aCons (eBin .Add (eBi .min (aCons (eVar 1) (aCons (eC (.int (5))) aNil))) (eC (.int (1)))) aNil)))))))))
/-- the store: the list at 2, the script's copy at 1 -/
structure St (h : Mem) : Prop where
  ex : ∃ (ns : List Int) (p c t s : Int), h[2]? = some (.lst [.ref 1, .int p, .int c, .int t, .int s]) ∧ h[1]? = some (.lst (ns.map .int)) ∧ 0 ≤ p ∧ 0 ≤ c
/-- a draw: only the store has changed -/
structure Dr (h h' : Mem) : Prop where
  st : St h'
  fr : Fr [2] h h'
  len : h'.length = h.length
theorem Dr.get {h h' : Mem} (d : Dr h h') {n : Nat} {o : Ob} (e : h[n]? = some o) (hn : n ≠ 2) : h'[n]? = some o := d.fr.get e (by simp [hn])
theorem Dr.trans {h h' h'' : Mem} (a : Dr h h') (b : Dr h' h'') : Dr h h'' := ⟨b.st, a.fr.trans b.fr, b.len.trans a.len⟩
def SpMixed (m : List Val → Mem → Res Val) : Prop := ∀ (i t k : Int) (h : Mem), 0 < k → (m [.int i, .int t, .int k] h).W (fun v h' => h' = h ∧ ∃ r, v = .int r ∧ 0 ≤ r ∧ r < k) nX
def SpTake (m : List Val → Mem → Res Val) : Prop := ∀ (k : Int) (h : Mem), St h → k < 2 ^ 63 → (m [.ref 2, .int k] h).W (fun v h' => Dr h h' ∧ ∃ r, v = .int r ∧ 0 ≤ r ∧ (r < k ∨ r = 0)) nX
theorem mul_ok {i j : Int} (h : (-(2 ^ 64) < i ∧ i < 2 ^ 64) ∨ (-(2 ^ 64) < j ∧ j < 2 ^ 64)) : mulOk i j = true := by
  unfold mulOk
  simp only [Bool.or_eq_true, decide_eq_true_eq]
  exact h
theorem mod_lt (a : Int) {b : Int} (h : 0 < b) : 0 ≤ a % b ∧ a % b < b := ⟨Int.emod_nonneg _ (by omega), Int.emod_lt_of_pos _ h⟩
theorem sp_mixed (c : CallT) : SpMixed fun args h => fin (L_mixed c (args.map some ++ [none, none, none]) h) := by
  intro i t k h hk
  simp only [W_fin, L_mixed]
  have m1 := mod_lt (i * 48271 + t * 1583458089 + 1013) (b := 2147483647) (by decide)
  have m2 := mod_lt ((i * 48271 + t * 1583458089 + 1013) % 2147483647 * ((i * 48271 + t * 1583458089 + 1013) % 2147483647) + t * 40692 + 7) (b := 2147483399) (by decide)
  simp
  refine ⟨mul_ok (by omega), mul_ok (by omega), mul_ok (by omega), mul_ok (by omega), mul_ok (by omega), fun h1 => ⟨mul_ok (by omega), hk, mod_lt _ hk⟩, fun h1 => ⟨hk, mod_lt _ hk⟩⟩
theorem sp_take {c : CallT} (hm : SpMixed (c "_law_mixed")) : SpTake fun args h => fin (L_take c (args.map some ++ [none, none]) h) := by
  intro k h ⟨ns, p, q, t, s, e2, e1, hp, hq⟩ hk
  have g2 : ∀ o, (h.set 2 o)[2]? = some o := fun o => get_set e2
  have g1 : ∀ o, (h.set 2 o)[1]? = some (.lst (ns.map .int)) := fun o => get_set_ne e1 (by decide)
  simp only [W_fin, L_take]
  simp [e2, e1, g2, g1]
  have dr : ∀ (p' q' t' s' : Int), 0 ≤ p' → 0 ≤ q' → Dr h (h.set 2 (.lst [.ref 1, .int p', .int q', .int t', .int s'])) := fun p' q' t' s' a b =>
    ⟨⟨ns, p', q', t', s', g2 _, g1 _, a, b⟩, Fr.set _ _ _, by simp⟩
  -- the digits of a large cell
  have digits : ∀ (p' q' t' s' : Int), 0 ≤ p' → 0 ≤ q' → 2 ≤ k → 0 < k ∧ (0 < k ∧ k < 2 ^ 64) ∧ Dr h (h.set 2 (.lst [.ref 1, .int p', .int (q' / k), .int t', .int s'])) ∧ 0 ≤ q' % k ∧ (q' % k < k ∨ q' % k = 0) := fun p' q' t' s' a b hk2 =>
    ⟨by omega, ⟨by omega, by omega⟩, dr _ _ _ _ a (Int.ediv_nonneg b (by omega)), (mod_lt q' (by omega)).1, .inl (mod_lt q' (by omega)).2⟩
  have mixd : ∀ (i t' : Int) (h1 : Mem), 2 ≤ k → Dr h h1 → (c "_law_mixed" [.int i, .int t', .int k] h1).W (fun v h' => Dr h h' ∧ ∃ r, v = Val.int r ∧ 0 ≤ r ∧ (r < k ∨ r = 0)) nX := fun i t' h1 hk2 d =>
    (hm i t' k h1 (by omega)).imp (fun v h' ⟨e, r, ev, r1, r2⟩ => ⟨by rw [e]; exact d, r, ev, r1, .inl r2⟩) fun _ _ _ z => z
  refine ⟨fun hk2 => dr _ _ _ _ hp hq, fun hk2 => ⟨fun q0 => ⟨fun hlt => ?_, fun hge => ?_⟩, fun q0 => ?_⟩⟩
  · rw [atI_pos _ hp]
    have hlt' : p.toNat < ns.length := by omega
    simp [hlt', e2, e1, g2, g1]
    have ha : 0 ≤ if ns[p.toNat] < 0 then -ns[p.toNat] else ns[p.toNat] := by split <;> omega
    exact ⟨fun _ => mixd _ _ _ hk2 (dr _ _ _ _ (by omega) hq), fun _ => ⟨fun _ => mixd _ _ _ hk2 (dr _ _ _ _ (by omega) ha), fun _ => digits _ _ _ _ (by omega) ha hk2⟩⟩
  · exact ⟨fun _ => mixd _ _ _ hk2 (dr _ _ _ _ hp hq), fun _ => digits _ _ _ _ hp hq hk2⟩
  · exact ⟨fun _ => mixd _ _ _ hk2 (dr _ _ _ _ hp hq), fun _ => digits _ _ _ _ hp hq hk2⟩
/-- drawing, then going on -/
theorem take_then {m : List Val → Mem → Res Val} (hm : SpTake m) {k : Int} {h : Mem} {Q : Val → Mem → Prop} {X : XQ} (st : St h) (hk : k < 2 ^ 63) (q : ∀ r h', 0 ≤ r → (r < k ∨ r = 0) → Dr h h' → Q (.int r) h') : (m [.ref 2, .int k] h).W Q X :=
  (hm k h st hk).mono fun v h' ⟨d, r, e, r1, r2⟩ => by rw [e]; exact q r h' r1 r2 d
def SpBetween (m : List Val → Mem → Res Val) : Prop := ∀ (a b : Int) (h : Mem), St h → a ≤ b → b - a < 2 ^ 62 → (m [.ref 2, .int a, .int b] h).W (fun v h' => Dr h h' ∧ ∃ r, v = .int r ∧ a ≤ r ∧ r ≤ b) nX
theorem sp_between {c : CallT} (ht : SpTake (c "_law_take")) : SpBetween fun args h => fin (L_between c (args.map some ++ [none, none]) h) := by
  intro a b h st hab hb
  simp only [W_fin, L_between]
  simp
  refine take_then ht st (by decide) fun r h1 r1 r2 d1 => ?_
  simp
  refine ⟨fun _ => take_then ht d1.st ?_ fun q h2 q1 q2 d2 => ?_, fun _ => ⟨fun _ => take_then ht d1.st ?_ fun q h2 q1 q2 d2 => ?_, fun _ => take_then ht d1.st ?_ fun q h2 q1 q2 d2 => ?_⟩⟩
  · split <;> omega
  · simp
    refine ⟨d1.trans d2, ?_⟩
    split at q2 <;> omega
  · split <;> omega
  · simp
    refine ⟨d1.trans d2, ?_⟩
    split at q2 <;> omega
  · omega
  · simp
    exact ⟨d1.trans d2, by omega⟩
theorem between_then {m : List Val → Mem → Res Val} (hm : SpBetween m) {a b : Int} {h : Mem} {Q : Val → Mem → Prop} {X : XQ} (st : St h) (hab : a ≤ b) (hb : b - a < 2 ^ 62) (q : ∀ r h', a ≤ r → r ≤ b → Dr h h' → Q (.int r) h') : (m [.ref 2, .int a, .int b] h).W Q X :=
  (hm a b h st hab hb).mono fun v h' ⟨d, r, e, r1, r2⟩ => by rw [e]; exact q r h' r1 r2 d
def SpSize (m : List Val → Mem → Res Val) : Prop := ∀ (k : Int) (h : Mem), St h → 0 ≤ k → k < 2 ^ 62 → (m [.ref 2, .int k] h).W (fun v h' => Dr h h' ∧ ∃ r, v = .int r ∧ 0 ≤ r ∧ r ≤ k) nX
theorem sp_size {c : CallT} (ht : SpTake (c "_law_take")) : SpSize fun args h => fin (L_size c (args.map some ++ [none]) h) := by
  intro k h st hk hb
  simp only [W_fin, L_size]
  simp
  refine take_then ht st (by decide) fun r h1 r1 r2 d1 => ?_
  simp
  refine ⟨fun _ => ⟨d1, hk⟩, fun _ => ⟨fun _ => ⟨d1, hk⟩, fun _ => ⟨fun _ => ⟨d1, ?_⟩, fun _ => ⟨fun _ => take_then ht d1.st (by omega) fun q h2 q1 q2 d2 => ?_, fun _ => take_then ht d1.st ?_ fun q h2 q1 q2 d2 => ?_⟩⟩⟩⟩
  · split <;> omega
  · simp
    exact ⟨d1.trans d2, by omega⟩
  · split <;> omega
  · simp
    refine ⟨d1.trans d2, ?_⟩
    split at q2 <;> omega
theorem size_then {m : List Val → Mem → Res Val} (hm : SpSize m) {k : Int} {h : Mem} {Q : Val → Mem → Prop} {X : XQ} (st : St h) (h0 : 0 ≤ k) (hk : k < 2 ^ 62) (q : ∀ r h', 0 ≤ r → r ≤ k → Dr h h' → Q (.int r) h') : (m [.ref 2, .int k] h).W Q X :=
  (hm k h st h0 hk).mono fun v h' ⟨d, r, e, r1, r2⟩ => by rw [e]; exact q r h' r1 r2 d
/-- one of a row -/
def SpPick (m : List Val → Mem → Res Val) : Prop := ∀ (n : Nat) (xs : List Val) (h : Mem), St h → h[n]? = some (.lst xs) → n ≠ 2 → 0 < xs.length → xs.length < 2 ^ 62 → (m [.ref 2, .ref n] h).W (fun v h' => Dr h h' ∧ ∃ i, i < xs.length ∧ xs[i]? = some v) nX
theorem sp_pick {c : CallT} (ht : SpTake (c "_law_take")) : SpPick fun args h => fin (L_pick c (args.map some) h) := by
  intro n xs h st e hn h0 hl
  simp only [W_fin, L_pick]
  simp [e]
  refine take_then ht st (by omega) fun r h1 r1 r2 d1 => ?_
  have hr : r.toNat < xs.length := by omega
  simp [d1.get e hn, atI_pos _ r1, hr]
  exact ⟨d1, r.toNat, hr, by simp [hr]⟩
/-- the store is made -/
theorem sp_store (c : CallT) (ns : List Int) (salt : Int) (hl : ns.length ≤ 63) {Q : Val → Mem → Prop} {X : XQ} (q : ∀ h', h'.length = 3 → St h' → h'[0]? = some (.rol (ns.map .int)) → Q (.ref 2) h') :
    (fin (L_store c ([.ref 0, .int salt].map some ++ [none, none]) [.rol (ns.map .int)])).W Q X := by
  simp only [W_fin, L_store]
  simp
  refine ⟨mul_ok (.inr (by decide)), ?_⟩
  have e : ns.length = (ns.map Val.int).length := by simp
  conv => rw [e]
  refine for_rol (P := _) (xs := ns.map Val.int) (fun i ρ h => h = [Ob.rol (ns.map Val.int)] ∧ ∃ (s : Int) (x : Option Val), ρ = [some (.ref 0), some (.int salt), some (.int s), x]) ⟨rfl, _, _, rfl⟩ (fun i ρ h _ hI => by rw [hI.1]; rfl) ?_ ?_
  · rintro i x ρ h hx ⟨rfl, s, y, rfl⟩
    obtain ⟨j, rfl⟩ : ∃ j, x = .int j := by
      rw [List.getElem?_map] at hx
      cases q : ns[i]? with
      | none => rw [q] at hx; cases hx
      | some j => rw [q] at hx; exact ⟨j, (Option.some.inj hx).symm⟩
    simp
    exact mul_ok (.inr (by decide))
  · rintro ρ h ⟨rfl, s, y, rfl⟩
    simp
    refine ⟨Nat.le_trans hl (by decide), by decide, q _ rfl ⟨ns, 0, 0, 0, s, rfl, rfl, by decide, by decide⟩ rfl⟩
end Mp
set_option Elab.async false
set_option linter.all false
set_option maxRecDepth 100000
set_option maxHeartbeats 1000000
namespace Mp
open PySem L2
/-! ### _law_alike of like data -/
def L_alike (c : CallT) : MS := (sSeq (sIf (tOr (tE (eCmp .Is (eVar 0) (eC (.non)))) (tE (eCmp .Is (eVar 1) (eC (.non))))) (sRet (eAnd (eCmp .Is (eVar 0) (eC (.non))) (eCmp .Is (eVar 1) (eC (.non))))) sSkip) (sSeq (sIf (tOr (tE (eIsi ["bool"] (eVar 0))) (tE (eIsi ["bool"] (eVar 1)))) (sRet (eAnd (eIsi ["bool"] (eVar 0)) (eAnd (eIsi ["bool"] (eVar 1)) (eCmp .Eq (eVar 0) (eVar 1))))) sSkip) (sSeq (sIf (tE (eIsi ["int"] (eVar 0))) (sRet (eAnd (eIsi ["int"] (eVar 1)) (eCmp .Eq (eVar 0) (eVar 1)))) sSkip) (sSeq (sIf (tE (eIsi ["str"] (eVar 0))) (sRet (eAnd (eIsi ["str"] (eVar 1)) (eCmp .Eq (eVar 0) (eVar 1)))) sSkip) (sSeq (sIf (tE (eIsi ["list"] (eVar 0))) (sIf (tNot (tE (eIsi ["list"] (eVar 1)))) (sRet (eC (.bl false))) sSkip) (sIf (tOr (tNot (tE (eIsi ["tuple"] (eVar 0)))) (tNot (tE (eIsi ["tuple"] (eVar 1))))) (sRet (eC (.bl false))) sSkip)) (sSeq (sIf (tE (eCmp .NotEq (eBi .len (aCons (eVar 0) aNil)) (eBi .len (aCons (eVar 1) aNil)))) (sRet (eC (.bl false))) sSkip) (sSeq (sFor (.nm 2) (iRng1 (eBi .len (aCons (eVar 0) aNil))) (sIf (tNot (tE (eCall (c "_law_alike") (aCons (eIdx (eVar 0) (eVar 2)) (aCons (eIdx (eVar 1) (eVar 2)) aNil))))) (sRet (eC (.bl false))) sSkip) sSkip) (sRet (eC (.bl true))))))))))
/-- the same data, to the depth n -/
inductive Alk (h : Mem) : Nat → Val → Val → Prop
  | non {n : Nat} : Alk h n .non .non
  | bl {n : Nat} (b : Bool) : Alk h n (.bl b) (.bl b)
  | int {n : Nat} (i : Int) : Alk h n (.int i) (.int i)
  | str {n : Nat} (x : Str) (hx : SeqAt.shaped (.str x) = true) : Alk h n (.str x) (.str x)
  | tup {n : Nat} (xs ys : List Val) (hl : xs.length = ys.length) (hs : xs.length < 2 ^ 62) (ha : ∀ (i : Nat) (x y : Val), xs[i]? = some x → ys[i]? = some y → Alk h n x y) : Alk h (n + 1) (.tup xs) (.tup ys)
  | lst {n : Nat} (a b : Nat) (xs ys : List Val) (e1 : h[a]? = some (.lst xs)) (e2 : h[b]? = some (.lst ys)) (hl : xs.length = ys.length) (hs : xs.length < 2 ^ 62) (ha : ∀ (i : Nat) (x y : Val), xs[i]? = some x → ys[i]? = some y → Alk h n x y) : Alk h (n + 1) (.ref a) (.ref b)
def SpAlk (n : Nat) (m : List Val → Mem → Res Val) : Prop := ∀ (v w : Val) (h : Mem), Alk h n v w → m [v, w] h = .ok (.bl true) h
theorem sp_alike {c : CallT} {n : Nat} (ih : ∀ k, k < n → SpAlk k (c "_law_alike")) : SpAlk n fun args h => fin (L_alike c (args.map some ++ [none]) h) := by
  intro v w h A
  refine W_eq ?_
  simp only [W_fin, L_alike]
  cases A with
  | non => simp
  | bl b => simp [subTy]
  | int i => simp [subTy]
  | str x hx => simp [subTy, cmp_eq_str hx hx]
  | @tup k xs ys hl hs ha =>
    simp [subTy, hl]
    refine ⟨by unfold small62; simp; omega, ?_⟩
    refine for_rng (fun i ρ h' => h' = h ∧ ∃ z, ρ = [some (.tup xs), some (.tup ys), z]) ⟨rfl, _, rfl⟩ ?_ ?_
    · rintro i ρ h' hi ⟨rfl, z, rfl⟩
      have hi' : i < xs.length := by omega
      have hi2 : i < ys.length := by omega
      have := ih k (by omega) xs[i] ys[i] h' (ha i _ _ (by simp [hi']) (by simp [hi2]))
      simp [Mp.atI_nat, hi', hi2, this]
    · rintro ρ h' ⟨rfl, z, rfl⟩
      simp
  | @lst k a b xs ys e1 e2 hl hs ha =>
    simp [subTy, hl, e1, e2]
    refine ⟨by unfold small62; simp; omega, ?_⟩
    refine for_rng (fun i ρ h' => h' = h ∧ ∃ z, ρ = [some (.ref a), some (.ref b), z]) ⟨rfl, _, rfl⟩ ?_ ?_
    · rintro i ρ h' hi ⟨rfl, z, rfl⟩
      have hi' : i < xs.length := by omega
      have hi2 : i < ys.length := by omega
      have := ih k (by omega) xs[i] ys[i] h' (ha i _ _ (by simp [hi']) (by simp [hi2]))
      simp [Mp.atI_nat, hi', hi2, this, e1, e2]
    · rintro ρ h' ⟨rfl, z, rfl⟩
      simp
end Mp
set_option Elab.async false
set_option linter.all false
set_option maxRecDepth 100000
set_option maxHeartbeats 1000000
namespace Mp
open PySem L2
/-! ### roles of objects -/
section
variable {τ : Type}
/-- later: roles stay, objects out of R stay -/
structure Stp (R : τ → Prop) (o o' : Nat → τ) (h h' : Mem) : Prop where
  len : h.length ≤ h'.length
  own : ∀ x, x < h.length → o' x = o x
  keep : ∀ x, x < h.length → ¬ R (o x) → h'[x]? = h[x]?
theorem Stp.refl (R : τ → Prop) (o : Nat → τ) (h : Mem) : Stp R o o h h := ⟨Nat.le_refl _, fun _ _ => rfl, fun _ _ _ => rfl⟩
theorem Stp.get {R : τ → Prop} {o o' : Nat → τ} {h h' : Mem} (s : Stp R o o' h h') {x : Nat} {b : Ob} (e : h[x]? = some b) {r : τ} (hr : o x = r) (hn : ¬ R r) : h'[x]? = some b := by
  rw [s.keep x (lt_of_get e) (by rw [hr]; exact hn), e]
theorem Stp.role {R : τ → Prop} {o o' : Nat → τ} {h h' : Mem} (s : Stp R o o' h h') {x : Nat} {b : Ob} (e : h[x]? = some b) {r : τ} (hr : o x = r) : o' x = r := (s.own x (lt_of_get e)).trans hr
theorem Stp.trans {R R1 R2 : τ → Prop} {o o1 o2 : Nat → τ} {h h1 h2 : Mem} (a : Stp R1 o o1 h h1) (b : Stp R2 o1 o2 h1 h2) (i1 : ∀ r, R1 r → R r) (i2 : ∀ r, R2 r → R r) : Stp R o o2 h h2 :=
  ⟨Nat.le_trans a.len b.len, fun x hx => (b.own x (Nat.lt_of_lt_of_le hx a.len)).trans (a.own x hx), fun x hx hr => (b.keep x (Nat.lt_of_lt_of_le hx a.len) (fun z => hr (i2 _ (by rw [← a.own x hx]; exact z)))).trans (a.keep x hx fun z => hr (i1 _ z))⟩
theorem Stp.then {R : τ → Prop} {o o1 o2 : Nat → τ} {h h1 h2 : Mem} (a : Stp R o o1 h h1) (b : Stp R o1 o2 h1 h2) : Stp R o o2 h h2 := a.trans b (fun _ z => z) (fun _ z => z)
theorem Stp.mono {R R' : τ → Prop} {o o' : Nat → τ} {h h' : Mem} (a : Stp R o o' h h') (i : ∀ r, R r → R' r) : Stp R' o o' h h' := ⟨a.len, a.own, fun x hx hr => a.keep x hx fun z => hr (i _ z)⟩
theorem Stp.set {o : Nat → τ} {h : Mem} {a : Nat} {r : τ} (b : Ob) (hr : o a = r) : Stp (· = r) o o h (h.set a b) := ⟨by simp, fun _ _ => rfl, fun x hx hn => List.getElem?_set_ne fun e => hn (by rw [← e]; exact hr)⟩
/-- a new object -/
def upO (o : Nat → τ) (a : Nat) (r : τ) : Nat → τ := fun x => if x = a then r else o x
theorem upO_at (o : Nat → τ) (a : Nat) (r : τ) : upO o a r a = r := if_pos rfl
theorem upO_ne (o : Nat → τ) {a x : Nat} (r : τ) (h : x ≠ a) : upO o a r x = o x := if_neg h
theorem Stp.new (R : τ → Prop) (o : Nat → τ) (h : Mem) (b : Ob) (r : τ) : Stp R o (upO o h.length r) h (h ++ [b]) := ⟨by simp, fun x hx => if_neg (by omega), fun x hx _ => List.getElem?_append_left hx⟩
theorem Stp.app (R : τ → Prop) (o : Nat → τ) (h m : Mem) : Stp R o o h (h ++ m) := ⟨by simp, fun _ _ => rfl, fun x hx _ => List.getElem?_append_left hx⟩
theorem Stp.later {R : τ → Prop} {o o' : Nat → τ} {h h' : Mem} (s : Stp R o o' h h') {a : Nat} (ha : h.length ≤ a) (b : Ob) : Stp R o o' h (h'.set a b) := ⟨by rw [List.length_set]; exact s.len, s.own, fun y hy hr => by rw [List.getElem?_set_ne (by omega)]; exact s.keep y hy hr⟩
theorem Stp.draw {o : Nat → τ} {h h' : Mem} {r : τ} (d : Dr h h') (h2 : o 2 = r) : Stp (· = r) o o h h' := ⟨by rw [d.len]; exact Nat.le_refl _, fun _ _ => rfl, fun x hx hn => d.fr.keep x hx fun z => hn (by
  have : x = 2 := by simpa using z
  rw [this]
  exact h2)⟩
theorem Stp.lt {R : τ → Prop} {o o' : Nat → τ} {h h' : Mem} (s : Stp R o o' h h') {x : Nat} (hx : x < h.length) : x < h'.length := Nat.lt_of_lt_of_le hx s.len
end
theorem St.lt {h : Mem} (s : St h) : 3 ≤ h.length := by
  obtain ⟨ns, p, c, t, s, e, _⟩ := s.ex
  exact lt_of_get e
theorem St.stp {τ : Type} {R : τ → Prop} {o o' : Nat → τ} {h h' : Mem} {r2 r1 : τ} (s : St h) (k : Stp R o o' h h') (h2 : o 2 = r2) (h1 : o 1 = r1) (n2 : ¬ R r2) (n1 : ¬ R r1) : St h' := by
  obtain ⟨ns, p, c, t, s, e2, e1, hp, hc⟩ := s.ex
  exact ⟨ns, p, c, t, s, k.get e2 h2 n2, k.get e1 h1 n1, hp, hc⟩
theorem St.app {h : Mem} (s : St h) (m : Mem) : St (h ++ m) := by
  obtain ⟨ns, p, c, t, s, e2, e1, hp, hc⟩ := s.ex
  exact ⟨ns, p, c, t, s, get_app _ e2, get_app _ e1, hp, hc⟩
theorem St.set {h : Mem} (s : St h) {a : Nat} (h2 : a ≠ 2) (h1 : a ≠ 1) (b : Ob) : St (h.set a b) := by
  obtain ⟨ns, p, c, t, s, e2, e1, hp, hc⟩ := s.ex
  exact ⟨ns, p, c, t, s, get_set_ne e2 h2, get_set_ne e1 h1, hp, hc⟩
/-! ### k in a list of ints -/
theorem rds_ints (h : Mem) : ∀ (ns : List Int) (m : Nat), ns.length < m → rds h m (ns.map .int) = some (ns.map .int)
  | [], m + 1, _ => by simp [rds]
  | n :: ns, m + 1, hl => by
    have hm : ns.length < m := by simpa using hl
    obtain ⟨k, rfl⟩ : ∃ k, m = k + 1 := ⟨m - 1, by omega⟩
    simp only [List.map_cons, rds, rds_ints h ns (k + 1) hm, rd]
theorem shaped_ints (ns : List Int) : SeqAt.shaped (.list (ns.map .int)) = true := by
  have h1 : ∀ ns : List Int, PyData.canLayAll0 (ns.map .int) = true := fun ns => by
    induction ns with
    | nil => simp [PyData.canLayAll0]
    | cons n ns ih => simp [PyData.canLayAll0, PyData.canLay0, ih]
  have h2 : ∀ ns : List Int, PyData.depthAll (ns.map .int) = 0 := fun ns => by
    induction ns with
    | nil => simp [PyData.depthAll]
    | cons n ns ih => simp [PyData.depthAll, PyData.depth, ih]
  unfold SeqAt.shaped
  simp [PyData.canLay0, PyData.depth, h1, h2]
theorem rdS_ints {h : Mem} {a : Nat} {ns : List Int} (e : h[a]? = some (.lst (ns.map .int))) (hl : ns.length < 10000) : rdS h (.ref a) = some (.list (ns.map .int)) := by
  have : rd h 20000 (.ref a) = some (.list (ns.map .int)) := by
    show (match h[a]? with | some (.lst xs) => (rds h 19999 xs).map PyData.list | some (.rol xs) => (rds h 19999 xs).map PyData.list | _ => none) = _
    rw [e]
    show (rds h 19999 (ns.map .int)).map PyData.list = _
    rw [rds_ints h ns 19999 (by omega)]
    rfl
  unfold rdS
  rw [this]
  show (if SeqAt.shaped (.list (ns.map .int)) = true then _ else _) = _
  rw [if_pos (shaped_ints ns)]
theorem any_ints (i : Int) : ∀ ns : List Int, ((ns.map PyData.int).any fun z => PyData.eqv z (.int i)) = decide (i ∈ ns)
  | [] => by simp
  | n :: ns => by
    rw [List.map_cons, List.any_cons, any_ints i ns]
    have : PyData.eqv (.int n) (.int i) = decide (n = i) := rfl
    rw [this]
    by_cases h : n = i
    · simp [h]
    · simp [h, Ne.symm h]
theorem in_ints {h : Mem} {a : Nat} {ns : List Int} (i : Int) (e : h[a]? = some (.lst (ns.map .int))) (hl : ns.length < 10000) : cmpop .In h (.int i) (.ref a) = some (decide (i ∈ ns)) := by
  show inOp h (.int i) (.ref a) = _
  simp only [inOp, e, rdS_ints e hl, rdS_int, any_ints]
theorem notin_ints {h : Mem} {a : Nat} {ns : List Int} (i : Int) (e : h[a]? = some (.lst (ns.map .int))) (hl : ns.length < 10000) : cmpop .NotIn h (.int i) (.ref a) = some (!decide (i ∈ ns)) := by
  show (inOp h (.int i) (.ref a)).map _ = _
  rw [show inOp h (.int i) (.ref a) = some (decide (i ∈ ns)) from in_ints i e hl]
  rfl
theorem intsOf_map : ∀ ns : List Int, intsOf (ns.map .int) = some ns
  | [] => rfl
  | n :: ns => by simp [intsOf, intsOf_map ns]
@[simp] theorem cmp_eq_in {h : Mem} (i : Int) : cmpop .Eq h (.int i) .non = some false := rfl
/-! ### the draws, at any depth -/
structure Draws (call : Nat → CallT) : Prop where
  mixed : ∀ d, 1 ≤ d → SpMixed (call d "_law_mixed")
  take : ∀ d, 2 ≤ d → SpTake (call d "_law_take")
/-- made of a list -/
theorem list_get {α : Type} {xs : List α} {i : Nat} {x : α} (h : xs[i]? = some x) : i < xs.length := (List.getElem?_eq_some_iff.mp h).1
theorem map_inv {α β : Type} {f : α → β} {xs : List α} {i : Nat} {y : β} (h : (xs.map f)[i]? = some y) : ∃ x, xs[i]? = some x ∧ y = f x := by
  rw [List.getElem?_map] at h
  cases e : xs[i]? with
  | none => rw [e] at h; cases h
  | some x => rw [e] at h; cases h; exact ⟨x, rfl, rfl⟩
end Mp
set_option Elab.async false
set_option linter.all false
set_option maxRecDepth 100000
set_option maxHeartbeats 1000000
namespace Mp
open PySem L2 PySem.W
/-! ### exceptions, read as promises -/
def xisB (Γ : Pg) (c : Str) (xs : List Str) : Option Bool := (Γ.xcl.lookup c).map fun D => xs.any fun x => D.sup.contains x
def xflB (Γ : Pg) (c : Str) (f : Str) : Option Bool := (Γ.xcl.lookup c).map fun D => D.flds.contains f
/-- behind a suite -/
def aftP (xs : List Nat) (P : Po) : Po := ⟨fun ρ h => P.nx (wipeE ρ xs) h, P.rt, fun ρ h => P.bk (wipeE ρ xs) h, fun ρ h => P.ct (wipeE ρ xs) h, fun _ => nX⟩
section
variable {Q : Val → Mem → Prop} {X : XQ} {P : Po} {ρ : Env} {h : Mem}
@[simp] theorem w_sRaise (m : List Val → Mem → Res Val) (c : Str) (flds : List Str) (as : MA) : Fw (sRaise m c flds as ρ h) P ↔ (as ρ h).W (fun vs h => vs.all fmtOk = true ∧ (m vs h).W (fun y h' => ∃ ys, y = .tup ys ∧ P.xc ρ c (flds.zip ys) h') nX) (P.xc ρ) := by
  simp only [sRaise, Fw_onE]
  refine iff_of_eq (congrArg (fun z => (as ρ h).W z (P.xc ρ)) (funext fun vs => funext fun h => propext ?_))
  rw [Fw_ite_bad]
  refine and_congr_right fun _ => ?_
  cases m vs h with
  | bad => simp
  | exc c fs h' => simp [nX]
  | ok v h' => cases v <;> simp
@[simp] theorem w_afterX (xs : List Nat) (r : Res Fl) : Fw (afterX xs r) P ↔ Fw r (aftP xs P) := by
  cases r with
  | ok f h => cases f <;> simp [afterX, aftP, nX]
  | _ => rfl
def tryX (sub : Str → Option Bool) (xs : List Nat) (i : Nat) (su : MS) (P : Po) (ρ : Env) (c : Str) (fs : List (Str × Val)) (h : Mem) : Prop := optP (sub c) fun b => (b = true → Fw (su ((wipeE ρ xs).set i (some (.exn c fs))) h) (aftP xs P)) ∧ (b = false → P.xc ρ c fs h)
@[simp] theorem w_sTry (sub : Str → Option Bool) (xs : List Nat) (i : Nat) (b su : MS) : Fw (sTry sub xs i b su ρ h) P ↔ Fw (b ρ h) ⟨P.nx, P.rt, P.bk, P.ct, tryX sub xs i su P⟩ := by
  unfold sTry
  cases e : b ρ h with
  | bad => rfl
  | exc c fs h' => rfl
  | ok f h' =>
    cases f with
    | xc ρ' c fs =>
      simp only [Fw_xc, tryX]
      cases sub c with
      | none => simp
      | some b => cases b <;> simp
    | _ => rfl
@[simp] theorem w_eXis (Γ : Pg) (i : Nat) (xs : List Str) : (eXis Γ i xs ρ h).W Q X ↔ optP (xAt ρ i) fun p => optP (xisB Γ p.1 xs) fun b => Q (.bl b) h := by
  unfold eXis xisB
  cases xAt ρ i with
  | none => simp
  | some p =>
    obtain ⟨c, fs⟩ := p
    simp only [optP_some]
    cases Γ.xcl.lookup c <;> simp
@[simp] theorem w_eXf (Γ : Pg) (i : Nat) (f : Str) : (eXf Γ i f ρ h).W Q X ↔ optP (xAt ρ i) fun p => optP (xflB Γ p.1 f) fun b => b = true ∧ optP (p.2.lookup f) fun v => Q v h := by
  unfold eXf xflB
  cases xAt ρ i with
  | none => simp
  | some p =>
    obtain ⟨c, fs⟩ := p
    simp only [optP_some]
    cases Γ.xcl.lookup c with
    | none => simp
    | some D =>
      simp only [Option.map_some, optP_some, W_ite_bad]
      refine and_congr_right fun _ => ?_
      cases fs.lookup f <;> simp
@[simp] theorem w_eCallX (m : List Val → Mem → Res Val) (i : Nat) : (eCallX m i ρ h).W Q X ↔ optP (xAt ρ i) fun p => (m [.exn p.1 p.2] h).W Q X := by
  unfold eCallX
  cases xAt ρ i <;> simp
@[simp] theorem xAt_eq (i : Nat) : xAt ρ i = match ρ[i]? with
  | some (some (.exn c fs)) => some (c, fs)
  | _ => none := rfl
@[simp] theorem fmt_str (x : Str) : fmtOk (.str x) = decide (x.length ≤ 100000) := rfl
@[simp] theorem fmt_int (i : Int) : fmtOk (.int i) = decide (i.natAbs.log2 < 1920) := rfl
end
end Mp
set_option Elab.async false
set_option linter.all false
set_option maxRecDepth 100000
set_option maxHeartbeats 1000000
namespace Mp
open PySem L2
/-! ### helpers that many laws share -/
def L_word (c : CallT) : MS := (sSeq (sSet 1 (eCall (c "_law_take") (aCons (eVar 0) (aCons (eC (.int (3))) aNil)))) (sSeq (sIf (tE (eCmp .Eq (eVar 1) (eC (.int (0))))) (sRet (eCall (c "_law_pick") (aCons (eVar 0) (aCons (eLst (aCons (eC (.int (0))) (aCons (eC (.int (65535))) (aCons (eC (.int (1))) (aCons (eC (.int (65534))) (aCons (eC (.int (32768))) (aCons (eC (.int (32767))) (aCons (eC (.int (1023))) (aCons (eC (.int (1024))) (aCons (eC (.int (4095))) (aCons (eC (.int (4096))) (aCons (eC (.int (255))) (aCons (eC (.int (128))) (aCons (eC (.int (127))) (aCons (eC (.int (8))) aNil))))))))))))))) aNil)))) sSkip) (sSeq (sIf (tE (eCmp .Eq (eVar 1) (eC (.int (1))))) (sRet (eCall (c "_law_take") (aCons (eVar 0) (aCons (eC (.int (10))) aNil)))) sSkip) (sRet (eCall (c "_law_take") (aCons (eVar 0) (aCons (eC (.int (65536))) aNil)))))))
def L_words (c : CallT) : MS := (sSeq (sSet 2 (eCall (c "_law_take") (aCons (eVar 0) (aCons (eC (.int (6))) aNil)))) (sSeq (sIf (tE (eCmp .Eq (eVar 2) (eC (.int (0))))) (sRet (eBin .Mult (eLst (aCons (eC (.int (0))) aNil)) (eVar 1))) sSkip) (sSeq (sIf (tE (eCmp .Eq (eVar 2) (eC (.int (1))))) (sRet (eBin .Mult (eLst (aCons (eCall (c "_law_word") (aCons (eVar 0) aNil)) aNil)) (eVar 1))) sSkip) (sRet (eLc [3] (.nm 3) (iRng1 (eVar 1)) tYesM (eCall (c "_law_word") (aCons (eVar 0) aNil)))))))
def L_wrong_integer (c : CallT) : MS := (sSeq (sSet 3 (eLst (aCons (eBin .Sub (eVar 1) (eC (.int (1)))) (aCons (eBin .Add (eVar 2) (eC (.int (1)))) (aCons (eNeg (eC (.int (999999999999)))) (aCons (eC (.int (999999999999))) aNil)))))) (sSeq (sSet 4 (eLst (aCons (eC (.bl true)) (aCons (eC (.bl false)) (aCons (eC (.non)) (aCons (eBi .str (aCons (eVar 1) aNil)) (aCons (eC (.str "")) (aCons (eC (.str "a")) (aCons (eLst aNil) (aCons (eLst (aCons (eVar 1) aNil)) (aCons (eTup (aCons (eVar 2) aNil)) (aCons (eTup aNil) aNil)))))))))))) (sSeq (sIf (tE (eCmp .Eq (eCall (c "_law_take") (aCons (eVar 0) (aCons (eC (.int (2))) aNil))) (eC (.int (0))))) (sRet (eCall (c "_law_pick") (aCons (eVar 0) (aCons (eVar 3) aNil)))) sSkip) (sRet (eCall (c "_law_pick") (aCons (eVar 0) (aCons (eVar 4) aNil)))))))
def L_copy (c : CallT) : MS := (sSeq (sIf (tE (eIsi ["list"] (eVar 0))) (sRet (eLcN 0 [1] (.nm 1) tYesM (eCall (c "_law_copy") (aCons (eVar 1) aNil)))) sSkip) (sSeq (sIf (tE (eIsi ["tuple"] (eVar 0))) (sRet (eBi .tuple (aCons (eLcN 0 [1] (.nm 1) tYesM (eCall (c "_law_copy") (aCons (eVar 1) aNil))) aNil))) sSkip) (sRet (eVar 0))))
def L_copy_of (c : CallT) : MS := (sSeq (sIf (tE (eIsi ["list"] (eVar 0))) (sRet (eLcN 0 [1] (.nm 1) tYesM (eCall (c "copy_of") (aCons (eVar 1) aNil)))) sSkip) (sSeq (sIf (tE (eIsi ["tuple"] (eVar 0))) (sRet (eBi .tuple (aCons (eLcN 0 [1] (.nm 1) tYesM (eCall (c "copy_of") (aCons (eVar 1) aNil))) aNil))) sSkip) (sRet (eVar 0))))
def L_whole (c : CallT) : MS := (sRet (eAnd (eIsi ["int"] (eVar 0)) (eAnd (eNot (eIsi ["bool"] (eVar 0))) (eChain .LtE .LtE (eVar 1) (eVar 0) (eVar 2)))))
abbrev Gr (h h' : Mem) : Prop := Fr [] h h'
theorem Gr.get {h h' : Mem} (g : Gr h h') {n : Nat} {b : Ob} (e : h[n]? = some b) : h'[n]? = some b := Fr.get g e (by simp)
theorem Gr.new (h : Mem) (m : Mem) : Gr h (h ++ m) := Fr.app _ _ _
theorem Alk.gr {h h' : Mem} (g : Gr h h') {n : Nat} {v w : Val} (A : Alk h n v w) : Alk h' n v w := by
  induction A with
  | non => exact .non
  | bl b => exact .bl b
  | int i => exact .int i
  | str x hx => exact .str x hx
  | tup xs ys hl hs ha ih => exact .tup xs ys hl hs ih
  | lst a b xs ys e1 e2 hl hs ha ih => exact .lst a b xs ys (Gr.get g e1) (Gr.get g e2) hl hs ih
/-- data, to the depth n -/
inductive Sh (h : Mem) : Nat → Val → Prop
  | non {n : Nat} : Sh h n .non
  | bl {n : Nat} (b : Bool) : Sh h n (.bl b)
  | int {n : Nat} (i : Int) : Sh h n (.int i)
  | str {n : Nat} (x : Str) (hx : SeqAt.shaped (.str x) = true) : Sh h n (.str x)
  | tup {n : Nat} (xs : List Val) (hs : xs.length < 4000) (ha : ∀ (i : Nat) (x : Val), xs[i]? = some x → Sh h n x) : Sh h (n + 1) (.tup xs)
  | lst {n : Nat} (a : Nat) (xs : List Val) (e1 : h[a]? = some (.lst xs)) (hs : xs.length < 4000) (ha : ∀ (i : Nat) (x : Val), xs[i]? = some x → Sh h n x) : Sh h (n + 1) (.ref a)
theorem Sh.gr {h h' : Mem} (g : Gr h h') {n : Nat} {v : Val} (A : Sh h n v) : Sh h' n v := by
  induction A with
  | non => exact .non
  | bl b => exact .bl b
  | int i => exact .int i
  | str x hx => exact .str x hx
  | tup xs hs ha ih => exact .tup xs hs ih
  | lst a xs e1 hs ha ih => exact .lst a xs (Gr.get g e1) hs ih
theorem Sh.up {h : Mem} {n : Nat} {v : Val} (A : Sh h n v) : ∀ m, n ≤ m → Sh h m v := by
  induction A with
  | non => exact fun _ _ => .non
  | bl b => exact fun _ _ => .bl b
  | int i => exact fun _ _ => .int i
  | str x hx => exact fun _ _ => .str x hx
  | tup xs hs ha ih =>
    intro m hm
    obtain ⟨k, rfl⟩ : ∃ k, m = k + 1 := ⟨m - 1, by omega⟩
    exact .tup xs hs fun i x e1 => ih i x e1 k (by omega)
  | lst a xs e1 hs ha ih =>
    intro m hm
    obtain ⟨k, rfl⟩ : ∃ k, m = k + 1 := ⟨m - 1, by omega⟩
    exact .lst a xs e1 hs fun i x e1 => ih i x e1 k (by omega)
/-- like itself -/
theorem Sh.alk {h : Mem} {n : Nat} {v : Val} (A : Sh h n v) : Alk h n v v := by
  induction A with
  | non => exact .non
  | bl b => exact .bl b
  | int i => exact .int i
  | str x hx => exact .str x hx
  | tup xs hs ha ih => exact .tup xs xs rfl (by omega) fun i x y e1 e2 => by rw [e1] at e2; cases e2; exact ih i x e1
  | lst a xs e1 hs ha ih => exact .lst a a xs xs e1 e1 rfl (by omega) fun i x y e1 e2 => by rw [e1] at e2; cases e2; exact ih i x e1
theorem Sh.ints {h : Mem} {a : Nat} {ns : List Int} (e : h[a]? = some (.lst (ns.map .int))) (hl : ns.length < 4000) : Sh h 1 (.ref a) := .lst a _ e (by simpa using hl) fun i x hx => by
  obtain ⟨k, _, rfl⟩ := map_inv hx
  exact .int k
theorem Alk.ints {h : Mem} {a b : Nat} {ns : List Int} (e : h[a]? = some (.lst (ns.map .int))) (e2 : h[b]? = some (.lst (ns.map .int))) (hl : ns.length < 2 ^ 62) : Alk h 1 (.ref a) (.ref b) := .lst a b _ _ e e2 rfl (by simpa using hl) fun i x y hx hy => by
  rw [hx] at hy; cases hy
  obtain ⟨k, _, rfl⟩ := map_inv hx
  exact .int k
theorem Alk.up {h : Mem} {n : Nat} {v w : Val} (A : Alk h n v w) : ∀ m, n ≤ m → Alk h m v w := by
  induction A with
  | non => exact fun _ _ => .non
  | bl b => exact fun _ _ => .bl b
  | int i => exact fun _ _ => .int i
  | str x hx => exact fun _ _ => .str x hx
  | tup xs ys hl hs ha ih =>
    intro m hm
    obtain ⟨k, rfl⟩ : ∃ k, m = k + 1 := ⟨m - 1, by omega⟩
    exact .tup xs ys hl hs fun i x y e1 e2 => ih i x y e1 e2 k (by omega)
  | lst a b xs ys e1 e2 hl hs ha ih =>
    intro m hm
    obtain ⟨k, rfl⟩ : ∃ k, m = k + 1 := ⟨m - 1, by omega⟩
    exact .lst a b xs ys e1 e2 hl hs fun i x y e1 e2 => ih i x y e1 e2 k (by omega)
/-- _law_copy -/
def SpCopy (n : Nat) (m : List Val → Mem → Res Val) : Prop := ∀ (v : Val) (h : Mem), Sh h n v → ∀ {Q : Val → Mem → Prop} {X : XQ}, (∀ w h', Gr h h' → Alk h' n v w → Q w h') → (m [v] h).W Q X
theorem sp_copy_ {c : CallT} {m : List Val → Mem → Res Val} {n : Nat} {L : MS} (hL : L = (sSeq (sIf (tE (eIsi ["list"] (eVar 0))) (sRet (eLcN 0 [1] (.nm 1) tYesM (eCall m (aCons (eVar 1) aNil)))) sSkip) (sSeq (sIf (tE (eIsi ["tuple"] (eVar 0))) (sRet (eBi .tuple (aCons (eLcN 0 [1] (.nm 1) tYesM (eCall m (aCons (eVar 1) aNil))) aNil))) sSkip) (sRet (eVar 0)))))
    (ih : ∀ k, k < n → SpCopy k m) : SpCopy n fun args h => fin (L (args.map some ++ [none]) h) := by
  subst hL
  intro v h A Q X q
  have ls := sizeLine_eq
  simp only [W_fin]
  cases A with
  | non => simp [subTy]; exact q _ _ (Fr.refl _ _) .non
  | bl b => simp [subTy]; exact q _ _ (Fr.refl _ _) (.bl b)
  | int i => simp [subTy]; exact q _ _ (Fr.refl _ _) (.int i)
  | str x hx => simp [subTy]; exact q _ _ (Fr.refl _ _) (.str x hx)
  | @tup k xs hs ha =>
    simp [subTy]
    refine lc_tup (fun i acc h' => Gr h h' ∧ acc.length = i ∧ ∀ (j : Nat) (x y : Val), j < i → xs[j]? = some x → acc[j]? = some y → Alk h' k x y) ⟨Fr.refl _ _, rfl, nofun⟩ ?_ ?_
    · rintro i x acc h' hx ⟨g, hl, hA⟩
      have hi := list_get hx
      simp [wipeE]
      refine ih k (by omega) x h' ((ha i x hx).gr g) fun w h2 g2 A2 => ⟨by omega, Fr.trans g g2, by omega, fun j x' y' hj e1 e2 => ?_⟩
      by_cases hji : j = i
      · subst hji
        rw [hx] at e1
        have : y' = w := by simpa [hl] using e2.symm
        rw [this, ← Option.some.inj e1]
        exact A2
      · rw [List.getElem?_append_left (by omega)] at e2
        exact Alk.gr g2 (hA j x' y' (by omega) e1 e2)
    · rintro acc h' ⟨g, hl, hA⟩
      have n1 := get_new h' (Ob.lst acc)
      refine ⟨by omega, ?_⟩
      exact (q _ _ (Fr.trans g (Gr.new _ _)) (.tup xs acc hl.symm (by omega) fun i x y e1 e2 => Alk.gr (Gr.new _ _) (hA i x y (list_get e1) e1 e2)))
  | @lst k a xs e1 hs ha =>
    simp [subTy, e1]
    refine lc_lst (fun i acc h' => Gr h h' ∧ acc.length = i ∧ ∀ (j : Nat) (x y : Val), j < i → xs[j]? = some x → acc[j]? = some y → Alk h' k x y) ⟨Fr.refl _ _, rfl, nofun⟩ (fun i acc h' _ I => Gr.get I.1 e1) ?_ ?_
    · rintro i x acc h' hx ⟨g, hl, hA⟩
      have hi := list_get hx
      simp [wipeE]
      refine ih k (by omega) x h' ((ha i x hx).gr g) fun w h2 g2 A2 => ⟨by omega, Fr.trans g g2, by omega, fun j x' y' hj e1 e2 => ?_⟩
      by_cases hji : j = i
      · subst hji
        rw [hx] at e1
        have : y' = w := by simpa [hl] using e2.symm
        rw [this, ← Option.some.inj e1]
        exact A2
      · rw [List.getElem?_append_left (by omega)] at e2
        exact Alk.gr g2 (hA j x' y' (by omega) e1 e2)
    · rintro acc h' ⟨g, hl, hA⟩
      have n1 := get_new h' (Ob.lst acc)
      refine ⟨by omega, q _ _ (Fr.trans g (Gr.new _ _)) (.lst a h'.length xs acc (Gr.get (Fr.trans g (Gr.new _ _)) e1) n1 hl.symm (by omega) fun i x y e1 e2 => Alk.gr (Gr.new _ _) (hA i x y (list_get e1) e1 e2))⟩
theorem sp_copy {c : CallT} {n : Nat} (ih : ∀ k, k < n → SpCopy k (c "_law_copy")) : SpCopy n fun args h => fin (L_copy c (args.map some ++ [none]) h) := sp_copy_ (c := c) rfl ih
theorem sp_copyOf {c : CallT} {n : Nat} (ih : ∀ k, k < n → SpCopy k (c "copy_of")) : SpCopy n fun args h => fin (L_copy_of c (args.map some ++ [none]) h) := sp_copy_ (c := c) rfl ih
/-! draws that leave rows behind -/
structure Dw (h h' : Mem) : Prop where
  st : St h'
  fr : Fr [2] h h'
theorem Dr.dw {h h' : Mem} (d : Dr h h') : Dw h h' := ⟨d.st, d.fr⟩
theorem Dw.trans {h h' h'' : Mem} (a : Dw h h') (b : Dw h' h'') : Dw h h'' := ⟨b.st, a.fr.trans b.fr⟩
theorem Dw.get {h h' : Mem} (d : Dw h h') {n : Nat} {o : Ob} (e : h[n]? = some o) (hn : n ≠ 2) : h'[n]? = some o := d.fr.get e (by simp [hn])
theorem Dw.app {h : Mem} (s : St h) (m : Mem) : Dw h (h ++ m) := ⟨s.app m, Fr.app _ _ _⟩
theorem Dw.gr {h h' : Mem} (s : St h) (g : Gr h h') : Dw h h' := by
  obtain ⟨ns, p, c, t, q, e2, e1, hp, hc⟩ := s.ex
  exact ⟨⟨ns, p, c, t, q, Gr.get g e2, Gr.get g e1, hp, hc⟩, Fr.mono g fun _ _ z => by simp at z⟩
theorem Dw.len {h h' : Mem} (d : Dw h h') : h.length ≤ h'.length := d.fr.len
def SpWord (m : List Val → Mem → Res Val) : Prop := ∀ (h : Mem), St h → ∀ {Q : Val → Mem → Prop} {X : XQ}, (∀ r h', 0 ≤ r → r ≤ 65535 → Dw h h' → Q (.int r) h') → (m [.ref 2] h).W Q X
theorem sp_word {c : CallT} (ht : SpTake (c "_law_take")) (hp : SpPick (c "_law_pick")) : SpWord fun args h => fin (L_word c (args.map some ++ [none]) h) := by
  intro h st Q X q
  have ls := sizeLine_eq
  simp only [W_fin, L_word]
  simp
  refine take_then ht st (by decide) fun r h1 r1 r2 d1 => ?_
  simp
  refine ⟨fun _ => ⟨by omega, ?_⟩, fun _ => ⟨fun _ => take_then ht d1.st (by decide) fun r2 h2 a1 a2 d2 => ?_, fun _ => take_then ht d1.st (by decide) fun r2 h2 a1 a2 d2 => ?_⟩⟩
  · have st2 := d1.st.app [Ob.lst [.int 0, .int 65535, .int 1, .int 65534, .int 32768, .int 32767, .int 1023, .int 1024, .int 4095, .int 4096, .int 255, .int 128, .int 127, .int 8]]
    have l1 := d1.st.lt
    refine (hp h1.length _ _ st2 (get_new _ _) (by omega) (by decide) (by decide)).mono fun v h' ⟨d2, i, hi, ei⟩ => ?_
    have : ∃ r : Int, v = .int r ∧ 0 ≤ r ∧ r ≤ 65535 := by
      have hi : i < 14 := hi
      have : ([0, 65535, 1, 65534, 32768, 32767, 1023, 1024, 4095, 4096, 255, 128, 127, 8] : List Int).map Val.int = [.int 0, .int 65535, .int 1, .int 65534, .int 32768, .int 32767, .int 1023, .int 1024, .int 4095, .int 4096, .int 255, .int 128, .int 127, .int 8] := rfl
      rw [← this] at ei
      obtain ⟨r, hr, rfl⟩ := map_inv ei
      refine ⟨r, rfl, ?_⟩
      have hm := List.mem_of_getElem? hr
      have all : ∀ r ∈ ([0, 65535, 1, 65534, 32768, 32767, 1023, 1024, 4095, 4096, 255, 128, 127, 8] : List Int), 0 ≤ r ∧ r ≤ 65535 := by decide
      exact all r hm
    obtain ⟨r, rfl, h1', h2'⟩ := this
    exact q r _ h1' h2' (d1.dw.trans ((Dw.app d1.st _).trans d2.dw))
  · exact q _ _ a1 (by omega) (d1.dw.trans d2.dw)
  · exact q _ _ a1 (by omega) (d1.dw.trans d2.dw)
/-- n words in a new list -/
def SpWords (m : List Val → Mem → Res Val) : Prop := ∀ (n : Nat) (h : Mem), St h → n ≤ 4000 → ∀ {Q : Val → Mem → Prop} {X : XQ}, (∀ a (ws : List Int) h', ws.length = n → (∀ w ∈ ws, 0 ≤ w ∧ w ≤ 65535) → Dw h h' → h.length ≤ a → h'[a]? = some (.lst (ws.map .int)) → Q (.ref a) h') → (m [.ref 2, .int (n : Int)] h).W Q X
theorem flat_one (w : Int) : ∀ n : Nat, (List.replicate n [Val.int w]).flatten = (List.replicate n w).map Val.int
  | 0 => rfl
  | n + 1 => by rw [List.replicate_succ, List.replicate_succ, List.flatten_cons, flat_one w n]; rfl
theorem sp_words {c : CallT} (ht : SpTake (c "_law_take")) (hw : SpWord (c "_law_word")) : SpWords fun args h => fin (L_words c (args.map some ++ [none, none]) h) := by
  intro n h st hn Q X q
  have ls := sizeLine_eq
  simp only [W_fin, L_words]
  simp
  refine take_then ht st (by decide) fun r h1 r1 r2 d1 => ?_
  simp
  refine ⟨fun _ => ⟨by omega, ⟨by omega, by omega⟩, by omega, ?_⟩, fun _ => ⟨fun _ => ?_, fun _ => ?_⟩⟩
  · have l1 := d1.st.lt
    refine q (h1.length + 1) (List.replicate n 0) _ (by simp) (fun w hw => by rw [(List.mem_replicate.mp hw).2]; omega) (d1.dw.trans (Dw.app d1.st _)) (by have := d1.len; omega) ?_
    simp
  · refine hw h1 d1.st fun w h2 w1 w2 d2 => ?_
    refine ⟨by omega, ⟨by omega, by omega⟩, by omega, ?_⟩
    refine q (h2.length + 1) (List.replicate n w) _ (by simp) (fun x hx => by rw [(List.mem_replicate.mp hx).2]; omega) (d1.dw.trans (d2.trans (Dw.app d2.st _))) (by have := d1.len; have := d2.len; omega) ?_
    simp
  · refine ⟨by unfold small62; simp; omega, ?_⟩
    refine lc_rng (fun i acc h' => Dw h h' ∧ ∃ ws : List Int, acc = ws.map Val.int ∧ ws.length = i ∧ ∀ w ∈ ws, 0 ≤ w ∧ w ≤ 65535) ⟨d1.dw, [], rfl, rfl, nofun⟩ ?_ ?_
    · rintro i acc h' hi ⟨d, ws, rfl, hl, hb⟩
      simp [wipeE]
      refine hw h' d.st fun w h2 w1 w2 d2 => ⟨by omega, d.trans d2, ws ++ [w], by simp, by simp [hl], fun x hx => ?_⟩
      rcases List.mem_append.mp hx with hx | hx
      · exact hb x hx
      · have : x = w := by simpa using hx
        omega
    · rintro acc h' ⟨d, ws, rfl, hl, hb⟩
      refine ⟨by simp; omega, q h'.length ws _ hl hb (d.trans (Dw.app d.st _)) d.len (get_new _ _)⟩
theorem gapp (h m : Mem) (k : Nat) : (h ++ m)[h.length + k]? = m[k]? := by
  rw [List.getElem?_append_right (by omega)]
  congr 1
  omega
/-! _law_wrong_integer -/
inductive WrI (lo hi : Int) (b : Nat) (h : Mem) : Val → Prop
  | int (i : Int) (hx : i < lo ∨ hi < i) : WrI lo hi b h (.int i)
  | bl (x : Bool) : WrI lo hi b h (.bl x)
  | non : WrI lo hi b h .non
  | str (x : Str) (hx : SeqAt.shaped (.str x) = true) : WrI lo hi b h (.str x)
  | lst (a : Nat) (xs : List Val) (ha : b ≤ a) (e : h[a]? = some (.lst xs)) (hs : xs = [] ∨ xs = [.int lo]) : WrI lo hi b h (.ref a)
  | tup (xs : List Val) (hs : xs = [] ∨ xs = [.int hi]) : WrI lo hi b h (.tup xs)
theorem WrI.sh {lo hi : Int} {b : Nat} {h : Mem} {v : Val} (w : WrI lo hi b h v) : Sh h 1 v := by
  cases w with
  | int i hi => exact .int i
  | bl x => exact .bl x
  | non => exact .non
  | str x hx => exact .str x hx
  | lst a xs ha e hs =>
    refine .lst a xs e (by rcases hs with rfl | rfl <;> simp) fun i x hx => ?_
    rcases hs with rfl | rfl
    · simp at hx
    · cases i with
      | zero => simp at hx; subst hx; exact .int _
      | succ i => simp at hx
  | tup xs hs =>
    refine .tup xs (by rcases hs with rfl | rfl <;> simp) fun i x hx => ?_
    rcases hs with rfl | rfl
    · simp at hx
    · cases i with
      | zero => simp at hx; subst hx; exact .int _
      | succ i => simp at hx
theorem WrI.later {lo hi : Int} {b : Nat} {h h' : Mem} {v : Val} (w : WrI lo hi b h v) (k : ∀ a o, b ≤ a → h[a]? = some o → h'[a]? = some o) : WrI lo hi b h' v := by
  cases w with
  | int i hi => exact .int i hi
  | bl x => exact .bl x
  | non => exact .non
  | str x hx => exact .str x hx
  | lst a xs ha e hs => exact .lst a xs ha (k a _ ha e) hs
  | tup xs hs => exact .tup xs hs
def SpWrongI (m : List Val → Mem → Res Val) : Prop := ∀ (lo hi : Int) (h : Mem), St h → -999999999999 < lo → hi < 999999999999 → lo < 999999999999 → -999999999999 < hi → lo.natAbs.log2 < 1920 → SeqAt.shaped (.str (toString lo : String)) = true → ∀ {Q : Val → Mem → Prop} {X : XQ}, (∀ v h', Dw h h' → WrI lo hi h.length h' v → Q v h') → (m [.ref 2, .int lo, .int hi] h).W Q X
theorem sp_wrong_integer {c : CallT} (ht : SpTake (c "_law_take")) (hp : SpPick (c "_law_pick")) : SpWrongI fun args h => fin (L_wrong_integer c (args.map some ++ [none, none]) h) := by
  intro lo hi h st b1 b2 b3 b4 hl hs Q X q
  have ls := sizeLine_eq
  have l1 := st.lt
  simp only [W_fin, L_wrong_integer]
  have bs : biRun .str [.int lo] = fun h => if lo.natAbs.log2 < 1920 then .ok (.str (toString lo : String)) h else .bad := rfl
  simp [bs, hl, ls]
  generalize eh : h ++ [Ob.lst [.int (lo - 1), .int (hi + 1), .int (-999999999999), .int 999999999999], Ob.lst [], Ob.lst [.int lo], Ob.lst [.bl true, .bl false, .non, .str (toString lo : String), .str "", .str "a", .ref (h.length + 1), .ref (h.length + 1 + 1), .tup [.int hi], .tup []]] = h0
  have d0 : Dw h h0 := by rw [← eh]; exact Dw.app st _
  have g0 : h0[h.length]? = some (.lst [.int (lo - 1), .int (hi + 1), .int (-999999999999), .int 999999999999]) := by rw [← eh]; simp
  have g1 : h0[h.length + 1]? = some (.lst []) := by rw [← eh]; simp
  have g2 : h0[h.length + 1 + 1]? = some (.lst [.int lo]) := by rw [← eh]; exact gapp h _ 2
  have g3 : h0[h.length + 1 + 1 + 1]? = some (.lst [.bl true, .bl false, .non, .str (toString lo : String), .str "", .str "a", .ref (h.length + 1), .ref (h.length + 1 + 1), .tup [.int hi], .tup []]) := by rw [← eh]; exact gapp h _ 3
  refine take_then ht d0.st (by decide) fun r h1 r1 r2 d1 => ?_
  have n2 : h.length ≠ 2 := by omega
  simp
  refine ⟨fun _ => (hp h.length _ h1 d1.st (d1.get g0 n2) n2 (by simp) (by simp)).mono fun v h' ⟨d2, i, hi', ei⟩ => ?_, fun _ => (hp (h.length + 1 + 1 + 1) _ h1 d1.st (d1.get g3 (by omega)) (by omega) (by simp) (by simp)).mono fun v h' ⟨d2, i, hi', ei⟩ => ?_⟩
  · refine q v h' (d0.trans (d1.dw.trans d2.dw)) ?_
    have hi' : i < 4 := hi'
    rcases i with _ | _ | _ | _ | i
    · simp at ei; subst ei; exact .int _ (by omega)
    · simp at ei; subst ei; exact .int _ (by omega)
    · simp at ei; subst ei; exact .int _ (by omega)
    · simp at ei; subst ei; exact .int _ (by omega)
    · omega
  · have k1 : h'[h.length + 1]? = some (.lst []) := d2.get (d1.get g1 (by omega)) (by omega)
    have k2 : h'[h.length + 1 + 1]? = some (.lst [.int lo]) := d2.get (d1.get g2 (by omega)) (by omega)
    refine q v h' (d0.trans (d1.dw.trans d2.dw)) ?_
    have hi' : i < 10 := hi'
    rcases i with _ | _ | _ | _ | _ | _ | _ | _ | _ | _ | i
    · simp at ei; subst ei; exact .bl _
    · simp at ei; subst ei; exact .bl _
    · simp at ei; subst ei; exact .non
    · simp at ei; subst ei; exact .str _ hs
    · simp at ei; subst ei; exact .str _ (by decide +kernel)
    · simp at ei; subst ei; exact .str _ (by decide +kernel)
    · simp at ei; subst ei; exact .lst _ _ (by omega) k1 (.inl rfl)
    · simp at ei; subst ei; exact .lst _ _ (by omega) k2 (.inr rfl)
    · simp at ei; subst ei; exact .tup _ (.inr rfl)
    · simp at ei; subst ei; exact .tup _ (.inl rfl)
    · omega
/-! whole(value, low, high) -/
theorem sp_whole_no {c : CallT} {lo hi : Int} {b : Nat} {h : Mem} {v : Val} (w : WrI lo hi b h v) : fin (L_whole c [some v, some (.int lo), some (.int hi)] h) = .ok (.bl false) h := by
  refine W_eq ?_
  simp only [W_fin, L_whole]
  cases w with
  | int i hi => simp [subTy]; omega
  | bl x => simp [subTy]
  | non => simp [subTy]
  | str x hx => simp [subTy]
  | lst a xs ha e hs => simp [subTy, e]
  | tup xs hs => simp [subTy]
theorem sp_whole_yes {c : CallT} {lo hi i : Int} {h : Mem} (h1 : lo ≤ i) (h2 : i ≤ hi) : fin (L_whole c [some (.int i), some (.int lo), some (.int hi)] h) = .ok (.bl true) h := by
  refine W_eq ?_
  simp only [W_fin, L_whole]
  simp [subTy]
  omega
theorem W_eqx {α : Type} {r : Res α} {c : Str} {fs : List (Str × Val)} {h : Mem} (w : r.W (fun _ _ => False) (fun c' fs' h' => c' = c ∧ fs' = fs ∧ h' = h)) : r = .exc c fs h := by
  cases r with
  | ok a h' => exact w.elim
  | exc c' fs' h' => obtain ⟨rfl, rfl, rfl⟩ := w; rfl
  | bad => exact w.elim
@[simp ↓] theorem gap0 (h m : Mem) : (h ++ m)[h.length]? = m[0]? := gapp h m 0
@[simp ↓] theorem gap1 (h m : Mem) : (h ++ m)[h.length + 1]? = m[1]? := gapp h m 1
@[simp ↓] theorem gap2 (h m : Mem) : (h ++ m)[h.length + 1 + 1]? = m[2]? := gapp h m 2
@[simp ↓] theorem gap3 (h m : Mem) : (h ++ m)[h.length + 1 + 1 + 1]? = m[3]? := gapp h m 3
@[simp ↓] theorem gap4 (h m : Mem) : (h ++ m)[h.length + 1 + 1 + 1 + 1]? = m[4]? := gapp h m 4
@[simp ↓] theorem gap5 (h m : Mem) : (h ++ m)[h.length + 1 + 1 + 1 + 1 + 1]? = m[5]? := gapp h m 5
@[simp ↓] theorem gap6 (h m : Mem) : (h ++ m)[h.length + 1 + 1 + 1 + 1 + 1 + 1]? = m[6]? := gapp h m 6
@[simp ↓] theorem gap7 (h m : Mem) : (h ++ m)[h.length + 1 + 1 + 1 + 1 + 1 + 1 + 1]? = m[7]? := gapp h m 7
@[simp ↓] theorem gap8 (h m : Mem) : (h ++ m)[h.length + 1 + 1 + 1 + 1 + 1 + 1 + 1 + 1]? = m[8]? := gapp h m 8
theorem lm_pop0 {h : Mem} {n : Nat} {xs : List Val} (e : h[n]? = some (.lst xs)) (hx : 0 < xs.length) : lmRun .pop n [] h = .ok (xs[xs.length - 1]'(by omega)) (h.set n (.lst xs.dropLast)) := by
  have : xs[xs.length - 1]? = some (xs[xs.length - 1]'(by omega)) := by simp [hx]
  simp only [lmRun, e, this]
@[irreducible] def FwI (r : Res Fl) (P : Po) : Prop := Fw r P
theorem FwI_iff (r : Res Fl) (P : Po) : FwI r P ↔ Fw r P := by unfold FwI; exact Iff.rfl
theorem seqI {a b : MS} {ρ : Mp.Env} {h : Mem} {P : Po} : Fw (sSeq a b ρ h) P ↔ Fw (a ρ h) ⟨fun ρ h => FwI (b ρ h) P, P.rt, P.bk, P.ct, P.xc⟩ := by
  rw [w_sSeq]
  simp only [FwI_iff]
/-- one of two -/
theorem at2 {α : Type} (f : Nat → α) {k : Nat} (hk : k < 2) : L2.atI [f 0, f 1] (k : Int) = some (f k) := by
  rw [Mp.atI_nat]
  rcases k with _ | _ | k
  · rfl
  · rfl
  · omega
end Mp
set_option Elab.async false
set_option linter.all false
set_option maxRecDepth 100000
set_option maxHeartbeats 1000000
namespace Mp
open PySem L2
theorem Alk.symm {h : Mem} {n : Nat} {v w : Val} (A : Alk h n v w) : Alk h n w v := by
  induction A with
  | non => exact .non
  | bl b => exact .bl b
  | int i => exact .int i
  | str x hx => exact .str x hx
  | tup xs ys hl hs ha ih => exact .tup _ _ hl.symm (by omega) fun i x y e1 e2 => ih i y x e2 e1
  | lst a b xs ys e1 e2 hl hs ha ih => exact .lst _ _ _ _ e2 e1 hl.symm (by omega) fun i x y e1 e2 => ih i y x e2 e1
theorem Alk.pair {h : Mem} {n : Nat} {x y x' y' : Val} (a : Alk h n x x') (b : Alk h n y y') : Alk h (n + 1) (.tup [x, y]) (.tup [x', y']) := by
  refine .tup _ _ rfl (by simp) fun i u v e1 e2 => ?_
  rcases i with _ | _ | i
  · simp at e1 e2; subst e1; subst e2; exact a
  · simp at e1 e2; subst e1; subst e2; exact b
  · simp at e1
/-! ### roles of objects -/
inductive Ro where
  | st | sc | oth | ls | fr (F : Nat) | ct (F : Nat) | sl (F : Nat) | cell (F i : Nat) | row (r : Nat) | spc (r : Nat) | plc (r : Nat) | wd (r : Nat) | u (n i j : Nat)
abbrev Ow := Nat → Ro
/-! ### frames -/
structure Pool where
  ca : Nat
  sa : Nat
  cs : List Int
  as : List Nat
  ws : List (List Int)
structure PoolAt (o : Ow) (h : Mem) (F : Nat) (p : Pool) : Prop where
  ob : h[F]? = some (.ins "Frames" [("own_counts", .ref p.ca), ("own_stored", .ref p.sa)])
  ct : h[p.ca]? = some (.lst (p.cs.map .int))
  sl : h[p.sa]? = some (.lst (p.as.map .ref))
  la : p.as.length = p.cs.length
  lw : p.ws.length = p.cs.length
  dat : ∀ (i a : Nat) (w : List Int), p.as[i]? = some a → p.ws[i]? = some w → h[a]? = some (.lst (w.map .int)) ∧ w.length = 8 ∧ o a = .cell F i
  r1 : o F = .fr F
  r2 : o p.ca = .ct F
  r3 : o p.sa = .sl F
  lim : p.cs.length ≤ 96
section
variable {o : Ow} {h h' : Mem} {F : Nat} {p : Pool}
theorem PoolAt.nF (P : PoolAt o h F p) : F ≠ p.ca := fun e => by have := P.r1; rw [e, P.r2] at this; cases this
theorem PoolAt.nG (P : PoolAt o h F p) : F ≠ p.sa := fun e => by have := P.r1; rw [e, P.r3] at this; cases this
theorem PoolAt.nS (P : PoolAt o h F p) : p.ca ≠ p.sa := fun e => by have := P.r2; rw [e, P.r3] at this; cases this
theorem PoolAt.at_ (P : PoolAt o h F p) {f : Nat} (hf : f < p.cs.length) : ∃ a w, p.as[f]? = some a ∧ p.ws[f]? = some w ∧ h[a]? = some (.lst (w.map .int)) ∧ w.length = 8 ∧ o a = .cell F f := by
  have h1 : f < p.as.length := by rw [P.la]; exact hf
  have h2 : f < p.ws.length := by rw [P.lw]; exact hf
  exact ⟨_, _, List.getElem?_eq_getElem h1, List.getElem?_eq_getElem h2, P.dat f _ _ (List.getElem?_eq_getElem h1) (List.getElem?_eq_getElem h2)⟩
/-- nothing of the pool has changed -/
theorem PoolAt.stp {R : Ro → Prop} {o' : Ow} (P : PoolAt o h F p) (s : Stp R o o' h h') (n1 : ¬ R (.fr F)) (n2 : ¬ R (.ct F)) (n3 : ¬ R (.sl F)) (n4 : ∀ i, ¬ R (.cell F i)) : PoolAt o' h' F p where
  ob := s.get P.ob P.r1 n1
  ct := s.get P.ct P.r2 n2
  sl := s.get P.sl P.r3 n3
  la := P.la
  lw := P.lw
  dat := fun i a w h1 h2 => by
    obtain ⟨d1, d2, d3⟩ := P.dat i a w h1 h2
    exact ⟨s.get d1 d3 (n4 i), d2, s.role d1 d3⟩
  r1 := s.role P.ob P.r1
  r2 := s.role P.ct P.r2
  r3 := s.role P.sl P.r3
  lim := P.lim
/-- the counts -/
theorem PoolAt.cts (P : PoolAt o h F p) {cs : List Int} (hl : cs.length = p.cs.length) : PoolAt o (h.set p.ca (.lst (cs.map .int))) F { p with cs := cs } where
  ob := get_set_ne P.ob P.nF.symm
  ct := get_set P.ct
  sl := get_set_ne P.sl P.nS
  la := P.la.trans hl.symm
  lw := P.lw.trans hl.symm
  dat := fun i a w h1 h2 => by
    obtain ⟨d1, d2, d3⟩ := P.dat i a w h1 h2
    exact ⟨get_set_ne d1 (fun e => by rw [← e, P.r2] at d3; cases d3), d2, d3⟩
  r1 := P.r1
  r2 := P.r2
  r3 := P.r3
  lim := by show cs.length ≤ 96; rw [hl]; exact P.lim
/-- one cell's words -/
theorem PoolAt.cel (P : PoolAt o h F p) {f a : Nat} {w : List Int} (ha : p.as[f]? = some a) (hw : w.length = 8) : PoolAt o (h.set a (.lst (w.map .int))) F { p with ws := p.ws.set f w } := by
  have hf : f < p.cs.length := by rw [← P.la]; exact (List.getElem?_eq_some_iff.mp ha).1
  obtain ⟨a', w', e1, e2, e3, e4, e5⟩ := P.at_ hf
  rw [ha] at e1
  cases e1
  exact
  { ob := get_set_ne P.ob fun e => by rw [e, P.r1] at e5; cases e5
    ct := get_set_ne P.ct fun e => by rw [e, P.r2] at e5; cases e5
    sl := get_set_ne P.sl fun e => by rw [e, P.r3] at e5; cases e5
    la := P.la
    lw := by show (p.ws.set f w).length = _; rw [List.length_set]; exact P.lw
    dat := fun i b u h1 h2 => by
      by_cases hi : i = f
      · subst hi
        rw [ha] at h1
        cases h1
        have h2 : (p.ws.set i w)[i]? = some u := h2
        rw [List.getElem?_set_self (by rw [P.lw]; exact hf)] at h2
        cases h2
        exact ⟨get_set e3, hw, e5⟩
      · have h2 : (p.ws.set f w)[i]? = some u := h2
        rw [List.getElem?_set_ne (Ne.symm hi)] at h2
        obtain ⟨d1, d2, d3⟩ := P.dat i b u h1 h2
        exact ⟨get_set_ne d1 fun e => by
          rw [← e, e5] at d3
          injection d3 with _ z
          exact hi z.symm, d2, d3⟩
    r1 := P.r1
    r2 := P.r2
    r3 := P.r3
    lim := P.lim }
/-- a new object for one cell -/
theorem PoolAt.newc (P : PoolAt o h F p) {f a : Nat} {w : List Int} (hf : f < p.cs.length) (ha : h[a]? = some (.lst (w.map .int))) (hw : w.length = 8) (hr : o a = .cell F f) : PoolAt o (h.set p.sa (.lst ((p.as.set f a).map .ref))) F { p with as := p.as.set f a, ws := p.ws.set f w } where
  ob := get_set_ne P.ob P.nG.symm
  ct := get_set_ne P.ct P.nS.symm
  sl := get_set P.sl
  la := by show (p.as.set f a).length = _; rw [List.length_set]; exact P.la
  lw := by show (p.ws.set f w).length = _; rw [List.length_set]; exact P.lw
  dat := fun i b u h1 h2 => by
    have key : ∀ {x : Nat} {ob : Ob} {j : Nat}, h[x]? = some ob → o x = .cell F j → (h.set p.sa (.lst ((p.as.set f a).map .ref)))[x]? = some ob := fun {x ob j} e1 e2 => get_set_ne e1 fun e => by rw [← e, P.r3] at e2; cases e2
    have h1 : (p.as.set f a)[i]? = some b := h1
    have h2 : (p.ws.set f w)[i]? = some u := h2
    by_cases hi : i = f
    · subst hi
      rw [List.getElem?_set_self (by rw [P.la]; exact hf)] at h1
      rw [List.getElem?_set_self (by rw [P.lw]; exact hf)] at h2
      cases h1
      cases h2
      exact ⟨key ha hr, hw, hr⟩
    · rw [List.getElem?_set_ne (Ne.symm hi)] at h1 h2
      obtain ⟨d1, d2, d3⟩ := P.dat i b u h1 h2
      exact ⟨key d1 d3, d2, d3⟩
  r1 := P.r1
  r2 := P.r2
  r3 := P.r3
  lim := P.lim
end
/-- the first zero -/
theorem first_zero : ∀ (cs : List Int), (∃ f : Nat, cs[f]? = some 0) → ∃ f : Nat, cs[f]? = some 0 ∧ ∀ i : Nat, i < f → cs[i]? ≠ some 0 := by
  intro cs ⟨f, hf⟩
  induction cs generalizing f with
  | nil => simp at hf
  | cons c cs ih =>
    by_cases hc : c = 0
    · exact ⟨0, by simp [hc], fun i hi => by omega⟩
    · cases f with
      | zero => simp at hf; exact absurd hf hc
      | succ f =>
        obtain ⟨g, g1, g2⟩ := ih f (by simpa using hf)
        refine ⟨g + 1, by simpa using g1, fun i hi => ?_⟩
        cases i with
        | zero => simp [hc]
        | succ i => simpa using g2 i (by omega)
/-- what take() leaves -/
theorem took {o : Ow} {h : Mem} {F : Nat} {p : Pool} (P : PoolAt o h F p) {f : Nat} (hf : f < p.cs.length) {w : List Int} (hw : w.length = 8) (m : Mem) {h' : Mem}
    (eh : h' = ((h.set p.ca (Ob.lst ((p.cs.set f 1).map .int))) ++ (m ++ [Ob.lst (w.map .int)])).set p.sa (Ob.lst ((p.as.set f (h.length + m.length)).map .ref))) :
    ∃ o' p', Stp (fun r => r = .ct F ∨ r = .sl F) o o' h h' ∧ PoolAt o' h' F p' ∧ p'.cs = p.cs.set f 1 ∧ p'.ws = p.ws.set f w := by
  have P1 := P.cts (cs := p.cs.set f 1) (by simp)
  have s1 : Stp (fun r => r = .ct F ∨ r = .sl F) o o h (h.set p.ca (Ob.lst ((p.cs.set f 1).map .int))) := (Stp.set _ P.r2).mono fun r z => .inl z
  have hl : (h.set p.ca (Ob.lst ((p.cs.set f 1).map .int))).length = h.length := by simp
  have s2 : Stp (fun _ => False) o (fun x => if x = h.length + m.length then .cell F f else o x) (h.set p.ca (Ob.lst ((p.cs.set f 1).map .int))) (h.set p.ca (Ob.lst ((p.cs.set f 1).map .int)) ++ (m ++ [Ob.lst (w.map .int)])) :=
    ⟨by simp, fun x hx => if_neg (by omega), fun x hx _ => List.getElem?_append_left hx⟩
  have P2 := P1.stp s2 (fun z => z) (fun z => z) (fun z => z) (fun _ z => z)
  have ga : (h.set p.ca (Ob.lst ((p.cs.set f 1).map .int)) ++ (m ++ [Ob.lst (w.map .int)]))[h.length + m.length]? = some (Ob.lst (w.map .int)) := by
    rw [← List.append_assoc, List.getElem?_append_right (by simp)]
    simp
  have P3 := P2.newc (f := f) (a := h.length + m.length) (w := w) (by simp; exact hf) ga hw (if_pos rfl)
  refine ⟨_, _, ?_, by rw [eh]; exact P3, rfl, rfl⟩
  rw [eh]
  exact (s1.trans s2 (fun _ z => z) (fun _ z => z.elim)).trans (Stp.set _ P2.r3) (fun _ z => z) (fun _ z => .inr z)
theorem Stp.gr {τ : Type} (R : τ → Prop) (o : Nat → τ) {h h' : Mem} (g : Gr h h') : Stp R o o h h' := ⟨g.len, fun _ _ => rfl, fun x hx _ => g.keep x hx (by simp)⟩
theorem Stp.dw {τ : Type} {o : Nat → τ} {h h' : Mem} {r : τ} (d : Dw h h') (h2 : o 2 = r) : Stp (· = r) o o h h' := ⟨d.len, fun _ _ => rfl, fun x hx hn => d.fr.keep x hx fun z => hn (by
  have : x = 2 := by simpa using z
  rw [this]
  exact h2)⟩
end Mp
set_option Elab.async false
set_option linter.all false
set_option maxRecDepth 100000
set_option maxHeartbeats 1000000
namespace Mp
open PySem L2
@[simp] theorem w_iRng2 {O : Wk → Mem → Prop} {X : XQ} {ρ : Env} {h : Mem} (a b : ME) : (iRng2 a b ρ h).W O X ↔ (a ρ h).W (fun v h => (b ρ h).W (fun u h => ∃ i j, v = .int i ∧ u = .int j ∧ small62 i = true ∧ small62 j = true ∧ O (wkR i (j - i).toNat) h) X) X := by
  simp only [iRng2, W_bind]
  refine iff_of_eq (congrArg (fun z => (a ρ h).W z X) (funext fun v => funext fun h => congrArg (fun z => (b ρ h).W z X) (funext fun u => funext fun h => propext ?_)))
  cases v <;> cases u <;> simp [and_assoc]
/-! ### plain data and where it lies -/
inductive Dt where
  | non | bl (b : Bool) | int (i : Int) | str (x : Str) | tup (ts : List Dt) | lst (ts : List Dt)
inductive Rd (p : Nat → Prop) (h : Mem) : Nat → Val → Dt → Prop
  | non {n : Nat} : Rd p h n .non .non
  | bl {n : Nat} (b : Bool) : Rd p h n (.bl b) (.bl b)
  | int {n : Nat} (i : Int) : Rd p h n (.int i) (.int i)
  | str {n : Nat} (x : Str) (hx : SeqAt.shaped (.str x) = true) : Rd p h n (.str x) (.str x)
  | tup {n : Nat} (xs : List Val) (ts : List Dt) (hl : xs.length = ts.length) (hs : xs.length < 4000) (ha : ∀ (i : Nat) (x : Val) (t : Dt), xs[i]? = some x → ts[i]? = some t → Rd p h n x t) : Rd p h (n + 1) (.tup xs) (.tup ts)
  | lst {n : Nat} (a : Nat) (xs : List Val) (ts : List Dt) (pa : p a) (e : h[a]? = some (.lst xs)) (hl : xs.length = ts.length) (hs : xs.length < 4000) (ha : ∀ (i : Nat) (x : Val) (t : Dt), xs[i]? = some x → ts[i]? = some t → Rd p h n x t) : Rd p h (n + 1) (.ref a) (.lst ts)
section
variable {p p' : Nat → Prop} {h h' : Mem} {n : Nat} {v w : Val} {t : Dt}
theorem Rd.keep (r : Rd p h n v t) (k : ∀ a o, p a → h[a]? = some o → p' a ∧ h'[a]? = some o) : Rd p' h' n v t := by
  induction r with
  | non => exact .non
  | bl b => exact .bl b
  | int i => exact .int i
  | str x hx => exact .str x hx
  | tup xs ts hl hs ha ih => exact .tup xs ts hl hs ih
  | lst a xs ts pa e hl hs ha ih => exact .lst a xs ts (k a _ pa e).1 (k a _ pa e).2 hl hs ih
theorem Rd.gr (r : Rd p h n v t) (g : Gr h h') : Rd p h' n v t := r.keep fun a o pa e => ⟨pa, Gr.get g e⟩
theorem Rd.mono (r : Rd p h n v t) (k : ∀ a, p a → p' a) : Rd p' h n v t := r.keep fun a o pa e => ⟨k a pa, e⟩
theorem Rd.stp {τ : Type} {R : τ → Prop} {o o' : Nat → τ} {x : τ} (r : Rd (fun a => o a = x) h n v t) (s : Stp R o o' h h') (nR : ¬ R x) : Rd (fun a => o' a = x) h' n v t := r.keep fun a ob pa e => ⟨s.role e pa, s.get e pa nR⟩
theorem Rd.dw {b : Nat} (r : Rd (fun a => b ≤ a) h n v t) (d : Dw h h') (hb : 3 ≤ b) : Rd (fun a => b ≤ a) h' n v t := r.keep fun a o pa e => ⟨pa, d.get e (by omega)⟩
theorem Rd.up (r : Rd p h n v t) : ∀ m, n ≤ m → Rd p h m v t := by
  induction r with
  | non => exact fun _ _ => .non
  | bl b => exact fun _ _ => .bl b
  | int i => exact fun _ _ => .int i
  | str x hx => exact fun _ _ => .str x hx
  | tup xs ts hl hs ha ih =>
    intro m hm
    obtain ⟨k, rfl⟩ : ∃ k, m = k + 1 := ⟨m - 1, by omega⟩
    exact .tup xs ts hl hs fun i x t e1 e2 => ih i x t e1 e2 k (by omega)
  | lst a xs ts pa e hl hs ha ih =>
    intro m hm
    obtain ⟨k, rfl⟩ : ∃ k, m = k + 1 := ⟨m - 1, by omega⟩
    exact .lst a xs ts pa e hl hs fun i x t e1 e2 => ih i x t e1 e2 k (by omega)
theorem Rd.alk (r : Rd p h n v t) : ∀ {w : Val} {m : Nat}, Rd p' h m w t → Alk h n v w := by
  induction r with
  | non => intro w m s; cases s; exact .non
  | bl b => intro w m s; cases s; exact .bl b
  | int i => intro w m s; cases s; exact .int i
  | str x hx => intro w m s; cases s; exact .str x hx
  | tup xs ts hl hs ha ih =>
    intro w m s
    cases s with
    | tup ys _ hl' hs' ha' =>
      refine .tup xs ys (hl.trans hl'.symm) (by omega) fun i x y e1 e2 => ?_
      have hi : i < ts.length := by have := list_get e1; omega
      exact ih i x ts[i] e1 (List.getElem?_eq_getElem hi) (ha' i y ts[i] e2 (List.getElem?_eq_getElem hi))
  | lst a xs ts pa e hl hs ha ih =>
    intro w m s
    cases s with
    | lst b ys _ pb e' hl' hs' ha' =>
      refine .lst a b xs ys e e' (hl.trans hl'.symm) (by omega) fun i x y e1 e2 => ?_
      have hi : i < ts.length := by have := list_get e1; omega
      exact ih i x ts[i] e1 (List.getElem?_eq_getElem hi) (ha' i y ts[i] e2 (List.getElem?_eq_getElem hi))
theorem Rd.ints {a : Nat} {ns : List Int} (pa : p a) (e : h[a]? = some (.lst (ns.map .int))) (hl : ns.length < 4000) : Rd p h 1 (.ref a) (.lst (ns.map .int)) := .lst a _ _ pa e (by simp) (by simpa using hl) fun i x t hx ht => by
  obtain ⟨k, hk, rfl⟩ := map_inv hx
  rw [List.getElem?_map, hk] at ht
  cases ht
  exact .int k
theorem Rd.intsT {ns : List Int} (hl : ns.length < 4000) : Rd p h 1 (.tup (ns.map .int)) (.tup (ns.map .int)) := .tup _ _ (by simp) (by simpa using hl) fun i x t hx ht => by
  obtain ⟨k, hk, rfl⟩ := map_inv hx
  rw [List.getElem?_map, hk] at ht
  cases ht
  exact .int k
theorem Rd.two {x y : Val} {s t : Dt} (a : Rd p h n x s) (b : Rd p h n y t) : Rd p h (n + 1) (.tup [x, y]) (.tup [s, t]) := .tup _ _ rfl (by simp) fun i u r e1 e2 => by
  rcases i with _ | _ | i
  · simp at e1 e2; subst e1; subst e2; exact a
  · simp at e1 e2; subst e1; subst e2; exact b
  · simp at e1
end
/-- copies -/
def SpCopyR (n : Nat) (m : List Val → Mem → Res Val) : Prop := ∀ (p : Nat → Prop) (v : Val) (t : Dt) (h : Mem), Rd p h n v t → ∀ {Q : Val → Mem → Prop} {X : XQ}, (∀ w h', Gr h h' → Rd (fun a => h.length ≤ a) h' n w t → Q w h') → (m [v] h).W Q X
theorem sp_copyR_ {c : CallT} {m : List Val → Mem → Res Val} {n : Nat} {L : MS} (hL : L = (sSeq (sIf (tE (eIsi ["list"] (eVar 0))) (sRet (eLcN 0 [1] (.nm 1) tYesM (eCall m (aCons (eVar 1) aNil)))) sSkip) (sSeq (sIf (tE (eIsi ["tuple"] (eVar 0))) (sRet (eBi .tuple (aCons (eLcN 0 [1] (.nm 1) tYesM (eCall m (aCons (eVar 1) aNil))) aNil))) sSkip) (sRet (eVar 0)))))
    (ih : ∀ k, k < n → SpCopyR k m) : SpCopyR n fun args h => fin (L (args.map some ++ [none]) h) := by
  subst hL
  intro p v t h A Q X q
  have ls := sizeLine_eq
  simp only [W_fin]
  cases A with
  | non => simp [subTy]; exact q _ _ (Fr.refl _ _) .non
  | bl b => simp [subTy]; exact q _ _ (Fr.refl _ _) (.bl b)
  | int i => simp [subTy]; exact q _ _ (Fr.refl _ _) (.int i)
  | str x hx => simp [subTy]; exact q _ _ (Fr.refl _ _) (.str x hx)
  | @tup k xs ts hlt hs ha =>
    simp [subTy]
    refine lc_tup (fun i acc h' => Gr h h' ∧ acc.length = i ∧ ∀ (j : Nat) (y : Val) (t : Dt), j < i → acc[j]? = some y → ts[j]? = some t → Rd (fun a => h.length ≤ a) h' k y t) ⟨Fr.refl _ _, rfl, nofun⟩ ?_ ?_
    · rintro i x acc h' hx ⟨g, hl, hA⟩
      have hi := list_get hx
      have hit : i < ts.length := by omega
      simp [wipeE]
      refine ih k (by omega) p x ts[i] h' ((ha i x ts[i] hx (List.getElem?_eq_getElem hit)).gr g) fun w h2 g2 A2 => ⟨by omega, Fr.trans g g2, by omega, fun j y' t' hj e1 e2 => ?_⟩
      by_cases hji : j = i
      · subst hji
        have : y' = w := by simpa [hl] using e1.symm
        rw [List.getElem?_eq_getElem hit] at e2
        rw [this, ← Option.some.inj e2]
        exact A2.mono fun a ha => Nat.le_trans (Fr.len g) ha
      · rw [List.getElem?_append_left (by omega)] at e1
        exact (hA j y' t' (by omega) e1 e2).gr g2
    · rintro acc h' ⟨g, hl, hA⟩
      refine ⟨by omega, ?_⟩
      exact (q _ _ (Fr.trans g (Gr.new _ _)) (.tup acc ts (hl.trans hlt) (by omega) fun i x t e1 e2 => (hA i x t (by have := list_get e1; omega) e1 e2).gr (Gr.new _ _)))
  | @lst k a xs ts pa e1 hlt hs ha =>
    simp [subTy, e1]
    refine lc_lst (fun i acc h' => Gr h h' ∧ acc.length = i ∧ ∀ (j : Nat) (y : Val) (t : Dt), j < i → acc[j]? = some y → ts[j]? = some t → Rd (fun a => h.length ≤ a) h' k y t) ⟨Fr.refl _ _, rfl, nofun⟩ (fun i acc h' _ I => Gr.get I.1 e1) ?_ ?_
    · rintro i x acc h' hx ⟨g, hl, hA⟩
      have hi := list_get hx
      have hit : i < ts.length := by omega
      simp [wipeE]
      refine ih k (by omega) p x ts[i] h' ((ha i x ts[i] hx (List.getElem?_eq_getElem hit)).gr g) fun w h2 g2 A2 => ⟨by omega, Fr.trans g g2, by omega, fun j y' t' hj e1 e2 => ?_⟩
      by_cases hji : j = i
      · subst hji
        have : y' = w := by simpa [hl] using e1.symm
        rw [List.getElem?_eq_getElem hit] at e2
        rw [this, ← Option.some.inj e2]
        exact A2.mono fun a ha => Nat.le_trans (Fr.len g) ha
      · rw [List.getElem?_append_left (by omega)] at e1
        exact (hA j y' t' (by omega) e1 e2).gr g2
    · rintro acc h' ⟨g, hl, hA⟩
      have n1 := get_new h' (Ob.lst acc)
      refine ⟨by omega, q _ _ (Fr.trans g (Gr.new _ _)) (.lst h'.length acc ts (Fr.len g) n1 (hl.trans hlt) (by omega) fun i x t e1 e2 => (hA i x t (by have := list_get e1; omega) e1 e2).gr (Gr.new _ _))⟩
theorem sp_copyR {c : CallT} {n : Nat} (ih : ∀ k, k < n → SpCopyR k (c "_law_copy")) : SpCopyR n fun args h => fin (L_copy c (args.map some ++ [none]) h) := sp_copyR_ (c := c) rfl ih
theorem sp_copyOfR {c : CallT} {n : Nat} (ih : ∀ k, k < n → SpCopyR k (c "copy_of")) : SpCopyR n fun args h => fin (L_copy_of c (args.map some ++ [none]) h) := sp_copyR_ (c := c) rfl ih
/-! whole(value, low, high) of any plain value -/
def wI (lo hi : Int) : Dt → Bool
  | .int i => decide (lo ≤ i ∧ i ≤ hi)
  | _ => false
theorem sp_whole {c : CallT} {p : Nat → Prop} {lo hi : Int} {n : Nat} {h : Mem} {v : Val} {t : Dt} (r : Rd p h n v t) : fin (L_whole c [some v, some (.int lo), some (.int hi)] h) = .ok (.bl (wI lo hi t)) h := by
  refine W_eq ?_
  simp only [W_fin, L_whole]
  cases r with
  | int i =>
    simp [subTy, wI]
    constructor
    · intro h1
      simp [h1]
    · intro h1
      simp [show ¬ lo ≤ i by omega]
  | lst a xs ts pa e hl hs ha => simp [subTy, e, wI]
  | _ => simp [subTy, wI]
/-- wrong integers, as plain data -/
theorem WrI.rd {lo hi : Int} {b : Nat} {h : Mem} {v : Val} (w : WrI lo hi b h v) : ∃ t, Rd (fun a => b ≤ a) h 1 v t ∧ wI lo hi t = false := by
  cases w with
  | int i hx => exact ⟨.int i, .int i, by simp [wI]; omega⟩
  | bl x => exact ⟨.bl x, .bl x, rfl⟩
  | non => exact ⟨.non, .non, rfl⟩
  | str x hx => exact ⟨.str x, .str x hx, rfl⟩
  | lst a xs ha e hs =>
    rcases hs with rfl | rfl
    · exact ⟨.lst [], .lst a _ _ ha e rfl (by simp) nofun, rfl⟩
    · exact ⟨.lst ([lo].map .int), Rd.ints (ns := [lo]) ha e (by simp), rfl⟩
  | tup xs hs =>
    rcases hs with rfl | rfl
    · exact ⟨.tup [], .tup _ _ rfl (by simp) nofun, rfl⟩
    · exact ⟨.tup ([hi].map .int), Rd.intsT (ns := [hi]) (by simp), rfl⟩
end Mp
set_option Elab.async false
set_option linter.all false
set_option maxRecDepth 100000
set_option maxHeartbeats 1000000
namespace Mp
open PySem L2
/-! ### own brackets -/
def idxIn (Γ : Pg) (call : CallT) (c : Str) (o y : Val) (h : Mem) : Res Val := match Γ.cls.lookup c with
  | some C => match C.meths.lookup ("__getitem__" : Str) with
    | some g => callBy Γ call g 2 [] [o, y] [] h
    | none => .bad
  | none => .bad
def sixIn (Γ : Pg) (call : CallT) (c : Str) (o i v : Val) (h : Mem) : Res Val := match Γ.cls.lookup c with
  | some C => match C.meths.lookup ("__setitem__" : Str) with
    | some g => idleV (callBy Γ call g 3 [] [o, i, v] [] h)
    | none => .bad
  | none => .bad
section
variable {Q : Val → Mem → Prop} {X : XQ} {P : Po} {ρ : Mp.Env} {h : Mem} (Γ : Pg) (c : CallT)
@[simp] theorem w_eIdxM (a b : ME) : (eIdxM Γ c a b ρ h).W Q X ↔ (a ρ h).W (fun x h => (b ρ h).W (fun y h => (idxM Γ c x y h).W Q X) X) X := by simp [eIdxM, e2]
@[simp] theorem idxM_tup (ts : List Val) (y : Val) : idxM Γ c (.tup ts) y h = Res.opt (idx h (.tup ts) y) h := rfl
@[simp] theorem idxM_strV (z : Str) (y : Val) : idxM Γ c (.str z) y h = Res.opt (idx h (.str z) y) h := rfl
@[simp] theorem idxM_ref (n : Nat) (y : Val) : idxM Γ c (.ref n) y h = match h[n]? with
  | some (.ins k _) => idxIn Γ c k (.ref n) y h
  | _ => Res.opt (idx h (.ref n) y) h := by
  simp only [idxM]
  rcases h[n]? with _ | o
  · rfl
  · cases o <;> rfl
@[simp] theorem w_sSetIdxM (o i e : ME) : Fw (sSetIdxM Γ c o i e ρ h) P ↔ (e ρ h).W (fun v h => (o ρ h).W (fun ov h => (i ρ h).W (fun iv h => (setIdxM Γ c ov iv v h).W (fun _ h => P.nx ρ h) (P.xc ρ)) (P.xc ρ)) (P.xc ρ)) (P.xc ρ) := by simp [sSetIdxM]
@[simp] theorem setIdxM_ref (n : Nat) (i v : Val) : setIdxM Γ c (.ref n) i v h = match h[n]? with
  | some (.ins k _) => sixIn Γ c k (.ref n) i v h
  | _ => setIdx (.ref n) i v h := by
  simp only [setIdxM]
  rcases h[n]? with _ | o
  · rfl
  · cases o <;> rfl
@[simp] theorem w_idleV (r : Res Val) : (idleV r).W Q X ↔ r.W (fun _ h => Q .non h) X := by cases r <;> rfl
end
end Mp
set_option Elab.async false
set_option linter.all false
set_option maxRecDepth 100000
set_option maxHeartbeats 1000000
namespace Mp
open PySem L2 PySem.W
section
variable {R : List Val → Mem → Prop} {Q : Val → Mem → Prop} {X : XQ} {ρ : Env} {h : Mem}
@[simp] theorem w_aStar (a : ME) (r : MA) : (aStar a r ρ h).W R X ↔ (a ρ h).W (fun v h => optP (seqOf h v) fun xs => (r ρ h).W (fun ys h => R (xs ++ ys) h) X) X := by simp [aStar]
variable {P : List (Val × Val) → Mem → Prop}
@[simp] theorem w_pNil : (pNil ρ h).W P X ↔ P [] h := Iff.rfl
@[simp] theorem w_pCons (k v : ME) (r : MP) : (pCons k v r ρ h).W P X ↔ (k ρ h).W (fun x h => (v ρ h).W (fun y h => (r ρ h).W (fun ps h => P ((x, y) :: ps) h) X) X) X := by simp [pCons]
@[simp] theorem w_eDsp (ps : MP) : (eDsp ps ρ h).W Q X ↔ (ps ρ (h ++ [.dic []])).W (fun l h2 => (dspEnd h.length l h2).W Q X) X := by simp [eDsp]
@[simp] theorem lmr_extend {h : Mem} (n b : Nat) : lmRun .extend n [.ref b] h = match h[n]? with
  | some (.lst xs) => (match h[b]? with
    | some (.lst zs) => if xs.length + zs.length ≤ sizeLine then .ok .non (h.set n (.lst (xs ++ zs))) else .bad
    | _ => .bad)
  | _ => .bad := by
  simp only [lmRun]
  all_goals (rcases h[n]? with _ | o <;> first | rfl | (cases o <;> rfl))
end
end Mp
set_option Elab.async false
set_option linter.all false
set_option maxRecDepth 100000
set_option maxHeartbeats 1000000
namespace Mp
open PySem L2 PySem.W
section
variable {R : List Val → Mem → Prop} {Q : Val → Mem → Prop} {X : XQ} {ρ : Env} {h : Mem}
/-- what a value gives to walk: an own object its field's list -/
def wkO (Γ : Pg) (h : Mem) (v : Val) : Option Wk := match itOf Γ h v with
  | some m => wkV h (.ref m)
  | none => wkV h v
@[simp] theorem w_iValO {O : Wk → Mem → Prop} (Γ : Pg) (e : ME) : (iValO Γ e ρ h).W O X ↔ (e ρ h).W (fun v h => optP (wkO Γ h v) fun w => O w h) X := by
  simp only [iValO]
  cases e ρ h with
  | bad => rfl
  | exc c fs h1 => rfl
  | ok v h1 =>
    simp only [Res.bind_ok, wkO]
    cases e : itOf Γ h1 v <;> simp [e]
@[simp] theorem w_eListO (Γ : Pg) (as : MA) : (eListO Γ as ρ h).W Q X ↔ (as ρ h).W (fun vs h => (listO Γ vs h).W Q X) X := by simp [eListO]
theorem itOf_ref {Γ : Pg} {h : Mem} {n m : Nat} {c fld : Str} {fs : List (Str × Val)} {C : ClD} (e1 : h[n]? = some (.ins c fs)) (e2 : Γ.cls.lookup c = some C) (e3 : C.it = some fld) (e4 : fs.lookup fld = some (.ref m)) : itOf Γ h (.ref n) = some m := by
  simp only [itOf, e1, e2, e3, e4]
theorem itOf_lst {Γ : Pg} {h : Mem} {n : Nat} {xs : List Val} (e1 : h[n]? = some (.lst xs)) : itOf Γ h (.ref n) = none := by
  simp only [itOf, e1]
theorem wkO_own {Γ : Pg} {h : Mem} {n m : Nat} (e : itOf Γ h (.ref n) = some m) : wkO Γ h (.ref n) = wkV h (.ref m) := by
  simp only [wkO, e]
theorem wkO_lst {Γ : Pg} {h : Mem} {n : Nat} {xs : List Val} (e1 : h[n]? = some (.lst xs)) : wkO Γ h (.ref n) = some (wkL n xs.length) := by
  simp only [wkO, itOf_lst e1, wkV, e1]
theorem listO_own {Γ : Pg} {h : Mem} {n m : Nat} {xs : List Val} (e : itOf Γ h (.ref n) = some m) (em : h[m]? = some (.lst xs)) : listO Γ [.ref n] h = newL xs h := by
  simp only [listO, e, lstOf, em, Res.opt_some, Res.bind_ok]
theorem listO_lst {Γ : Pg} {h : Mem} {n : Nat} {xs : List Val} (em : h[n]? = some (.lst xs)) : listO Γ [.ref n] h = newL xs h := by
  simp only [listO, itOf_lst em, biRun, seqK, em, Res.opt_some, Res.bind_ok]
theorem listO_old {Γ : Pg} {h : Mem} {v : Val} (e : itOf Γ h v = none) : listO Γ [v] h = biRun .list [v] h := by
  simp only [listO, e]
theorem augAttr_int {Γ : Pg} {x c : Str} {i n : Nat} {a k : Int} {fs : List (Str × Val)} (e0 : ρ[i]? = some (some (.ref n))) (e1 : h[n]? = some (.ins c fs)) (e2 : fget fs x = some (.int a))
    (e3 : setIn Γ x c fs n (.int (a + k)) h = .ok .non (h.set n (.ins c (putFd x (.int (a + k)) fs)))) : sAugAttr Γ x (eVar i) .Add (eC (.int k)) ρ h = .ok (.nx ρ) (h.set n (.ins c (putFd x (.int (a + k)) fs))) := by
  unfold setIn at e3
  unfold fget at e2
  simp only [sAugAttr, eVar, e0, onE, e1]
  cases ec : Γ.cls.lookup c with
  | none => rw [ec] at e3; cases e3
  | some C =>
    rw [ec] at e3
    simp only at e3 ⊢
    split at e3
    · rename_i hc
      rw [Bool.and_eq_true] at hc
      rw [if_pos hc.1]
      simp only [e2, eC, aug_add, e1]
      rw [if_pos ⟨trivial, of_decide_eq_true hc.2⟩]
    · cases e3
end
end Mp
set_option Elab.async false
set_option linter.all false
set_option maxRecDepth 100000
set_option maxHeartbeats 2000000
namespace K45
open PySem PySem.Spec PyProof.Rows L2 Mp
def top (i : Nat) : Stmt := PySem.Challenge.pw_wardwork_k45_pipe_in_order.main.body.getD i (.Pass ⟨0, 0, 0, 0⟩)
def d_law : Dd := { g := "law", at_ := ("law", none), name := "law", qual := "law", params := defArgs (top 39), ps := ["_law_script"], dfl := [], N := ["_law_script", "_law_store_here", "_law_room", "_law_pipe", "_law_twin", "_law_first", "_law_second", "_law_word_here", "_law_k", "_law_call"], sc := defScope (top 39), body := defBody (top 39) }
def d__law_refuses : Dd := { g := "_law_refuses", at_ := ("_law_refuses", none), name := "_law_refuses", qual := "_law_refuses", params := defArgs (top 38), ps := ["_law_wrong"], dfl := [], N := ["_law_wrong", "_law_e"], sc := defScope (top 38), body := defBody (top 38), xs := [1] }
def d__law_wrong_integer : Dd := { g := "_law_wrong_integer", at_ := ("_law_wrong_integer", none), name := "_law_wrong_integer", qual := "_law_wrong_integer", params := defArgs (top 28), ps := ["_law_store_here", "_law_low", "_law_high"], dfl := [], N := ["_law_store_here", "_law_low", "_law_high", "_law_near", "_law_others"], sc := defScope (top 28), body := defBody (top 28) }
def d__law_shown : Dd := { g := "_law_shown", at_ := ("_law_shown", none), name := "_law_shown", qual := "_law_shown", params := defArgs (top 35), ps := ["_law_pipe", "_law_room", "_law_sent", "_law_out"], dfl := [], N := ["_law_pipe", "_law_room", "_law_sent", "_law_out", "_law_k", "_law_seen", "_law_word_here"], sc := defScope (top 35), body := defBody (top 35), it := true }
def d__law_paired : Dd := { g := "_law_paired", at_ := ("_law_paired", none), name := "_law_paired", qual := "_law_paired", params := defArgs (top 36), ps := ["_law_pipe", "_law_inside"], dfl := [], N := ["_law_pipe", "_law_inside", "_law_rounds", "_law_due_here", "_law_told", "_law_word_here", "_law_x"], sc := defScope (top 36), body := defBody (top 36), it := true }
def d__law_step : Dd := { g := "_law_step", at_ := ("_law_step", none), name := "_law_step", qual := "_law_step", params := defArgs (top 37), ps := ["_law_pipe", "_law_room", "_law_sent", "_law_out", "_law_call"], dfl := [], N := ["_law_pipe", "_law_room", "_law_sent", "_law_out", "_law_call", "_law_due_here"], sc := defScope (top 37), body := defBody (top 37) }
def d__law_take : Dd := { g := "_law_take", at_ := ("_law_take", none), name := "_law_take", qual := "_law_take", params := defArgs (top 22), ps := ["_law_store_here", "_law_many"], dfl := [], N := ["_law_store_here", "_law_many", "_law_cell", "_law_digit"], sc := defScope (top 22), body := defBody (top 22) }
def d__law_drawn_call : Dd := { g := "_law_drawn_call", at_ := ("_law_drawn_call", none), name := "_law_drawn_call", qual := "_law_drawn_call", params := defArgs (top 33), ps := ["_law_store_here"], dfl := [], N := ["_law_store_here", "_law_way"], sc := defScope (top 33), body := defBody (top 33) }
def d__law_size : Dd := { g := "_law_size", at_ := ("_law_size", none), name := "_law_size", qual := "_law_size", params := defArgs (top 25), ps := ["_law_store_here", "_law_most"], dfl := [], N := ["_law_store_here", "_law_most", "_law_way"], sc := defScope (top 25), body := defBody (top 25) }
def d__law_words : Dd := { g := "_law_words", at_ := ("_law_words", none), name := "_law_words", qual := "_law_words", params := defArgs (top 27), ps := ["_law_store_here", "_law_count"], dfl := [], N := ["_law_store_here", "_law_count", "_law_way", "_law_k"], sc := defScope (top 27), body := defBody (top 27) }
def d_Pipe___init__ : Dd := { g := "Pipe.__init__", at_ := ("Pipe", some "__init__"), name := "__init__", qual := "Pipe.__init__", params := defArgs (inClass (top 18) 0), ps := ["self", "room"], dfl := [.int (4)], N := ["self", "room"], sc := defScope (inClass (top 18) 0), body := defBody (inClass (top 18) 0) }
def d__law_between : Dd := { g := "_law_between", at_ := ("_law_between", none), name := "_law_between", qual := "_law_between", params := defArgs (top 24), ps := ["_law_store_here", "_law_low", "_law_high"], dfl := [], N := ["_law_store_here", "_law_low", "_law_high", "_law_many", "_law_way"], sc := defScope (top 24), body := defBody (top 24) }
def d__law_store : Dd := { g := "_law_store", at_ := ("_law_store", none), name := "_law_store", qual := "_law_store", params := defArgs (top 21), ps := ["_law_script", "_law_salt"], dfl := [], N := ["_law_script", "_law_salt", "_law_seed", "_law_cell"], sc := defScope (top 21), body := defBody (top 21) }
def d__law_refusal : Dd := { g := "_law_refusal", at_ := ("_law_refusal", none), name := "_law_refusal", qual := "_law_refusal", params := defArgs (top 31), ps := ["_law_e"], dfl := [], N := ["_law_e", "_law_rows"], sc := defScope (top 31), body := defBody (top 31), xs := [0] }
def d__law_pick : Dd := { g := "_law_pick", at_ := ("_law_pick", none), name := "_law_pick", qual := "_law_pick", params := defArgs (top 23), ps := ["_law_store_here", "_law_row"], dfl := [], N := ["_law_store_here", "_law_row"], sc := defScope (top 23), body := defBody (top 23) }
def d_Pipe___iter__ : Dd := { g := "Pipe.__iter__", at_ := ("Pipe", some "__iter__"), name := "__iter__", qual := "Pipe.__iter__", params := defArgs (inClass (top 18) 7), ps := ["self"], dfl := [], N := ["self"], sc := defScope (inClass (top 18) 7), body := defBody (inClass (top 18) 7) }
def d__law_alike : Dd := { g := "_law_alike", at_ := ("_law_alike", none), name := "_law_alike", qual := "_law_alike", params := defArgs (top 29), ps := ["_law_one", "_law_two"], dfl := [], N := ["_law_one", "_law_two", "_law_k"], sc := defScope (top 29), body := defBody (top 29) }
def d_Pipe_received : Dd := { g := "Pipe.received", at_ := ("Pipe", some "received"), name := "received", qual := "Pipe.received", params := defArgs (inClass (top 18) 4), ps := ["self"], dfl := [], N := ["self"], sc := defScope (inClass (top 18) 4), body := defBody (inClass (top 18) 4), prop := true }
def d_Pipe_sent : Dd := { g := "Pipe.sent", at_ := ("Pipe", some "sent"), name := "sent", qual := "Pipe.sent", params := defArgs (inClass (top 18) 3), ps := ["self"], dfl := [], N := ["self"], sc := defScope (inClass (top 18) 3), body := defBody (inClass (top 18) 3), prop := true }
def d_Pipe_size : Dd := { g := "Pipe.size", at_ := ("Pipe", some "size"), name := "size", qual := "Pipe.size", params := defArgs (inClass (top 18) 2), ps := ["self"], dfl := [], N := ["self"], sc := defScope (inClass (top 18) 2), body := defBody (inClass (top 18) 2), prop := true }
def d_Pipe_room : Dd := { g := "Pipe.room", at_ := ("Pipe", some "room"), name := "room", qual := "Pipe.room", params := defArgs (inClass (top 18) 1), ps := ["self"], dfl := [], N := ["self"], sc := defScope (inClass (top 18) 1), body := defBody (inClass (top 18) 1), prop := true }
def d__law_called : Dd := { g := "_law_called", at_ := ("_law_called", none), name := "_law_called", qual := "_law_called", params := defArgs (top 32), ps := ["_law_pipe", "_law_call"], dfl := [], N := ["_law_pipe", "_law_call", "_law_e"], sc := defScope (top 32), body := defBody (top 32), xs := [2] }
def d__law_due : Dd := { g := "_law_due", at_ := ("_law_due", none), name := "_law_due", qual := "_law_due", params := defArgs (top 34), ps := ["_law_call", "_law_room", "_law_sent", "_law_out"], dfl := [], N := ["_law_call", "_law_room", "_law_sent", "_law_out"], sc := defScope (top 34), body := defBody (top 34) }
def d__law_mixed : Dd := { g := "_law_mixed", at_ := ("_law_mixed", none), name := "_law_mixed", qual := "_law_mixed", params := defArgs (top 20), ps := ["_law_number", "_law_turn", "_law_many"], dfl := [], N := ["_law_number", "_law_turn", "_law_many", "_law_first", "_law_second", "_law_third"], sc := defScope (top 20), body := defBody (top 20) }
def d__law_word : Dd := { g := "_law_word", at_ := ("_law_word", none), name := "_law_word", qual := "_law_word", params := defArgs (top 26), ps := ["_law_store_here"], dfl := [], N := ["_law_store_here", "_law_way"], sc := defScope (top 26), body := defBody (top 26) }
def d_copy_of : Dd := { g := "copy_of", at_ := ("copy_of", none), name := "copy_of", qual := "copy_of", params := defArgs (top 12), ps := ["value"], dfl := [], N := ["value", "part"], sc := defScope (top 12), body := defBody (top 12) }
def d_whole_between : Dd := { g := "whole_between", at_ := ("whole_between", none), name := "whole_between", qual := "whole_between", params := defArgs (top 14), ps := ["value", "low", "high"], dfl := [], N := ["value", "low", "high"], sc := defScope (top 14), body := defBody (top 14) }
def d_Pipe_receive : Dd := { g := "Pipe.receive", at_ := ("Pipe", some "receive"), name := "receive", qual := "Pipe.receive", params := defArgs (inClass (top 18) 6), ps := ["self"], dfl := [], N := ["self"], sc := defScope (inClass (top 18) 6), body := defBody (inClass (top 18) 6) }
def d_Pipe_send : Dd := { g := "Pipe.send", at_ := ("Pipe", some "send"), name := "send", qual := "Pipe.send", params := defArgs (inClass (top 18) 5), ps := ["self", "word"], dfl := [], N := ["self", "word"], sc := defScope (inClass (top 18) 5), body := defBody (inClass (top 18) 5) }
def d__law_is_integer : Dd := { g := "_law_is_integer", at_ := ("_law_is_integer", none), name := "_law_is_integer", qual := "_law_is_integer", params := defArgs (top 30), ps := ["_law_value", "_law_low", "_law_high"], dfl := [], N := ["_law_value", "_law_low", "_law_high"], sc := defScope (top 30), body := defBody (top 30) }
def c_Pipe : ClD := { init := "Pipe.__init__", meths := [("send", "Pipe.send"), ("receive", "Pipe.receive"), ("__iter__", "Pipe.__iter__")], props := [("room", "Pipe.room"), ("size", "Pipe.size"), ("sent", "Pipe.sent"), ("received", "Pipe.received")], flds := ["own_room", "own_words", "own_sent", "own_received"], it := some "own_words" }
def glob_ : List (Str × Val) := [("MOST_ROOM", .int (16)), ("GREATEST_WORD", .int (65535))]
def tops0 : List Str := ["law", "_law_refuses", "_law_wrong_integer", "_law_shown", "_law_paired", "_law_step", "_law_take", "_law_drawn_call", "_law_size", "_law_words", "_law_between", "_law_store", "_law_refusal", "_law_pick", "_law_alike", "_law_called", "_law_due", "_law_mixed", "_law_word", "copy_of", "whole_between", "_law_is_integer"]
def tops_ : List Str := tops0
def shapes0 : List (Str × Nat × List Str) := [("law", 1, []), ("_law_refuses", 1, []), ("_law_wrong_integer", 3, []), ("_law_shown", 4, []), ("_law_paired", 2, []), ("_law_step", 5, []), ("_law_take", 2, []), ("_law_drawn_call", 1, []), ("_law_size", 2, []), ("_law_words", 2, []), ("Pipe.__init__", 1, []), ("Pipe.__init__", 1, ["room"]), ("_law_between", 3, []), ("_law_store", 2, []), ("_law_refusal", 1, []), ("Pipe.__init__", 2, []), ("_law_pick", 2, []), ("Pipe.__iter__", 1, []), ("_law_alike", 2, []), ("Pipe.received", 1, []), ("Pipe.sent", 1, []), ("Pipe.size", 1, []), ("Pipe.room", 1, []), ("_law_called", 2, []), ("_law_due", 4, [])]
def shapes1 : List (Str × Nat × List Str) := [("_law_mixed", 3, []), ("_law_word", 1, []), ("copy_of", 1, []), ("whole_between", 3, []), ("Pipe.receive", 1, []), ("Pipe.send", 2, []), ("Pipe.send", 1, ["word"]), ("_law_is_integer", 3, [])]
def shapes_ : List (Str × Nat × List Str) := shapes0 ++ shapes1
def x_WardError : Xd := { c := "WardError", sup := ["WardError", "ValueError"], flds := [] }
def i_BadArgument : Xi := { g := "BadArgument.__init__", name := "__init__", qual := "BadArgument.__init__", params := defArgs (inClass (top 3) 0), sc := defScope (inClass (top 3) 0), body := defBody (inClass (top 3) 0), N := ["self", "name", "__class__"], sf := "self", pn := "name", fld := "name" }
def x_BadArgument : Xd := { c := "BadArgument", sup := ["BadArgument", "WardError", "ValueError"], flds := ["name"], xi := some i_BadArgument }
def x_SourceError : Xd := { c := "SourceError", sup := ["SourceError", "WardError", "ValueError"], flds := [] }
def x_Unknown : Xd := { c := "Unknown", sup := ["Unknown", "WardError", "ValueError"], flds := [] }
def x_Taken : Xd := { c := "Taken", sup := ["Taken", "WardError", "ValueError"], flds := [] }
def x_NotAllowed : Xd := { c := "NotAllowed", sup := ["NotAllowed", "WardError", "ValueError"], flds := [] }
def x_WrongState : Xd := { c := "WrongState", sup := ["WrongState", "WardError", "ValueError"], flds := [] }
def x_RingOfWaits : Xd := { c := "RingOfWaits", sup := ["RingOfWaits", "WardError", "ValueError"], flds := [] }
def x_Full : Xd := { c := "Full", sup := ["Full", "WardError", "ValueError"], flds := [] }
def x_Stopped : Xd := { c := "Stopped", sup := ["Stopped", "WardError", "ValueError"], flds := [] }
def xds_ : List Xd := [x_WardError, x_BadArgument, x_SourceError, x_Unknown, x_Taken, x_NotAllowed, x_WrongState, x_RingOfWaits, x_Full, x_Stopped]
def T : Txt := { dds := [d_law, d__law_refuses, d__law_wrong_integer, d__law_shown, d__law_paired, d__law_step, d__law_take, d__law_drawn_call, d__law_size, d__law_words, d_Pipe___init__, d__law_between, d__law_store, d__law_refusal, d__law_pick, d_Pipe___iter__, d__law_alike, d_Pipe_received, d_Pipe_sent, d_Pipe_size, d_Pipe_room, d__law_called, d__law_due, d__law_mixed, d__law_word, d_copy_of, d_whole_between, d_Pipe_receive, d_Pipe_send, d__law_is_integer], tops := tops_, cls := [("Pipe", c_Pipe)], glob := glob_, shapes := shapes_, xds := xds_, file := "/claim/cut.py" }
theorem b0 : BindOk d_law 1 [] [.ps 0] := ⟨by kernel_rfl, by decide +kernel, by decide +kernel, by decide +kernel, fun _ _ _ _ _ _ _ _ _ => by show bindArgs _ _ = pure _; kernel_rfl, fun h => absurd rfl h, fun _ h => absurd rfl h, fun h => absurd rfl h⟩
theorem b1 : BindOk d__law_refuses 1 [] [.ps 0] := ⟨by kernel_rfl, by decide +kernel, by decide +kernel, by decide +kernel, fun _ _ _ _ _ _ _ _ _ => by show bindArgs _ _ = pure _; kernel_rfl, fun h => absurd rfl h, fun _ h => absurd rfl h, fun h => absurd rfl h⟩
theorem b2 : BindOk d__law_wrong_integer 3 [] [.ps 0, .ps 1, .ps 2] := ⟨by kernel_rfl, by decide +kernel, by decide +kernel, by decide +kernel, fun _ _ _ _ _ _ _ _ _ _ _ => by show bindArgs _ _ = pure _; kernel_rfl, fun h => absurd rfl h, fun _ h => absurd rfl h, fun h => absurd rfl h⟩
theorem b3 : BindOk d__law_shown 4 [] [.ps 0, .ps 1, .ps 2, .ps 3] := ⟨by kernel_rfl, by decide +kernel, by decide +kernel, by decide +kernel, fun _ _ _ _ _ _ _ _ _ _ _ _ => by show bindArgs _ _ = pure _; kernel_rfl, fun h => absurd rfl h, fun _ h => absurd rfl h, fun h => absurd rfl h⟩
theorem b4 : BindOk d__law_paired 2 [] [.ps 0, .ps 1] := ⟨by kernel_rfl, by decide +kernel, by decide +kernel, by decide +kernel, fun _ _ _ _ _ _ _ _ _ _ => by show bindArgs _ _ = pure _; kernel_rfl, fun h => absurd rfl h, fun _ h => absurd rfl h, fun h => absurd rfl h⟩
theorem b5 : BindOk d__law_step 5 [] [.ps 0, .ps 1, .ps 2, .ps 3, .ps 4] := ⟨by kernel_rfl, by decide +kernel, by decide +kernel, by decide +kernel, fun _ _ _ _ _ _ _ _ _ _ _ _ _ => by show bindArgs _ _ = pure _; kernel_rfl, fun h => absurd rfl h, fun _ h => absurd rfl h, fun h => absurd rfl h⟩
theorem b6 : BindOk d__law_take 2 [] [.ps 0, .ps 1] := ⟨by kernel_rfl, by decide +kernel, by decide +kernel, by decide +kernel, fun _ _ _ _ _ _ _ _ _ _ => by show bindArgs _ _ = pure _; kernel_rfl, fun h => absurd rfl h, fun _ h => absurd rfl h, fun h => absurd rfl h⟩
theorem b7 : BindOk d__law_drawn_call 1 [] [.ps 0] := ⟨by kernel_rfl, by decide +kernel, by decide +kernel, by decide +kernel, fun _ _ _ _ _ _ _ _ _ => by show bindArgs _ _ = pure _; kernel_rfl, fun h => absurd rfl h, fun _ h => absurd rfl h, fun h => absurd rfl h⟩
theorem b8 : BindOk d__law_size 2 [] [.ps 0, .ps 1] := ⟨by kernel_rfl, by decide +kernel, by decide +kernel, by decide +kernel, fun _ _ _ _ _ _ _ _ _ _ => by show bindArgs _ _ = pure _; kernel_rfl, fun h => absurd rfl h, fun _ h => absurd rfl h, fun h => absurd rfl h⟩
theorem b9 : BindOk d__law_words 2 [] [.ps 0, .ps 1] := ⟨by kernel_rfl, by decide +kernel, by decide +kernel, by decide +kernel, fun _ _ _ _ _ _ _ _ _ _ => by show bindArgs _ _ = pure _; kernel_rfl, fun h => absurd rfl h, fun _ h => absurd rfl h, fun h => absurd rfl h⟩
theorem b10 : BindOk d_Pipe___init__ 1 [] [.ps 0, .df 0] := ⟨by kernel_rfl, by decide +kernel, by decide +kernel, by decide +kernel, fun h => absurd h (by simp [d_Pipe___init__]), fun _ _ _ _ _ _ _ _ _ _ _ => ⟨_, rfl, rfl⟩, fun h => absurd h (by simp [d_Pipe___init__]), fun _ h => absurd rfl h⟩
theorem b11 : BindOk d_Pipe___init__ 1 ["room"] [.ps 0, .kw 0] := ⟨by kernel_rfl, by decide +kernel, by decide +kernel, by decide +kernel, fun h => absurd h (by simp [d_Pipe___init__]), fun _ _ _ _ _ _ _ _ _ _ _ _ => ⟨_, rfl, rfl⟩, fun h => absurd h (by simp [d_Pipe___init__]), fun _ h => absurd rfl h⟩
theorem b12 : BindOk d__law_between 3 [] [.ps 0, .ps 1, .ps 2] := ⟨by kernel_rfl, by decide +kernel, by decide +kernel, by decide +kernel, fun _ _ _ _ _ _ _ _ _ _ _ => by show bindArgs _ _ = pure _; kernel_rfl, fun h => absurd rfl h, fun _ h => absurd rfl h, fun h => absurd rfl h⟩
theorem b13 : BindOk d__law_store 2 [] [.ps 0, .ps 1] := ⟨by kernel_rfl, by decide +kernel, by decide +kernel, by decide +kernel, fun _ _ _ _ _ _ _ _ _ _ => by show bindArgs _ _ = pure _; kernel_rfl, fun h => absurd rfl h, fun _ h => absurd rfl h, fun h => absurd rfl h⟩
theorem b14 : BindOk d__law_refusal 1 [] [.ps 0] := ⟨by kernel_rfl, by decide +kernel, by decide +kernel, by decide +kernel, fun _ _ _ _ _ _ _ _ _ => by show bindArgs _ _ = pure _; kernel_rfl, fun h => absurd rfl h, fun _ h => absurd rfl h, fun h => absurd rfl h⟩
theorem b15 : BindOk d_Pipe___init__ 2 [] [.ps 0, .ps 1] := ⟨by kernel_rfl, by decide +kernel, by decide +kernel, by decide +kernel, fun h => absurd h (by simp [d_Pipe___init__]), fun _ _ _ _ _ _ _ _ _ _ _ _ => ⟨_, rfl, rfl⟩, fun h => absurd h (by simp [d_Pipe___init__]), fun _ h => absurd rfl h⟩
theorem b16 : BindOk d__law_pick 2 [] [.ps 0, .ps 1] := ⟨by kernel_rfl, by decide +kernel, by decide +kernel, by decide +kernel, fun _ _ _ _ _ _ _ _ _ _ => by show bindArgs _ _ = pure _; kernel_rfl, fun h => absurd rfl h, fun _ h => absurd rfl h, fun h => absurd rfl h⟩
theorem b17 : BindOk d_Pipe___iter__ 1 [] [.ps 0] := ⟨by kernel_rfl, by decide +kernel, by decide +kernel, by decide +kernel, fun _ _ _ _ _ _ _ _ _ => by show bindArgs _ _ = pure _; kernel_rfl, fun h => absurd rfl h, fun _ h => absurd rfl h, fun h => absurd rfl h⟩
theorem b18 : BindOk d__law_alike 2 [] [.ps 0, .ps 1] := ⟨by kernel_rfl, by decide +kernel, by decide +kernel, by decide +kernel, fun _ _ _ _ _ _ _ _ _ _ => by show bindArgs _ _ = pure _; kernel_rfl, fun h => absurd rfl h, fun _ h => absurd rfl h, fun h => absurd rfl h⟩
theorem b19 : BindOk d_Pipe_received 1 [] [.ps 0] := ⟨by kernel_rfl, by decide +kernel, by decide +kernel, by decide +kernel, fun _ _ _ _ _ _ _ _ _ => by show bindArgs _ _ = pure _; kernel_rfl, fun h => absurd rfl h, fun _ h => absurd rfl h, fun h => absurd rfl h⟩
theorem b20 : BindOk d_Pipe_sent 1 [] [.ps 0] := ⟨by kernel_rfl, by decide +kernel, by decide +kernel, by decide +kernel, fun _ _ _ _ _ _ _ _ _ => by show bindArgs _ _ = pure _; kernel_rfl, fun h => absurd rfl h, fun _ h => absurd rfl h, fun h => absurd rfl h⟩
theorem b21 : BindOk d_Pipe_size 1 [] [.ps 0] := ⟨by kernel_rfl, by decide +kernel, by decide +kernel, by decide +kernel, fun _ _ _ _ _ _ _ _ _ => by show bindArgs _ _ = pure _; kernel_rfl, fun h => absurd rfl h, fun _ h => absurd rfl h, fun h => absurd rfl h⟩
theorem b22 : BindOk d_Pipe_room 1 [] [.ps 0] := ⟨by kernel_rfl, by decide +kernel, by decide +kernel, by decide +kernel, fun _ _ _ _ _ _ _ _ _ => by show bindArgs _ _ = pure _; kernel_rfl, fun h => absurd rfl h, fun _ h => absurd rfl h, fun h => absurd rfl h⟩
theorem b23 : BindOk d__law_called 2 [] [.ps 0, .ps 1] := ⟨by kernel_rfl, by decide +kernel, by decide +kernel, by decide +kernel, fun _ _ _ _ _ _ _ _ _ _ => by show bindArgs _ _ = pure _; kernel_rfl, fun h => absurd rfl h, fun _ h => absurd rfl h, fun h => absurd rfl h⟩
theorem b24 : BindOk d__law_due 4 [] [.ps 0, .ps 1, .ps 2, .ps 3] := ⟨by kernel_rfl, by decide +kernel, by decide +kernel, by decide +kernel, fun _ _ _ _ _ _ _ _ _ _ _ _ => by show bindArgs _ _ = pure _; kernel_rfl, fun h => absurd rfl h, fun _ h => absurd rfl h, fun h => absurd rfl h⟩
theorem b25 : BindOk d__law_mixed 3 [] [.ps 0, .ps 1, .ps 2] := ⟨by kernel_rfl, by decide +kernel, by decide +kernel, by decide +kernel, fun _ _ _ _ _ _ _ _ _ _ _ => by show bindArgs _ _ = pure _; kernel_rfl, fun h => absurd rfl h, fun _ h => absurd rfl h, fun h => absurd rfl h⟩
theorem b26 : BindOk d__law_word 1 [] [.ps 0] := ⟨by kernel_rfl, by decide +kernel, by decide +kernel, by decide +kernel, fun _ _ _ _ _ _ _ _ _ => by show bindArgs _ _ = pure _; kernel_rfl, fun h => absurd rfl h, fun _ h => absurd rfl h, fun h => absurd rfl h⟩
theorem b27 : BindOk d_copy_of 1 [] [.ps 0] := ⟨by kernel_rfl, by decide +kernel, by decide +kernel, by decide +kernel, fun _ _ _ _ _ _ _ _ _ => by show bindArgs _ _ = pure _; kernel_rfl, fun h => absurd rfl h, fun _ h => absurd rfl h, fun h => absurd rfl h⟩
theorem b28 : BindOk d_whole_between 3 [] [.ps 0, .ps 1, .ps 2] := ⟨by kernel_rfl, by decide +kernel, by decide +kernel, by decide +kernel, fun _ _ _ _ _ _ _ _ _ _ _ => by show bindArgs _ _ = pure _; kernel_rfl, fun h => absurd rfl h, fun _ h => absurd rfl h, fun h => absurd rfl h⟩
theorem b29 : BindOk d_Pipe_receive 1 [] [.ps 0] := ⟨by kernel_rfl, by decide +kernel, by decide +kernel, by decide +kernel, fun _ _ _ _ _ _ _ _ _ => by show bindArgs _ _ = pure _; kernel_rfl, fun h => absurd rfl h, fun _ h => absurd rfl h, fun h => absurd rfl h⟩
theorem b30 : BindOk d_Pipe_send 2 [] [.ps 0, .ps 1] := ⟨by kernel_rfl, by decide +kernel, by decide +kernel, by decide +kernel, fun _ _ _ _ _ _ _ _ _ _ => by show bindArgs _ _ = pure _; kernel_rfl, fun h => absurd rfl h, fun _ h => absurd rfl h, fun h => absurd rfl h⟩
theorem b31 : BindOk d_Pipe_send 1 ["word"] [.ps 0, .kw 0] := ⟨by kernel_rfl, by decide +kernel, by decide +kernel, by decide +kernel, fun _ _ _ _ _ _ _ _ _ _ => by show bindArgs _ _ = pure _; kernel_rfl, fun h => absurd rfl h, fun _ h => absurd rfl h, fun h => absurd rfl h⟩
theorem b32 : BindOk d__law_is_integer 3 [] [.ps 0, .ps 1, .ps 2] := ⟨by kernel_rfl, by decide +kernel, by decide +kernel, by decide +kernel, fun _ _ _ _ _ _ _ _ _ _ _ => by show bindArgs _ _ = pure _; kernel_rfl, fun h => absurd rfl h, fun _ h => absurd rfl h, fun h => absurd rfl h⟩
theorem xo_BadArgument : XiOk T x_BadArgument i_BadArgument := ⟨rfl, ⟨_, _, _, _, _, _, _, _, _, _, _, _, _, _, _, _, _, rfl, by decide +kernel, by decide +kernel⟩, by decide +kernel, by decide +kernel, by decide +kernel, by decide +kernel, by decide +kernel, fun _ _ _ _ _ _ _ _ => by show bindArgs _ _ = pure _; kernel_rfl, by decide +kernel⟩
theorem txtOk : TxtOk T where
  nd := by decide +kernel
  sc := by decide +kernel
  sh := by
    intro s hs
    simp only [T, shapes_, shapes0, shapes1, List.mem_append, List.mem_cons, List.not_mem_nil, or_false] at hs
    rcases hs with (rfl | rfl | rfl | rfl | rfl | rfl | rfl | rfl | rfl | rfl | rfl | rfl | rfl | rfl | rfl | rfl | rfl | rfl | rfl | rfl | rfl | rfl | rfl | rfl | rfl) | (rfl | rfl | rfl | rfl | rfl | rfl | rfl | rfl)
    · exact ⟨d_law, by simp [T], rfl, _, b0⟩
    · exact ⟨d__law_refuses, by simp [T], rfl, _, b1⟩
    · exact ⟨d__law_wrong_integer, by simp [T], rfl, _, b2⟩
    · exact ⟨d__law_shown, by simp [T], rfl, _, b3⟩
    · exact ⟨d__law_paired, by simp [T], rfl, _, b4⟩
    · exact ⟨d__law_step, by simp [T], rfl, _, b5⟩
    · exact ⟨d__law_take, by simp [T], rfl, _, b6⟩
    · exact ⟨d__law_drawn_call, by simp [T], rfl, _, b7⟩
    · exact ⟨d__law_size, by simp [T], rfl, _, b8⟩
    · exact ⟨d__law_words, by simp [T], rfl, _, b9⟩
    · exact ⟨d_Pipe___init__, by simp [T], rfl, _, b10⟩
    · exact ⟨d_Pipe___init__, by simp [T], rfl, _, b11⟩
    · exact ⟨d__law_between, by simp [T], rfl, _, b12⟩
    · exact ⟨d__law_store, by simp [T], rfl, _, b13⟩
    · exact ⟨d__law_refusal, by simp [T], rfl, _, b14⟩
    · exact ⟨d_Pipe___init__, by simp [T], rfl, _, b15⟩
    · exact ⟨d__law_pick, by simp [T], rfl, _, b16⟩
    · exact ⟨d_Pipe___iter__, by simp [T], rfl, _, b17⟩
    · exact ⟨d__law_alike, by simp [T], rfl, _, b18⟩
    · exact ⟨d_Pipe_received, by simp [T], rfl, _, b19⟩
    · exact ⟨d_Pipe_sent, by simp [T], rfl, _, b20⟩
    · exact ⟨d_Pipe_size, by simp [T], rfl, _, b21⟩
    · exact ⟨d_Pipe_room, by simp [T], rfl, _, b22⟩
    · exact ⟨d__law_called, by simp [T], rfl, _, b23⟩
    · exact ⟨d__law_due, by simp [T], rfl, _, b24⟩
    · exact ⟨d__law_mixed, by simp [T], rfl, _, b25⟩
    · exact ⟨d__law_word, by simp [T], rfl, _, b26⟩
    · exact ⟨d_copy_of, by simp [T], rfl, _, b27⟩
    · exact ⟨d_whole_between, by simp [T], rfl, _, b28⟩
    · exact ⟨d_Pipe_receive, by simp [T], rfl, _, b29⟩
    · exact ⟨d_Pipe_send, by simp [T], rfl, _, b30⟩
    · exact ⟨d_Pipe_send, by simp [T], rfl, _, b31⟩
    · exact ⟨d__law_is_integer, by simp [T], rfl, _, b32⟩
  tops := by decide +kernel
  cl := by decide +kernel
  pr := by decide +kernel
  nob := by decide +kernel
  xe := by decide +kernel
  it := by decide +kernel
  cpy := by decide +kernel
  xs := by
    intro x hx i ei
    simp only [T, xds_, List.mem_cons, List.not_mem_nil, or_false] at hx
    rcases hx with rfl | rfl | rfl | rfl | rfl | rfl | rfl | rfl | rfl | rfl
    · cases ei
    · cases ei; exact xo_BadArgument
    · cases ei
    · cases ei
    · cases ei
    · cases ei
    · cases ei
    · cases ei
    · cases ei
    · cases ei
end K45
set_option maxHeartbeats 1000000
namespace K45
open PySem PySem.Spec PyProof.Rows L2 Mp
abbrev R : PySem.W.OpenRow := PySem.W.OpenLaw.row PySem.Challenge.rw_wardwork_k45_pipe_in_order
def ads0 : List Nat := [3, 6, 4, 21, 31, 53, 74, 95, 116, 137, 158, 179, 200, 221, 228, 235, 323, 334, 341, 348, 355, 362, 369, 376, 381, 388, 395, 402, 409, 416, 423, 430, 437, 442, 449, 456, 463, 0, 20, 30]
def ads1 : List Nat := [52, 73, 94, 115, 136, 157, 178, 199, 220, 227, 234, 322, 333, 340, 347, 354, 361, 368, 375, 380, 387, 394, 401, 408, 415, 422, 429, 436, 441, 448, 455, 462, 15, 17, 18, 19, 29, 32, 50, 51]
def ads2 : List Nat := [71, 72, 92, 93, 113, 114, 134, 135, 155, 156, 176, 177, 197, 198, 218, 219, 224, 226, 229, 231, 232, 233, 250, 258, 266, 274, 282, 289, 296, 303, 310, 319, 321, 324, 325, 328, 330, 331, 332, 335]
def ads3 : List Nat := [337, 338, 339, 342, 344, 345, 346, 349, 351, 352, 353, 356, 358, 359, 360, 363, 365, 366, 367, 370, 372, 373, 374, 377, 379, 382, 384, 385, 386, 389, 391, 392, 393, 396, 398, 399, 400, 403, 405, 406]
def ads4 : List Nat := [407, 410, 412, 413, 414, 417, 419, 420, 421, 424, 426, 427, 428, 431, 433, 434, 435, 438, 440, 443, 445, 446, 447, 450, 452, 453, 454, 457, 459, 460, 461, 49, 38, 70, 59, 91, 80, 112, 101, 133]
def ads5 : List Nat := [122, 154, 143, 175, 164, 196, 185, 217, 206, 249, 243, 257, 265, 273, 281, 288, 295, 302, 309, 317, 318, 44, 46, 47, 48, 65, 67, 68, 69, 86, 88, 89, 90, 107, 109, 110, 111, 128, 130, 131]
def ads6 : List Nat := [132, 149, 151, 152, 153, 170, 172, 173, 174, 191, 193, 194, 195, 212, 214, 215, 216, 244, 246, 247, 248, 256, 264, 272, 280, 283, 285, 286, 287, 290, 292, 293, 294, 297, 299, 300, 301, 304, 306, 307]
def ads7 : List Nat := [308, 316, 320, 251, 253, 254, 255, 259, 261, 262, 263, 267, 269, 270, 271, 275, 277, 278, 279, 311, 313, 314, 315, 2]
def ADS : List Nat := ads0 ++ (ads1 ++ (ads2 ++ (ads3 ++ (ads4 ++ (ads5 ++ (ads6 ++ (ads7)))))))
def hk : PySem.W.Hook where
  α := AlM
  obs := fun s => T.obs (He.frT s.heap.get? ADS)
  val := fun _ => T.told
  says := fun _ h => ∃ K : PySem.W.Frag, K.In h ∧ Says T K
  of := fun _ _ e => ⟨_, He.frT_in, says_of e⟩
  keeps := fun _ _ _ z k => z.elim fun K y => ⟨K, PySem.W.Frag.In.keeps y.1 k, y.2⟩
def ob (s : PySem.W.SharedT) : AlM := T.obs (He.frT (HandSHeadRun.getT s) ADS)
theorem ob_eq (s : PySem.W.SharedT) : ob s = hk.obs s.abs := by
  have e : HandSHeadRun.getT s = s.abs.heap.get? := funext (HandSHeadRun.getT_eq s)
  unfold ob
  rw [e]
  rfl
def loose0 : List PySem.Str := ["_wall", "__name__", "WardError", "BadArgument", "SourceError", "Unknown", "Taken", "NotAllowed", "WrongState", "RingOfWaits", "Full", "Stopped", "copy_of", "whole_between", "GREATEST_WORD", "MOST_ROOM", "Pipe", "_law_mixed", "_law_store", "_law_take", "_law_pick", "_law_between", "_law_size", "_law_word", "_law_words", "_law_wrong_integer", "_law_alike", "_law_is_integer", "_law_refusal", "_law_called"]
def loose1 : List PySem.Str := ["_law_drawn_call", "_law_due", "_law_shown", "_law_paired", "_law_step", "_law_refuses"]
def loose : List PySem.Str := loose0 ++ loose1
abbrev qv : Program := PySem.W.view R.prog [39]
theorem map_part {α β γ : Type} {o : Option α} {f : α → β} {g : α → γ} {b : β} {c : γ} (h1 : o.map f = some b) (h2 : o.map g = some c) : o.map (fun s => (f s, g s)) = some (b, c) := by
  cases o with
  | none => cases h1
  | some s =>
    injection h1 with h1
    injection h2 with h2
    simp [h1, h2]
noncomputable abbrev fin_ (w : World) (os : PySem.OsState) : Option PySem.W.SharedT := HandSHeadRun.endF (HandSHeadRun.stepQ (HandSHeadRun.denQ HandSHeadRun.tabQ) R.prog w) 8000 R.prog w os
set_option maxHeartbeats 0 in
theorem run1 (w : World) (os : PySem.OsState) : (fin_ w os).map (fun s => HandSHeadRun.looksF R.prog (PySem.W.boot_heap w.params) s.abs) = some true := by kernel_rfl
set_option maxHeartbeats 0 in
theorem run2 (w : World) (os : PySem.OsState) : (fin_ w os).map (fun s => HandSHeadRun.seenQ qv loose (PySem.importedModules R.prog.main.body) (fun s => PySem.W.xlAt qv [] s && PySem.W.recOk R.toRowW.records s) s.abs) = some (PySem.W.openGood qv loose) := by kernel_rfl
set_option maxHeartbeats 0 in
theorem run3 (w : World) (os : PySem.OsState) : (fin_ w os).map (fun s => (ob s).1) = some T.told.1 := by kernel_rfl
set_option maxHeartbeats 0 in
theorem run4 (w : World) (os : PySem.OsState) : (fin_ w os).map (fun s => (ob s).2.1) = some T.told.2.1 := by kernel_rfl
set_option maxHeartbeats 0 in
theorem run5 (w : World) (os : PySem.OsState) : (fin_ w os).map (fun s => (ob s).2.2) = some T.told.2.2 := by kernel_rfl
theorem run (w : World) : HandSHeadRun.RunEq R qv hk ob 8000 loose w := fun os => map_part (run1 w os) (map_part (run2 w os) (map_part (run3 w os) (map_part (run4 w os) (run5 w os))))
theorem bl : BindOk d_law 1 [] [.ps 0] := b0
end K45
set_option Elab.async false
set_option linter.all false
set_option maxRecDepth 100000
set_option maxHeartbeats 2000000
namespace K45
open Mp PySem
abbrev Γ : Pg := T.pg
def s_law (c : CallT) : MS := (sSeq (sSet 1 (eCall (c "_law_store") (aCons (eVar 0) (aCons (eC (.int (45))) aNil)))) (sSeq (sSet 2 (eCall (c "_law_between") (aCons (eVar 1) (aCons (eC (.int (1))) (aCons (eC (.int (16))) aNil))))) (sSeq (sSet 3 (eMake (c "Pipe.__init__") "Pipe" [.ps 0, .kw 0] aNil (aCons (eVar 2) aNil))) (sSeq (sSet 4 (eMake (c "Pipe.__init__") "Pipe" [.ps 0, .df (.int (4))] aNil aNil)) (sSeq (sSet 5 (eTup (aCons (eLst aNil) (aCons (eC (.int (0))) aNil)))) (sSeq (sSet 6 (eTup (aCons (eLst aNil) (aCons (eC (.int (0))) aNil)))) (sSeq (sIf (tOr (tNot (tE (eCall (c "_law_shown") (aCons (eVar 3) (aCons (eVar 2) (aCons (eLst aNil) (aCons (eC (.int (0))) aNil))))))) (tNot (tE (eCall (c "_law_shown") (aCons (eVar 4) (aCons (eC (.int (4))) (aCons (eLst aNil) (aCons (eC (.int (0))) aNil)))))))) (sRet (eC (.bl false))) sSkip) (sSeq (sIf (tE (eCmp .Eq (eCall (c "_law_take") (aCons (eVar 1) (aCons (eC (.int (3))) aNil))) (eC (.int (0))))) (sFor (.nm 7) (iVal (eCall (c "_law_words") (aCons (eVar 1) (aCons (eBin .Add (eVar 2) (eCall (c "_law_take") (aCons (eVar 1) (aCons (eC (.int (2))) aNil)))) aNil)))) (sSeq (sSet 5 (eCall (c "_law_step") (aCons (eVar 3) (aCons (eVar 2) (aCons (eIdx (eVar 5) (eC (.int (0)))) (aCons (eIdx (eVar 5) (eC (.int (1)))) (aCons (eTup (aCons (eC (.str "send")) (aCons (eVar 7) (aCons (eC (.int (1))) aNil)))) aNil))))))) (sIf (tE (eCmp .Is (eVar 5) (eC (.non)))) (sRet (eC (.bl false))) sSkip)) sSkip) sSkip) (sSeq (sFor (.nm 8) (iRng1 (eCall (c "_law_size") (aCons (eVar 1) (aCons (eC (.int (40))) aNil)))) (sSeq (sSet 9 (eCall (c "_law_drawn_call") (aCons (eVar 1) aNil))) (sSeq (sIf (tE (eCmp .Eq (eCall (c "_law_take") (aCons (eVar 1) (aCons (eC (.int (4))) aNil))) (eC (.int (0))))) (sSet 6 (eCall (c "_law_step") (aCons (eVar 4) (aCons (eC (.int (4))) (aCons (eIdx (eVar 6) (eC (.int (0)))) (aCons (eIdx (eVar 6) (eC (.int (1)))) (aCons (eVar 9) aNil))))))) (sSet 5 (eCall (c "_law_step") (aCons (eVar 3) (aCons (eVar 2) (aCons (eIdx (eVar 5) (eC (.int (0)))) (aCons (eIdx (eVar 5) (eC (.int (1)))) (aCons (eVar 9) aNil)))))))) (sSeq (sIf (tOr (tE (eCmp .Is (eVar 5) (eC (.non)))) (tOr (tE (eCmp .Is (eVar 6) (eC (.non)))) (tNot (tE (eCall (c "_law_shown") (aCons (eVar 3) (aCons (eVar 2) (aCons (eIdx (eVar 5) (eC (.int (0)))) (aCons (eIdx (eVar 5) (eC (.int (1)))) aNil))))))))) (sRet (eC (.bl false))) sSkip) (sIf (tNot (tE (eCall (c "_law_shown") (aCons (eVar 4) (aCons (eC (.int (4))) (aCons (eIdx (eVar 6) (eC (.int (0)))) (aCons (eIdx (eVar 6) (eC (.int (1)))) aNil))))))) (sRet (eC (.bl false))) sSkip)))) sSkip) (sSeq (sFor (.nm 8) (iRng1 (eBin .Mult (eCall (c "_law_take") (aCons (eVar 1) (aCons (eC (.int (2))) aNil))) (eC (.int (17))))) (sSeq (sSet 5 (eCall (c "_law_step") (aCons (eVar 3) (aCons (eVar 2) (aCons (eIdx (eVar 5) (eC (.int (0)))) (aCons (eIdx (eVar 5) (eC (.int (1)))) (aCons (eTup (aCons (eC (.str "receive")) aNil)) aNil))))))) (sIf (tE (eCmp .Is (eVar 5) (eC (.non)))) (sRet (eC (.bl false))) sSkip)) sSkip) (sSeq (sIf (tOr (tNot (tE (eCall (c "_law_paired") (aCons (eVar 3) (aCons (eSlice (eIdx (eVar 5) (eC (.int (0)))) (oSome (eIdx (eVar 5) (eC (.int (1))))) oNone) aNil))))) (tNot (tE (eCall (c "_law_paired") (aCons (eVar 4) (aCons (eSlice (eIdx (eVar 6) (eC (.int (0)))) (oSome (eIdx (eVar 6) (eC (.int (1))))) oNone) aNil)))))) (sRet (eC (.bl false))) sSkip) (sRet (eAnd (eCall (c "_law_shown") (aCons (eVar 3) (aCons (eVar 2) (aCons (eIdx (eVar 5) (eC (.int (0)))) (aCons (eIdx (eVar 5) (eC (.int (1)))) aNil))))) (eCall (c "_law_refuses") (aCons (eCall (c "_law_wrong_integer") (aCons (eVar 1) (aCons (eC (.int (1))) (aCons (eC (.int (16))) aNil)))) aNil)))))))))))))))
theorem c_law (d : Nat) (a0 : Val) (h : Mem) : callF Γ (d + 1) "law" [a0] h = fin (s_law (callF Γ d) [some a0, none, none, none, none, none, none, none, none, none] h) := by kernel_rfl
def s__law_refuses (c ch : CallT) : MS := (sSeq (sTry (subX Γ "WardError") [1] 1 (sExpr (eMake (c "Pipe.__init__") "Pipe" [.ps 0, .ps 1] (aCons (eVar 0) aNil) aNil)) (sRet (eCmp .Eq (eCallX (ch "_law_refusal") 1) (eTup (aCons (eC (.str "BadArgument")) (aCons (eC (.str "room")) aNil)))))) (sRet (eC (.bl false))))
theorem c__law_refuses (d : Nat) (a0 : Val) (h : Mem) : callF Γ (d + 1) "_law_refuses" [a0] h = fin (s__law_refuses (callF Γ d) (callB Γ d true) [some a0, none] h) := by kernel_rfl
abbrev s__law_wrong_integer : CallT → MS := L_wrong_integer
theorem c__law_wrong_integer (d : Nat) (a0 a1 a2 : Val) (h : Mem) : callF Γ (d + 1) "_law_wrong_integer" [a0, a1, a2] h = fin (s__law_wrong_integer (callF Γ d) [some a0, some a1, some a2, none, none] h) := by kernel_rfl
def s__law_shown (c : CallT) : MS := (sSeq (sIf (tNot (tE (eCall (c "_law_alike") (aCons (eLst (aCons (eVar 1) (aCons (eBin .Sub (eBi .len (aCons (eVar 2) aNil)) (eVar 3)) (aCons (eBi .len (aCons (eVar 2) aNil)) (aCons (eVar 3) aNil))))) (aCons (eLst (aCons (eAttr Γ c "room" (eVar 0)) (aCons (eAttr Γ c "size" (eVar 0)) (aCons (eAttr Γ c "sent" (eVar 0)) (aCons (eAttr Γ c "received" (eVar 0)) aNil))))) aNil))))) (sRet (eC (.bl false))) sSkip) (sSeq (sFor (.nm 4) (iRng1 (eC (.int (2)))) (sSeq (sIf (tNot (tE (eCall (c "_law_alike") (aCons (eSlice (eVar 2) (oSome (eVar 3)) oNone) (aCons (eListO Γ (aCons (eVar 0) aNil)) aNil))))) (sRet (eC (.bl false))) sSkip) (sSeq (sSet 5 (eVar 3)) (sSeq (sFor (.nm 6) (iValO Γ (eVar 0)) (sSeq (sIf (tOr (tE (eCmp .GtE (eVar 5) (eBi .len (aCons (eVar 2) aNil)))) (tNot (tE (eCall (c "_law_alike") (aCons (eIdx (eVar 2) (eVar 5)) (aCons (eVar 6) aNil)))))) (sRet (eC (.bl false))) sSkip) (sAug 5 .Add (eC (.int (1))))) sSkip) (sIf (tE (eCmp .NotEq (eVar 5) (eBi .len (aCons (eVar 2) aNil)))) (sRet (eC (.bl false))) sSkip)))) sSkip) (sRet (eC (.bl true)))))
theorem c__law_shown (d : Nat) (a0 a1 a2 a3 : Val) (h : Mem) : callF Γ (d + 1) "_law_shown" [a0, a1, a2, a3] h = fin (s__law_shown (callF Γ d) [some a0, some a1, some a2, some a3, none, none, none] h) := by kernel_rfl
def s__law_paired (c : CallT) : MS := (sSeq (sSet 2 (eC (.int (0)))) (sSeq (sSet 3 (eLst aNil)) (sSeq (sSet 4 (eLst aNil)) (sSeq (sFor (.nm 5) (iValO Γ (eVar 0)) (sSeq (sAug 2 .Add (eC (.int (1)))) (sSeq (sIf (tE (eCmp .Gt (eVar 2) (eBi .len (aCons (eVar 1) aNil)))) (sRet (eC (.bl false))) sSkip) (sSeq (sExpr (eMeth Γ c "extend" 1 [] (eVar 3) (aCons (eLcN 1 [6] (.nm 6) tYesM (eTup (aCons (eIdx (eVar 1) (eBin .Sub (eVar 2) (eC (.int (1))))) (aCons (eVar 6) aNil)))) aNil) aNil)) (sFor (.nm 6) (iValO Γ (eVar 0)) (sSeq (sIf (tE (eCmp .GtE (eBi .len (aCons (eVar 4) aNil)) (eBi .len (aCons (eVar 3) aNil)))) (sRet (eC (.bl false))) sSkip) (sExpr (eMeth Γ c "append" 1 [] (eVar 4) (aCons (eTup (aCons (eVar 5) (aCons (eVar 6) aNil))) aNil) aNil))) sSkip)))) sSkip) (sRet (eAnd (eCmp .Eq (eVar 2) (eBi .len (aCons (eVar 1) aNil))) (eCall (c "_law_alike") (aCons (eVar 3) (aCons (eVar 4) aNil)))))))))
theorem c__law_paired (d : Nat) (a0 a1 : Val) (h : Mem) : callF Γ (d + 1) "_law_paired" [a0, a1] h = fin (s__law_paired (callF Γ d) [some a0, some a1, none, none, none, none, none] h) := by kernel_rfl
def s__law_step (c : CallT) : MS := (sSeq (sSet 5 (eCall (c "_law_due") (aCons (eVar 4) (aCons (eVar 1) (aCons (eVar 2) (aCons (eVar 3) aNil)))))) (sSeq (sIf (tNot (tE (eCall (c "_law_alike") (aCons (eVar 5) (aCons (eCall (c "_law_called") (aCons (eVar 0) (aCons (eVar 4) aNil))) aNil))))) (sRet (eC (.non))) sSkip) (sSeq (sIf (tAnd (tE (eCmp .Eq (eIdx (eVar 4) (eC (.int (0)))) (eC (.str "send")))) (tE (eCall (c "_law_alike") (aCons (eVar 5) (aCons (eTup (aCons (eC (.str "answer")) (aCons (eC (.bl true)) aNil))) aNil))))) (sRet (eTup (aCons (eBin .Add (eVar 2) (eLst (aCons (eIdx (eVar 4) (eC (.int (1)))) aNil))) (aCons (eVar 3) aNil)))) sSkip) (sSeq (sIf (tAnd (tE (eCmp .Eq (eIdx (eVar 4) (eC (.int (0)))) (eC (.str "receive")))) (tE (eCmp .IsNot (eIdx (eVar 5) (eC (.int (1)))) (eC (.non))))) (sRet (eTup (aCons (eVar 2) (aCons (eBin .Add (eVar 3) (eC (.int (1)))) aNil)))) sSkip) (sRet (eTup (aCons (eVar 2) (aCons (eVar 3) aNil))))))))
theorem c__law_step (d : Nat) (a0 a1 a2 a3 a4 : Val) (h : Mem) : callF Γ (d + 1) "_law_step" [a0, a1, a2, a3, a4] h = fin (s__law_step (callF Γ d) [some a0, some a1, some a2, some a3, some a4, none] h) := by kernel_rfl
abbrev s__law_take : CallT → MS := L_take
theorem c__law_take (d : Nat) (a0 a1 : Val) (h : Mem) : callF Γ (d + 1) "_law_take" [a0, a1] h = fin (s__law_take (callF Γ d) [some a0, some a1, none, none] h) := by kernel_rfl
def s__law_drawn_call (c : CallT) : MS := (sSeq (sSet 1 (eCall (c "_law_take") (aCons (eVar 0) (aCons (eC (.int (20))) aNil)))) (sSeq (sIf (tE (eCmp .Eq (eVar 1) (eC (.int (0))))) (sRet (eTup (aCons (eC (.str "send")) (aCons (eCall (c "_law_wrong_integer") (aCons (eVar 0) (aCons (eC (.int (0))) (aCons (eC (.int (65535))) aNil)))) (aCons (eCall (c "_law_take") (aCons (eVar 0) (aCons (eC (.int (2))) aNil))) aNil))))) sSkip) (sSeq (sIf (tE (eCmp .Lt (eVar 1) (eC (.int (11))))) (sRet (eTup (aCons (eC (.str "send")) (aCons (eCall (c "_law_word") (aCons (eVar 0) aNil)) (aCons (eCall (c "_law_take") (aCons (eVar 0) (aCons (eC (.int (2))) aNil))) aNil))))) sSkip) (sRet (eTup (aCons (eC (.str "receive")) aNil))))))
theorem c__law_drawn_call (d : Nat) (a0 : Val) (h : Mem) : callF Γ (d + 1) "_law_drawn_call" [a0] h = fin (s__law_drawn_call (callF Γ d) [some a0, none] h) := by kernel_rfl
abbrev s__law_size : CallT → MS := L_size
theorem c__law_size (d : Nat) (a0 a1 : Val) (h : Mem) : callF Γ (d + 1) "_law_size" [a0, a1] h = fin (s__law_size (callF Γ d) [some a0, some a1, none] h) := by kernel_rfl
abbrev s__law_words : CallT → MS := L_words
theorem c__law_words (d : Nat) (a0 a1 : Val) (h : Mem) : callF Γ (d + 1) "_law_words" [a0, a1] h = fin (s__law_words (callF Γ d) [some a0, some a1, none, none] h) := by kernel_rfl
def s_Pipe___init__ (c : CallT) : MS := (sSeq (sIf (tNot (tE (eCall (c "whole_between") (aCons (eVar 1) (aCons (eC (.int (1))) (aCons (eC (.int (16))) aNil)))))) (sRaise (c "BadArgument.__init__") "BadArgument" ["name"] (aCons (eC (.str "room")) aNil)) sSkip) (sSeq (sSetAttr Γ "own_room" (eVar 0) (eVar 1)) (sSeq (sSetAttr Γ "own_words" (eVar 0) (eLst aNil)) (sSeq (sSetAttr Γ "own_sent" (eVar 0) (eC (.int (0)))) (sSetAttr Γ "own_received" (eVar 0) (eC (.int (0))))))))
theorem c_Pipe___init__ (d : Nat) (a0 a1 : Val) (h : Mem) : callF Γ (d + 1) "Pipe.__init__" [a0, a1] h = fin (s_Pipe___init__ (callF Γ d) [some a0, some a1] h) := by kernel_rfl
abbrev s__law_between : CallT → MS := L_between
theorem c__law_between (d : Nat) (a0 a1 a2 : Val) (h : Mem) : callF Γ (d + 1) "_law_between" [a0, a1, a2] h = fin (s__law_between (callF Γ d) [some a0, some a1, some a2, none, none] h) := by kernel_rfl
abbrev s__law_store : CallT → MS := L_store
theorem c__law_store (d : Nat) (a0 a1 : Val) (h : Mem) : callF Γ (d + 1) "_law_store" [a0, a1] h = fin (s__law_store (callF Γ d) [some a0, some a1, none, none] h) := by kernel_rfl
def h__law_refusal (c : CallT) : MS := (sSeq (sSet 1 (eLst aNil)) (sSeq (sIf (tE (eXis Γ 0 ["BadArgument"])) (sExpr (eMeth Γ c "append" 1 [] (eVar 1) (aCons (eTup (aCons (eC (.str "BadArgument")) (aCons (eXf Γ 0 "name") aNil))) aNil) aNil)) sSkip) (sSeq (sIf (tE (eXis Γ 0 ["SourceError", "Unknown", "Taken", "NotAllowed", "WrongState", "RingOfWaits", "Full", "Stopped"])) (sExpr (eMeth Γ c "append" 1 [] (eVar 1) (aCons (eTup (aCons (eC (.str "another")) aNil)) aNil) aNil)) sSkip) (sSeq (sIf (tOr (tE (eCmp .NotEq (eBi .len (aCons (eVar 1) aNil)) (eC (.int (1))))) (tNot (tE (eXis Γ 0 ["ValueError"])))) (sRet (eTup (aCons (eC (.str "unclear")) aNil))) sSkip) (sRet (eIdx (eVar 1) (eC (.int (0)))))))))
theorem ch__law_refusal (d : Nat) (a0 : Val) (h : Mem) : callB Γ (d + 1) true "_law_refusal" [a0] h = fin (h__law_refusal (callB Γ d true) [some a0, none] h) := by kernel_rfl
abbrev s__law_pick : CallT → MS := L_pick
theorem c__law_pick (d : Nat) (a0 a1 : Val) (h : Mem) : callF Γ (d + 1) "_law_pick" [a0, a1] h = fin (s__law_pick (callF Γ d) [some a0, some a1] h) := by kernel_rfl
def s_Pipe___iter__ (c : CallT) : MS := (sRet eBad)
theorem c_Pipe___iter__ (d : Nat) (a0 : Val) (h : Mem) : callF Γ (d + 1) "Pipe.__iter__" [a0] h = fin (s_Pipe___iter__ (callF Γ d) [some a0] h) := by kernel_rfl
abbrev s__law_alike : CallT → MS := L_alike
theorem c__law_alike (d : Nat) (a0 a1 : Val) (h : Mem) : callF Γ (d + 1) "_law_alike" [a0, a1] h = fin (s__law_alike (callF Γ d) [some a0, some a1, none] h) := by kernel_rfl
def s_Pipe_received (c : CallT) : MS := (sRet (eAttr Γ c "own_received" (eVar 0)))
theorem c_Pipe_received (d : Nat) (a0 : Val) (h : Mem) : callF Γ (d + 1) "Pipe.received" [a0] h = fin (s_Pipe_received (callF Γ d) [some a0] h) := by kernel_rfl
def s_Pipe_sent (c : CallT) : MS := (sRet (eAttr Γ c "own_sent" (eVar 0)))
theorem c_Pipe_sent (d : Nat) (a0 : Val) (h : Mem) : callF Γ (d + 1) "Pipe.sent" [a0] h = fin (s_Pipe_sent (callF Γ d) [some a0] h) := by kernel_rfl
def s_Pipe_size (c : CallT) : MS := (sRet (eBi .len (aCons (eAttr Γ c "own_words" (eVar 0)) aNil)))
theorem c_Pipe_size (d : Nat) (a0 : Val) (h : Mem) : callF Γ (d + 1) "Pipe.size" [a0] h = fin (s_Pipe_size (callF Γ d) [some a0] h) := by kernel_rfl
def s_Pipe_room (c : CallT) : MS := (sRet (eAttr Γ c "own_room" (eVar 0)))
theorem c_Pipe_room (d : Nat) (a0 : Val) (h : Mem) : callF Γ (d + 1) "Pipe.room" [a0] h = fin (s_Pipe_room (callF Γ d) [some a0] h) := by kernel_rfl
def s__law_called (c ch : CallT) : MS := (sTry (subX Γ "WardError") [2] 2 (sSeq (sIf (tAnd (tE (eCmp .Eq (eIdx (eVar 1) (eC (.int (0)))) (eC (.str "send")))) (tE (eCmp .Eq (eIdx (eVar 1) (eC (.int (2)))) (eC (.int (0)))))) (sRet (eTup (aCons (eC (.str "answer")) (aCons (eMeth Γ c "send" 0 ["word"] (eVar 0) aNil (aCons (eIdx (eVar 1) (eC (.int (1)))) aNil)) aNil)))) sSkip) (sSeq (sIf (tE (eCmp .Eq (eIdx (eVar 1) (eC (.int (0)))) (eC (.str "send")))) (sRet (eTup (aCons (eC (.str "answer")) (aCons (eMeth Γ c "send" 1 [] (eVar 0) (aCons (eIdx (eVar 1) (eC (.int (1)))) aNil) aNil) aNil)))) sSkip) (sRet (eTup (aCons (eC (.str "answer")) (aCons (eMeth Γ c "receive" 0 [] (eVar 0) aNil aNil) aNil)))))) (sRet (eCallX (ch "_law_refusal") 2)))
theorem c__law_called (d : Nat) (a0 a1 : Val) (h : Mem) : callF Γ (d + 1) "_law_called" [a0, a1] h = fin (s__law_called (callF Γ d) (callB Γ d true) [some a0, some a1, none] h) := by kernel_rfl
def s__law_due (c : CallT) : MS := (sSeq (sIf (tE (eCmp .Eq (eIdx (eVar 0) (eC (.int (0)))) (eC (.str "send")))) (sSeq (sIf (tNot (tE (eCall (c "_law_is_integer") (aCons (eIdx (eVar 0) (eC (.int (1)))) (aCons (eC (.int (0))) (aCons (eC (.int (65535))) aNil)))))) (sRet (eTup (aCons (eC (.str "BadArgument")) (aCons (eC (.str "word")) aNil)))) sSkip) (sRet (eTup (aCons (eC (.str "answer")) (aCons (eCmp .Lt (eBin .Sub (eBi .len (aCons (eVar 2) aNil)) (eVar 3)) (eVar 1)) aNil))))) sSkip) (sSeq (sIf (tE (eCmp .Eq (eVar 3) (eBi .len (aCons (eVar 2) aNil)))) (sRet (eTup (aCons (eC (.str "answer")) (aCons (eC (.non)) aNil)))) sSkip) (sRet (eTup (aCons (eC (.str "answer")) (aCons (eIdx (eVar 2) (eVar 3)) aNil))))))
theorem c__law_due (d : Nat) (a0 a1 a2 a3 : Val) (h : Mem) : callF Γ (d + 1) "_law_due" [a0, a1, a2, a3] h = fin (s__law_due (callF Γ d) [some a0, some a1, some a2, some a3] h) := by kernel_rfl
abbrev s__law_mixed : CallT → MS := L_mixed
theorem c__law_mixed (d : Nat) (a0 a1 a2 : Val) (h : Mem) : callF Γ (d + 1) "_law_mixed" [a0, a1, a2] h = fin (s__law_mixed (callF Γ d) [some a0, some a1, some a2, none, none, none] h) := by kernel_rfl
abbrev s__law_word : CallT → MS := L_word
theorem c__law_word (d : Nat) (a0 : Val) (h : Mem) : callF Γ (d + 1) "_law_word" [a0] h = fin (s__law_word (callF Γ d) [some a0, none] h) := by kernel_rfl
abbrev s_copy_of : CallT → MS := L_copy_of
theorem c_copy_of (d : Nat) (a0 : Val) (h : Mem) : callF Γ (d + 1) "copy_of" [a0] h = fin (s_copy_of (callF Γ d) [some a0, none] h) := by kernel_rfl
def s_whole_between (c : CallT) : MS := (sSeq (sIf (tOr (tE (eIsi ["bool"] (eVar 0))) (tNot (tE (eIsi ["int"] (eVar 0))))) (sRet (eC (.bl false))) sSkip) (sRet (eChain .LtE .LtE (eVar 1) (eVar 0) (eVar 2))))
theorem c_whole_between (d : Nat) (a0 a1 a2 : Val) (h : Mem) : callF Γ (d + 1) "whole_between" [a0, a1, a2] h = fin (s_whole_between (callF Γ d) [some a0, some a1, some a2] h) := by kernel_rfl
def s_Pipe_receive (c : CallT) : MS := (sSeq (sIf (tNot (tE (eAttr Γ c "own_words" (eVar 0)))) (sRet (eC (.non))) sSkip) (sSeq (sAugAttr Γ "own_received" (eVar 0) .Add (eC (.int (1)))) (sRet (eMeth Γ c "pop" 1 [] (eAttr Γ c "own_words" (eVar 0)) (aCons (eC (.int (0))) aNil) aNil))))
theorem c_Pipe_receive (d : Nat) (a0 : Val) (h : Mem) : callF Γ (d + 1) "Pipe.receive" [a0] h = fin (s_Pipe_receive (callF Γ d) [some a0] h) := by kernel_rfl
def s_Pipe_send (c : CallT) : MS := (sSeq (sIf (tNot (tE (eCall (c "whole_between") (aCons (eVar 1) (aCons (eC (.int (0))) (aCons (eC (.int (65535))) aNil)))))) (sRaise (c "BadArgument.__init__") "BadArgument" ["name"] (aCons (eC (.str "word")) aNil)) sSkip) (sSeq (sIf (tE (eCmp .GtE (eBi .len (aCons (eAttr Γ c "own_words" (eVar 0)) aNil)) (eAttr Γ c "own_room" (eVar 0)))) (sRet (eC (.bl false))) sSkip) (sSeq (sExpr (eMeth Γ c "append" 1 [] (eAttr Γ c "own_words" (eVar 0)) (aCons (eVar 1) aNil) aNil)) (sSeq (sAugAttr Γ "own_sent" (eVar 0) .Add (eC (.int (1)))) (sRet (eC (.bl true)))))))
theorem c_Pipe_send (d : Nat) (a0 a1 : Val) (h : Mem) : callF Γ (d + 1) "Pipe.send" [a0, a1] h = fin (s_Pipe_send (callF Γ d) [some a0, some a1] h) := by kernel_rfl
def s__law_is_integer (c : CallT) : MS := (sRet (eAnd (eIsi ["int"] (eVar 0)) (eAnd (eNot (eIsi ["bool"] (eVar 0))) (eChain .LtE .LtE (eVar 1) (eVar 0) (eVar 2)))))
theorem c__law_is_integer (d : Nat) (a0 a1 a2 : Val) (h : Mem) : callF Γ (d + 1) "_law_is_integer" [a0, a1, a2] h = fin (s__law_is_integer (callF Γ d) [some a0, some a1, some a2] h) := by kernel_rfl
theorem ci_BadArgument (d : Nat) (v : Val) (h : Mem) : callF Γ (d + 1) "BadArgument.__init__" [v] h = (callF Γ d "copy_of" [v] h).bind fun y h => .ok (.tup [y]) h := by kernel_rfl
@[simp] theorem sx_WardError_BadArgument : subX Γ "WardError" "BadArgument" = some true := by kernel_rfl
@[simp] theorem xb0_BadArgument : xisB Γ "BadArgument" ["BadArgument"] = some true := by kernel_rfl
@[simp] theorem xb1_BadArgument : xisB Γ "BadArgument" ["SourceError", "Unknown", "Taken", "NotAllowed", "WrongState", "RingOfWaits", "Full", "Stopped"] = some false := by kernel_rfl
@[simp] theorem xb2_BadArgument : xisB Γ "BadArgument" ["ValueError"] = some true := by kernel_rfl
@[simp] theorem xf_BadArgument : xflB Γ "BadArgument" "name" = some true := by kernel_rfl
@[simp] theorem xg_BadArgument (v : Val) : ([("name", v)] : List (Str × Val)).lookup (("name") : Str) = some v := by kernel_rfl
@[simp] theorem fg_Pipe_own_room (v0 v1 v2 v3 : Val) : fget [("own_room", v0), ("own_words", v1), ("own_sent", v2), ("own_received", v3)] "own_room" = some v0 := by kernel_rfl
@[simp] theorem pf_Pipe_own_room (v0 v1 v2 v3 v : Val) : putFd "own_room" v [("own_room", v0), ("own_words", v1), ("own_sent", v2), ("own_received", v3)] = ([("own_room", v), ("own_words", v1), ("own_sent", v2), ("own_received", v3)] : List (Str × Val)) := by kernel_rfl
@[simp] theorem pi_Pipe_own_room (v : Val) : putFd "own_room" v [] = ([("own_room", v)] : List (Str × Val)) := by kernel_rfl
@[simp] theorem fg_Pipe_own_words (v0 v1 v2 v3 : Val) : fget [("own_room", v0), ("own_words", v1), ("own_sent", v2), ("own_received", v3)] "own_words" = some v1 := by kernel_rfl
@[simp] theorem pf_Pipe_own_words (v0 v1 v2 v3 v : Val) : putFd "own_words" v [("own_room", v0), ("own_words", v1), ("own_sent", v2), ("own_received", v3)] = ([("own_room", v0), ("own_words", v), ("own_sent", v2), ("own_received", v3)] : List (Str × Val)) := by kernel_rfl
@[simp] theorem pi_Pipe_own_words (v0 v : Val) : putFd "own_words" v [("own_room", v0)] = ([("own_room", v0), ("own_words", v)] : List (Str × Val)) := by kernel_rfl
@[simp] theorem fg_Pipe_own_sent (v0 v1 v2 v3 : Val) : fget [("own_room", v0), ("own_words", v1), ("own_sent", v2), ("own_received", v3)] "own_sent" = some v2 := by kernel_rfl
@[simp] theorem pf_Pipe_own_sent (v0 v1 v2 v3 v : Val) : putFd "own_sent" v [("own_room", v0), ("own_words", v1), ("own_sent", v2), ("own_received", v3)] = ([("own_room", v0), ("own_words", v1), ("own_sent", v), ("own_received", v3)] : List (Str × Val)) := by kernel_rfl
@[simp] theorem pi_Pipe_own_sent (v0 v1 v : Val) : putFd "own_sent" v [("own_room", v0), ("own_words", v1)] = ([("own_room", v0), ("own_words", v1), ("own_sent", v)] : List (Str × Val)) := by kernel_rfl
@[simp] theorem fg_Pipe_own_received (v0 v1 v2 v3 : Val) : fget [("own_room", v0), ("own_words", v1), ("own_sent", v2), ("own_received", v3)] "own_received" = some v3 := by kernel_rfl
@[simp] theorem pf_Pipe_own_received (v0 v1 v2 v3 v : Val) : putFd "own_received" v [("own_room", v0), ("own_words", v1), ("own_sent", v2), ("own_received", v3)] = ([("own_room", v0), ("own_words", v1), ("own_sent", v2), ("own_received", v)] : List (Str × Val)) := by kernel_rfl
@[simp] theorem pi_Pipe_own_received (v0 v1 v2 v : Val) : putFd "own_received" v [("own_room", v0), ("own_words", v1), ("own_sent", v2)] = ([("own_room", v0), ("own_words", v1), ("own_sent", v2), ("own_received", v)] : List (Str × Val)) := by kernel_rfl
@[simp] theorem fm_Pipe_send (v0 v1 v2 v3 : Val) : fget [("own_room", v0), ("own_words", v1), ("own_sent", v2), ("own_received", v3)] "send" = none := by kernel_rfl
@[simp] theorem fm_Pipe_receive (v0 v1 v2 v3 : Val) : fget [("own_room", v0), ("own_words", v1), ("own_sent", v2), ("own_received", v3)] "receive" = none := by kernel_rfl
@[simp] theorem fm_Pipe___iter__ (v0 v1 v2 v3 : Val) : fget [("own_room", v0), ("own_words", v1), ("own_sent", v2), ("own_received", v3)] "__iter__" = none := by kernel_rfl
@[simp] theorem at_Pipe_own_room (c : CallT) (fs : List (Str × Val)) (v : Val) (h : Mem) : attrIn Γ c "own_room" "Pipe" fs v h = Res.opt (fget fs "own_room") h := by kernel_rfl
@[simp] theorem set_Pipe_own_room (fs : List (Str × Val)) (n : Nat) (v : Val) (h : Mem) : setIn Γ "own_room" "Pipe" fs n v h = if fs.length < 1000 then .ok .non (h.set n (.ins "Pipe" (putFd "own_room" v fs))) else .bad := by
  show (if (true && decide (fs.length < 1000)) = true then _ else _) = _
  simp
@[simp] theorem at_Pipe_own_words (c : CallT) (fs : List (Str × Val)) (v : Val) (h : Mem) : attrIn Γ c "own_words" "Pipe" fs v h = Res.opt (fget fs "own_words") h := by kernel_rfl
@[simp] theorem set_Pipe_own_words (fs : List (Str × Val)) (n : Nat) (v : Val) (h : Mem) : setIn Γ "own_words" "Pipe" fs n v h = if fs.length < 1000 then .ok .non (h.set n (.ins "Pipe" (putFd "own_words" v fs))) else .bad := by
  show (if (true && decide (fs.length < 1000)) = true then _ else _) = _
  simp
@[simp] theorem at_Pipe_own_sent (c : CallT) (fs : List (Str × Val)) (v : Val) (h : Mem) : attrIn Γ c "own_sent" "Pipe" fs v h = Res.opt (fget fs "own_sent") h := by kernel_rfl
@[simp] theorem set_Pipe_own_sent (fs : List (Str × Val)) (n : Nat) (v : Val) (h : Mem) : setIn Γ "own_sent" "Pipe" fs n v h = if fs.length < 1000 then .ok .non (h.set n (.ins "Pipe" (putFd "own_sent" v fs))) else .bad := by
  show (if (true && decide (fs.length < 1000)) = true then _ else _) = _
  simp
@[simp] theorem at_Pipe_own_received (c : CallT) (fs : List (Str × Val)) (v : Val) (h : Mem) : attrIn Γ c "own_received" "Pipe" fs v h = Res.opt (fget fs "own_received") h := by kernel_rfl
@[simp] theorem set_Pipe_own_received (fs : List (Str × Val)) (n : Nat) (v : Val) (h : Mem) : setIn Γ "own_received" "Pipe" fs n v h = if fs.length < 1000 then .ok .non (h.set n (.ins "Pipe" (putFd "own_received" v fs))) else .bad := by
  show (if (true && decide (fs.length < 1000)) = true then _ else _) = _
  simp
@[simp] theorem at_Pipe_room (c : CallT) (fs : List (Str × Val)) (v : Val) (h : Mem) : attrIn Γ c "room" "Pipe" fs v h = (c "Pipe.room" [v] h).shut := by kernel_rfl
@[simp] theorem at_Pipe_size (c : CallT) (fs : List (Str × Val)) (v : Val) (h : Mem) : attrIn Γ c "size" "Pipe" fs v h = (c "Pipe.size" [v] h).shut := by kernel_rfl
@[simp] theorem at_Pipe_sent (c : CallT) (fs : List (Str × Val)) (v : Val) (h : Mem) : attrIn Γ c "sent" "Pipe" fs v h = (c "Pipe.sent" [v] h).shut := by kernel_rfl
@[simp] theorem at_Pipe_received (c : CallT) (fs : List (Str × Val)) (v : Val) (h : Mem) : attrIn Γ c "received" "Pipe" fs v h = (c "Pipe.received" [v] h).shut := by kernel_rfl
@[simp] theorem me1_Pipe___iter__ (c : CallT) (fs : List (Str × Val)) (as kas : MA) (ρ : Mp.Env) (v : Val) (h : Mem) : methIn Γ c "__iter__" 0 [] "Pipe" fs as kas ρ v h = if (fget fs "__iter__").isNone then (as ρ h).bind fun us h => (kas ρ h).bind fun ws h => (Res.opt (selV (v :: us) ws [.ps 0]) h).bind (c "Pipe.__iter__") else .bad := by kernel_rfl
@[simp] theorem me2_Pipe_receive (c : CallT) (fs : List (Str × Val)) (as kas : MA) (ρ : Mp.Env) (v : Val) (h : Mem) : methIn Γ c "receive" 0 [] "Pipe" fs as kas ρ v h = if (fget fs "receive").isNone then (as ρ h).bind fun us h => (kas ρ h).bind fun ws h => (Res.opt (selV (v :: us) ws [.ps 0]) h).bind (c "Pipe.receive") else .bad := by kernel_rfl
@[simp] theorem me3_Pipe_send (c : CallT) (fs : List (Str × Val)) (as kas : MA) (ρ : Mp.Env) (v : Val) (h : Mem) : methIn Γ c "send" 1 [] "Pipe" fs as kas ρ v h = if (fget fs "send").isNone then (as ρ h).bind fun us h => (kas ρ h).bind fun ws h => (Res.opt (selV (v :: us) ws [.ps 0, .ps 1]) h).bind (c "Pipe.send") else .bad := by kernel_rfl
@[simp] theorem me4_Pipe_send (c : CallT) (fs : List (Str × Val)) (as kas : MA) (ρ : Mp.Env) (v : Val) (h : Mem) : methIn Γ c "send" 0 ["word"] "Pipe" fs as kas ρ v h = if (fget fs "send").isNone then (as ρ h).bind fun us h => (kas ρ h).bind fun ws h => (Res.opt (selV (v :: us) ws [.ps 0, .kw 0]) h).bind (c "Pipe.send") else .bad := by kernel_rfl
end K45
set_option Elab.async false
set_option linter.all false
set_option maxRecDepth 100000
set_option maxHeartbeats 1000000
namespace Mp
open PySem L2
/-! ### _law_alike of other data -/
def SpAlkN (n : Nat) (m : List Val → Mem → Res Val) : Prop := ∀ (p p' : Nat → Prop) (v w : Val) (t u : Dt) (h : Mem), Rd p h n v t → Rd p' h n w u → t ≠ u → m [v, w] h = .ok (.bl false) h
theorem ne_at {ts us : List Dt} (hl : ts.length = us.length) (k : Nat) (hk : k = ts.length) (e : ∀ j : Nat, j < k → ts[j]? = us[j]?) : ts = us := by
  refine List.ext_getElem? fun j => ?_
  by_cases hj : j < ts.length
  · exact e j (by omega)
  · rw [List.getElem?_eq_none (by omega), List.getElem?_eq_none (by omega)]
theorem sp_alikeN {c : CallT} {n : Nat} (ihA : ∀ k, k < n → SpAlk k (c "_law_alike")) (ih : ∀ k, k < n → SpAlkN k (c "_law_alike")) : SpAlkN n fun args h => fin (L_alike c (args.map some ++ [none]) h) := by
  intro p p' v w t u h r s ne
  refine W_eq ?_
  simp only [W_fin, L_alike]
  cases r with
  | non => cases s <;> first | exact absurd rfl ne | simp
  | bl b =>
    cases s with
    | bl b' =>
      have : b ≠ b' := fun z => ne (by rw [z])
      simp [subTy, this]
    | lst a xs ts pa e hl hs ha => simp [subTy, e]
    | _ => simp [subTy]
  | int i =>
    cases s with
    | int j =>
      have : i ≠ j := fun z => ne (by rw [z])
      simp [subTy, this]
    | lst a xs ts pa e hl hs ha => simp [subTy, e]
    | _ => simp [subTy]
  | str x hx =>
    cases s with
    | str y hy =>
      have : x ≠ y := fun z => ne (by rw [z])
      simp [subTy, cmp_eq_str hx hy, this]
    | lst a xs ts pa e hl hs ha => simp [subTy, e]
    | _ => simp [subTy]
  | @tup k xs ts hl hs ha =>
    cases s with
    | tup ys us hl' hs' ha' =>
      simp [subTy]
      by_cases hll : xs.length = ys.length
      · simp [hll]
        refine ⟨by unfold small62; simp; omega, ?_⟩
        refine for_rng (fun i ρ h' => h' = h ∧ (∃ z, ρ = [some (.tup xs), some (.tup ys), z]) ∧ ∀ j : Nat, j < i → ts[j]? = us[j]?) ⟨rfl, ⟨_, rfl⟩, fun j hj => absurd hj (by omega)⟩ ?_ ?_
        · rintro i ρ h' hi ⟨rfl, ⟨z, rfl⟩, pre⟩
          have hi' : i < xs.length := by omega
          have hi2 : i < ys.length := by omega
          have ht : i < ts.length := by omega
          have hu : i < us.length := by omega
          by_cases eq : ts[i] = us[i]
          · have r1 := ha i xs[i] ts[i] (by simp [hi']) (by simp [ht])
            have r2 := ha' i ys[i] us[i] (by simp [hi2]) (by simp [hu])
            rw [← eq] at r2
            have := ihA k (by omega) xs[i] ys[i] h' (r1.alk r2)
            simp [Mp.atI_nat, hi', hi2, this]
            intro j hj
            by_cases hji : j = i
            · subst hji
              simp [ht, hu, eq]
            · exact pre j (by omega)
          · have := ih k (by omega) p p' xs[i] ys[i] ts[i] us[i] h' (ha i xs[i] ts[i] (by simp [hi']) (by simp [ht])) (ha' i ys[i] us[i] (by simp [hi2]) (by simp [hu])) eq
            simp [Mp.atI_nat, hi', hi2, this]
        · rintro ρ h' ⟨rfl, ⟨z, rfl⟩, pre⟩
          exact absurd (congrArg Dt.tup (ne_at (by omega) _ (by omega) pre)) ne
      · simp [hll, show ¬ (xs.length : Int) = (ys.length : Int) by omega]
    | lst a xs ts pa e hl hs ha => simp [subTy, e]
    | _ => simp [subTy]
  | @lst k a xs ts pa e1 hl hs ha =>
    cases s with
    | lst b ys us pb e2 hl' hs' ha' =>
      simp [subTy, e1, e2]
      by_cases hll : xs.length = ys.length
      · simp [hll]
        refine ⟨by unfold small62; simp; omega, ?_⟩
        refine for_rng (fun i ρ h' => h' = h ∧ (∃ z, ρ = [some (.ref a), some (.ref b), z]) ∧ ∀ j : Nat, j < i → ts[j]? = us[j]?) ⟨rfl, ⟨_, rfl⟩, fun j hj => absurd hj (by omega)⟩ ?_ ?_
        · rintro i ρ h' hi ⟨rfl, ⟨z, rfl⟩, pre⟩
          have hi' : i < xs.length := by omega
          have hi2 : i < ys.length := by omega
          have ht : i < ts.length := by omega
          have hu : i < us.length := by omega
          by_cases eq : ts[i] = us[i]
          · have r1 := ha i xs[i] ts[i] (by simp [hi']) (by simp [ht])
            have r2 := ha' i ys[i] us[i] (by simp [hi2]) (by simp [hu])
            rw [← eq] at r2
            have := ihA k (by omega) xs[i] ys[i] h' (r1.alk r2)
            simp [Mp.atI_nat, hi', hi2, this, e1, e2]
            intro j hj
            by_cases hji : j = i
            · subst hji
              simp [ht, hu, eq]
            · exact pre j (by omega)
          · have := ih k (by omega) p p' xs[i] ys[i] ts[i] us[i] h' (ha i xs[i] ts[i] (by simp [hi']) (by simp [ht])) (ha' i ys[i] us[i] (by simp [hi2]) (by simp [hu])) eq
            simp [Mp.atI_nat, hi', hi2, this, e1, e2]
        · rintro ρ h' ⟨rfl, ⟨z, rfl⟩, pre⟩
          exact absurd (congrArg Dt.lst (ne_at (by omega) _ (by omega) pre)) ne
      · simp [hll, show ¬ (xs.length : Int) = (ys.length : Int) by omega]
    | tup ys us hl' hs' ha' => simp [subTy, e1]
    | _ => simp [subTy, e1]
end Mp
set_option Elab.async false
set_option linter.all false
set_option maxRecDepth 100000
set_option maxHeartbeats 2000000
namespace Mp
open PySem L2
def pdOf : Val → PyData
  | .str z => .str z
  | .int i => .int i
  | _ => .none
def flt (v : Val) : Prop := (∃ z, v = .str z ∧ SeqAt.shaped (.str z) = true) ∨ ∃ i, v = .int i
theorem rd_flt {h : Mem} {n : Nat} {v : Val} (f : flt v) : rd h (n + 1) v = some (pdOf v) := by
  rcases f with ⟨z, rfl, _⟩ | ⟨i, rfl⟩ <;> rfl
theorem shp_flt {v : Val} (f : flt v) : PyData.canLay0 (pdOf v) = true := by
  rcases f with ⟨z, rfl, hz⟩ | ⟨i, rfl⟩
  · exact SeqAt.canLay_of_shaped hz
  · rfl
theorem eqv_flt {v w : Val} (f : flt v) (g : flt w) : PyData.eqv (pdOf v) (pdOf w) = true ↔ v = w := by
  rcases f with ⟨z, rfl, _⟩ | ⟨i, rfl⟩ <;> rcases g with ⟨y, rfl, _⟩ | ⟨j, rfl⟩
  · show (z == y) = true ↔ _
    simp
  · show false = true ↔ _
    simp
  · show false = true ↔ _
    simp
  · show (i == j) = true ↔ _
    simp
theorem rds_flt {h : Mem} : ∀ {vs : List Val} {n : Nat}, (∀ v, v ∈ vs → flt v) → vs.length < n → rds h n vs = some (vs.map pdOf)
  | [], n + 1, _, _ => rfl
  | [], 0, _, hn => absurd hn (Nat.not_lt_zero _)
  | v :: vs, 0, _, hn => absurd hn (Nat.not_lt_zero _)
  | v :: vs, n + 1, hf, hn => by
    have ih := rds_flt (h := h) (vs := vs) (n := n) (fun w hw => hf w (List.mem_cons_of_mem _ hw)) (by simp at hn; omega)
    obtain ⟨m, rfl⟩ : ∃ m, n = m + 1 := ⟨n - 1, by simp at hn; omega⟩
    unfold rds
    rw [rd_flt (hf v (List.mem_cons_self ..)), ih]
    rfl
theorem shps_flt : ∀ {vs : List Val}, (∀ v, v ∈ vs → flt v) → PyData.canLayAll0 (vs.map pdOf) = true
  | [], _ => rfl
  | v :: vs, hf => by
    show (PyData.canLay0 (pdOf v) && PyData.canLayAll0 (vs.map pdOf)) = true
    rw [shp_flt (hf v (List.mem_cons_self ..)), shps_flt fun w hw => hf w (List.mem_cons_of_mem _ hw)]
    rfl
theorem eqvs_flt : ∀ {vs ws : List Val}, (∀ v, v ∈ vs → flt v) → (∀ v, v ∈ ws → flt v) → (PyData.eqvAll (vs.map pdOf) (ws.map pdOf) = true ↔ vs = ws)
  | [], [], _, _ => by simp [PyData.eqvAll]
  | [], w :: ws, _, _ => by simp [PyData.eqvAll]
  | v :: vs, [], _, _ => by simp [PyData.eqvAll]
  | v :: vs, w :: ws, hv, hw => by
    show (PyData.eqv (pdOf v) (pdOf w) && PyData.eqvAll (vs.map pdOf) (ws.map pdOf)) = true ↔ _
    rw [Bool.and_eq_true, eqv_flt (hv v (List.mem_cons_self ..)) (hw w (List.mem_cons_self ..)), eqvs_flt (fun u hu => hv u (List.mem_cons_of_mem _ hu)) fun u hu => hw u (List.mem_cons_of_mem _ hu)]
    simp
theorem dep0 (v : Val) : (pdOf v).depth = 0 := by cases v <;> rfl
theorem deps0 : ∀ vs : List Val, PyData.depthAll (vs.map pdOf) = 0
  | [] => rfl
  | v :: vs => by
    show max ((pdOf v).depth) (PyData.depthAll (vs.map pdOf)) = 0
    rw [dep0, deps0 vs]
    rfl
theorem dep_flt {vs : List Val} : (PyData.tuple (vs.map pdOf)).depth ≤ 64 := by
  show PyData.depthAll (vs.map pdOf) + 1 ≤ 64
  rw [deps0]
  omega
theorem rdS_flt {h : Mem} {vs : List Val} (hf : ∀ v, v ∈ vs → flt v) (hl : vs.length < 100) : rdS h (.tup vs) = some (.tuple (vs.map pdOf)) := by
  unfold rdS
  have : rd h 20000 (.tup vs) = some (.tuple (vs.map pdOf)) := by
    show (rds h 19999 vs).map PyData.tuple = _
    rw [rds_flt hf (by omega)]
    rfl
  rw [this]
  have hs : SeqAt.shaped (.tuple (vs.map pdOf)) = true := by
    unfold SeqAt.shaped
    rw [show PyData.canLay0 (.tuple (vs.map pdOf)) = PyData.canLayAll0 (vs.map pdOf) from rfl, shps_flt hf, decide_eq_true dep_flt]
    rfl
  simp only [hs, if_true]
theorem cmp_flt {h : Mem} {vs ws : List Val} (hv : ∀ v, v ∈ vs → flt v) (hw : ∀ v, v ∈ ws → flt v) (lv : vs.length < 100) (lw : ws.length < 100) : ∃ b, cmpop .Eq h (.tup vs) (.tup ws) = some b ∧ (b = true ↔ vs = ws) := by
  refine ⟨_, ?_, eqvs_flt hv hw⟩
  simp only [cmpop, rdS_flt hv lv, rdS_flt hw lw]
  rfl
end Mp
set_option Elab.async false
set_option linter.all false
set_option maxRecDepth 100000
set_option maxHeartbeats 1000000
namespace K45
open Mp PySem L2
/-! ### draws -/
theorem mixed_ok {e : Nat} (he : 1 ≤ e) : SpMixed (callF Γ e "_law_mixed") := by
  obtain ⟨d, rfl⟩ : ∃ d, e = d + 1 := ⟨e - 1, by omega⟩
  intro i t k h hk
  rw [c__law_mixed]
  exact sp_mixed _ i t k h hk
theorem take_ok {e : Nat} (he : 2 ≤ e) : SpTake (callF Γ e "_law_take") := by
  obtain ⟨d, rfl⟩ : ∃ d, e = d + 1 := ⟨e - 1, by omega⟩
  intro k h st hk
  rw [c__law_take]
  exact sp_take (mixed_ok (by omega)) k h st hk
theorem between_ok {e : Nat} (he : 3 ≤ e) : SpBetween (callF Γ e "_law_between") := by
  obtain ⟨d, rfl⟩ : ∃ d, e = d + 1 := ⟨e - 1, by omega⟩
  intro a b h st h1 h2
  rw [c__law_between]
  exact sp_between (take_ok (by omega)) a b h st h1 h2
theorem size_ok {e : Nat} (he : 3 ≤ e) : SpSize (callF Γ e "_law_size") := by
  obtain ⟨d, rfl⟩ : ∃ d, e = d + 1 := ⟨e - 1, by omega⟩
  intro a h st h1 h2
  rw [c__law_size]
  exact sp_size (take_ok (by omega)) a h st h1 h2
theorem pick_ok {e : Nat} (he : 3 ≤ e) : SpPick (callF Γ e "_law_pick") := by
  obtain ⟨d, rfl⟩ : ∃ d, e = d + 1 := ⟨e - 1, by omega⟩
  intro n xs h st h1 h2 h3 h4
  rw [c__law_pick]
  exact sp_pick (take_ok (by omega)) n xs h st h1 h2 h3 h4
theorem alike_ok : ∀ (n e : Nat), n < e → SpAlk n (callF Γ e "_law_alike") := by
  intro n
  induction n using Nat.strongRecOn with
  | _ n ih =>
    intro e he
    obtain ⟨d, rfl⟩ : ∃ d, e = d + 1 := ⟨e - 1, by omega⟩
    intro v w h A
    rw [c__law_alike]
    exact sp_alike (fun k hk => ih k hk d (by omega)) v w h A
theorem word_ok {e : Nat} (he : 4 ≤ e) : SpWord (callF Γ e "_law_word") := by
  obtain ⟨d, rfl⟩ : ∃ d, e = d + 1 := ⟨e - 1, by omega⟩
  intro h st Q X q
  rw [c__law_word]
  exact sp_word (take_ok (by omega)) (pick_ok (by omega)) h st q
theorem words_ok {e : Nat} (he : 5 ≤ e) : SpWords (callF Γ e "_law_words") := by
  obtain ⟨d, rfl⟩ : ∃ d, e = d + 1 := ⟨e - 1, by omega⟩
  intro n h st hn Q X q
  rw [c__law_words]
  exact sp_words (take_ok (by omega)) (word_ok (by omega)) n h st hn q
theorem wrongi_ok {e : Nat} (he : 4 ≤ e) : SpWrongI (callF Γ e "_law_wrong_integer") := by
  obtain ⟨d, rfl⟩ : ∃ d, e = d + 1 := ⟨e - 1, by omega⟩
  intro lo hi h st b1 b2 b3 b4 b5 b6 Q X q
  rw [c__law_wrong_integer]
  exact sp_wrong_integer (take_ok (by omega)) (pick_ok (by omega)) lo hi h st b1 b2 b3 b4 b5 b6 q
theorem copyof_ok : ∀ (n e : Nat), n < e → SpCopy n (callF Γ e "copy_of") := by
  intro n
  induction n using Nat.strongRecOn with
  | _ n ih =>
    intro e he
    obtain ⟨d, rfl⟩ : ∃ d, e = d + 1 := ⟨e - 1, by omega⟩
    intro v h A Q X q
    rw [c_copy_of]
    exact sp_copyOf (fun k hk => ih k hk d (by omega)) v h A q
theorem mk_BadArgument {e : Nat} (he : 2 ≤ e) {x : Str} {h : Mem} : callF Γ e "BadArgument.__init__" [.str x] h = .ok (.tup [.str x]) h := by
  obtain ⟨d, rfl⟩ : ∃ d, e = d + 2 := ⟨e - 2, by omega⟩
  rw [ci_BadArgument, c_copy_of]
  refine W_eq ?_
  simp [W_fin, L_copy_of, subTy]
theorem mkI_BadArgument {e : Nat} (he : 2 ≤ e) {i : Int} {h : Mem} : callF Γ e "BadArgument.__init__" [.int i] h = .ok (.tup [.int i]) h := by
  obtain ⟨d, rfl⟩ : ∃ d, e = d + 2 := ⟨e - 2, by omega⟩
  rw [ci_BadArgument, c_copy_of]
  refine W_eq ?_
  simp [W_fin, L_copy_of, subTy]
end K45
set_option Elab.async false
set_option linter.all false
set_option maxRecDepth 100000
set_option maxHeartbeats 1000000
namespace K45
open Mp PySem L2
/-! ### pipes -/
section
variable {h h' : Mem} {e : Nat} {pp : Nat → Prop} {n : Nat} {v w u : Val} {t s r : Dt}
theorem wb_ok (he : 1 ≤ e) {lo hi : Int} (r : Rd pp h n v t) : callF Γ e "whole_between" [v, .int lo, .int hi] h = .ok (.bl (wI lo hi t)) h := by
  obtain ⟨d, rfl⟩ : ∃ d, e = d + 1 := ⟨e - 1, by omega⟩
  rw [c_whole_between]
  refine W_eq ?_
  simp only [W_fin, s_whole_between]
  cases r with
  | int i =>
    simp [subTy, wI]
    constructor
    · intro h1
      simp [h1]
    · intro h1
      simp [show ¬ lo ≤ i by omega]
  | lst a xs ts pa e hl hs ha => simp [subTy, e, wI]
  | _ => simp [subTy, wI]
theorem wb_int (he : 1 ≤ e) {lo hi i : Int} : callF Γ e "whole_between" [.int i, .int lo, .int hi] h = .ok (.bl (decide (lo ≤ i) && decide (i ≤ hi))) h := by
  rw [wb_ok he (Rd.int (p := fun _ => True) (h := h) (n := 0) i)]
  simp [wI]
structure PipeAt (h : Mem) (P W : Nat) (room : Int) (ws : List Int) (snt rcv : Int) : Prop where
  ob : h[P]? = some (.ins "Pipe" [("own_room", .int room), ("own_words", .ref W), ("own_sent", .int snt), ("own_received", .int rcv)])
  ws : h[W]? = some (.lst (ws.map .int))
variable {P W : Nat} {room snt rcv : Int} {ws : List Int}
theorem PipeAt.ne (A : PipeAt h P W room ws snt rcv) : P ≠ W := fun z => by have := A.ob; rw [z, A.ws] at this; cases this
theorem PipeAt.fr {S : List Nat} (A : PipeAt h P W room ws snt rcv) (f : Fr S h h') (hP : P ∉ S) (hW : W ∉ S) : PipeAt h' P W room ws snt rcv := ⟨f.get A.ob hP, f.get A.ws hW⟩
theorem PipeAt.gr (A : PipeAt h P W room ws snt rcv) (f : Gr h h') : PipeAt h' P W room ws snt rcv := A.fr f (by simp) (by simp)
theorem init_ok (he : 2 ≤ e) (h1 : 1 ≤ room) (h2 : room ≤ 16) (eP : h[P]? = some (.ins "Pipe" [])) {Q : Val → Mem → Prop} {X : XQ} (q : ∀ h', h'.length = h.length + 1 → Fr [P] h h' → PipeAt h' P h.length room [] 0 0 → Q .non h') :
    (callF Γ e "Pipe.__init__" [.ref P, .int room] h).W Q X := by
  obtain ⟨d, rfl⟩ : ∃ d, e = d + 1 := ⟨e - 1, by omega⟩
  have hl := lt_of_get eP
  rw [c_Pipe___init__]
  simp only [W_fin, s_Pipe___init__]
  rw [seqI]
  simp [wb_int (show 1 ≤ d by omega), h1, h2, eP]
  show FwI _ _
  rw [FwI_iff, seqI]
  simp [eP]
  have e1 := get_set (o := .ins "Pipe" [("own_room", .int room)]) eP
  have l1 : (h.set P (.ins "Pipe" [("own_room", .int room)])).length = h.length := List.length_set
  have f1 := Fr.set h P (.ins "Pipe" [("own_room", .int room)])
  generalize h.set P (.ins "Pipe" [("own_room", .int room)]) = k1 at *
  show FwI _ _
  rw [FwI_iff, seqI]
  have e2 := get_app [Ob.lst []] e1
  have n2 := get_new k1 (Ob.lst [])
  have f2 := f1.trans (Fr.app [P] k1 [Ob.lst []])
  have l2 : (k1 ++ [Ob.lst []]).length = k1.length + 1 := by simp
  simp [e2]
  generalize k1 ++ [Ob.lst []] = k2 at *
  have nP : P ≠ k1.length := by omega
  have fin_ : ∀ (k3 : Mem) (o : Ob), k3[P]? = some o → k3[k1.length]? = some (.lst []) → Fr [P] h k3 → k3.length = k2.length → ∀ o2, (k3.set P o2)[P]? = some o2 ∧ (k3.set P o2)[k1.length]? = some (.lst []) ∧ Fr [P] h (k3.set P o2) ∧ (k3.set P o2).length = k2.length := fun k3 o a1 a2 a3 a4 o2 => ⟨get_set a1, get_set_ne a2 nP, a3.trans (Fr.set k3 P o2), by rw [List.length_set]; exact a4⟩
  obtain ⟨a1, a2, a3, a4⟩ := fin_ k2 _ e2 n2 f2 rfl (.ins "Pipe" [("own_room", .int room), ("own_words", .ref k1.length)])
  generalize k2.set P (.ins "Pipe" [("own_room", .int room), ("own_words", .ref k1.length)]) = k3 at *
  show FwI _ _
  rw [FwI_iff, seqI]
  simp [a1]
  obtain ⟨a1, a2, a3, a4⟩ := fin_ k3 _ a1 a2 a3 a4 (.ins "Pipe" [("own_room", .int room), ("own_words", .ref k1.length), ("own_sent", .int 0)])
  generalize k3.set P (.ins "Pipe" [("own_room", .int room), ("own_words", .ref k1.length), ("own_sent", .int 0)]) = k4 at *
  show FwI _ _
  rw [FwI_iff]
  simp [a1]
  obtain ⟨a1, a2, a3, a4⟩ := fin_ k4 _ a1 a2 a3 a4 (.ins "Pipe" [("own_room", .int room), ("own_words", .ref k1.length), ("own_sent", .int 0), ("own_received", .int 0)])
  exact q _ (by omega) a3 ⟨by rw [← l1]; exact a1, by rw [← l1]; exact a2⟩
theorem init_no (he : 4 ≤ e) (r : Rd pp h n v t) (hn : wI 1 16 t = false) : callF Γ e "Pipe.__init__" [.ref P, v] h = .exc "BadArgument" [("name", .str "room")] h := by
  obtain ⟨d, rfl⟩ : ∃ d, e = d + 1 := ⟨e - 1, by omega⟩
  rw [c_Pipe___init__]
  refine W_eqx ?_
  simp only [W_fin, s_Pipe___init__]
  simp [wb_ok (show 1 ≤ d by omega) r, hn, mk_BadArgument (show 2 ≤ d by omega)]
  decide +kernel
theorem send_ok (he : 3 ≤ e) (A : PipeAt h P W room ws snt rcv) {w : Int} (w1 : 0 ≤ w) (w2 : w ≤ 65535) (hr : (ws.length : Int) < room) (hl : ws.length < 4000) {Q : Val → Mem → Prop} {X : XQ} (q : ∀ h', h'.length = h.length → Fr [P, W] h h' → PipeAt h' P W room (ws ++ [w]) (snt + 1) rcv → Q (.bl true) h') :
    (callF Γ e "Pipe.send" [.ref P, .int w] h).W Q X := by
  obtain ⟨d, rfl⟩ : ∃ d, e = d + 1 := ⟨e - 1, by omega⟩
  have ls := sizeLine_eq
  rw [c_Pipe_send]
  simp only [W_fin, s_Pipe_send]
  simp [wb_int (show 1 ≤ d by omega), w1, w2, A.ob, A.ws, A.ne, Ne.symm A.ne, ls, show ¬ room ≤ (ws.length : Int) by omega]
  refine ⟨by omega, ?_⟩
  have e1 := get_set_ne (o := .lst (ws.map Val.int ++ [Val.int w])) A.ob (Ne.symm A.ne)
  have e2 := get_set (o := .lst (ws.map Val.int ++ [Val.int w])) A.ws
  have f1 := Fr.set h W (.lst (ws.map Val.int ++ [Val.int w]))
  have l1 : (h.set W (.lst (ws.map Val.int ++ [Val.int w]))).length = h.length := List.length_set
  generalize h.set W (.lst (ws.map Val.int ++ [Val.int w])) = k at *
  rw [augAttr_int (a := snt) (k := 1) (fs := [("own_room", .int room), ("own_words", .ref W), ("own_sent", .int snt), ("own_received", .int rcv)]) (c := "Pipe") rfl e1 (by simp) (by simp)]
  simp
  refine q _ (by rw [List.length_set]; exact l1) ?_ ⟨get_set e1, get_set_ne (by rw [e2]; simp) A.ne⟩
  exact (f1.mono (fun n _ hn => by simp at hn ⊢; exact .inr hn)).trans ((Fr.set k P _).mono (fun n _ hn => by simp at hn ⊢; exact .inl hn))
theorem send_full (he : 3 ≤ e) (A : PipeAt h P W room ws snt rcv) {w : Int} (w1 : 0 ≤ w) (w2 : w ≤ 65535) (hr : room ≤ (ws.length : Int)) : callF Γ e "Pipe.send" [.ref P, .int w] h = .ok (.bl false) h := by
  obtain ⟨d, rfl⟩ : ∃ d, e = d + 1 := ⟨e - 1, by omega⟩
  rw [c_Pipe_send]
  refine W_eq ?_
  simp only [W_fin, s_Pipe_send]
  simp [wb_int (show 1 ≤ d by omega), w1, w2, A.ob, A.ws, hr]
theorem send_no (he : 4 ≤ e) (r : Rd pp h n v t) (hn : wI 0 65535 t = false) : callF Γ e "Pipe.send" [.ref P, v] h = .exc "BadArgument" [("name", .str "word")] h := by
  obtain ⟨d, rfl⟩ : ∃ d, e = d + 1 := ⟨e - 1, by omega⟩
  rw [c_Pipe_send]
  refine W_eqx ?_
  simp only [W_fin, s_Pipe_send]
  simp [wb_ok (show 1 ≤ d by omega) r, hn, mk_BadArgument (show 2 ≤ d by omega)]
  decide +kernel
theorem receive_ok (he : 2 ≤ e) {w : Int} (A : PipeAt h P W room (w :: ws) snt rcv) {Q : Val → Mem → Prop} {X : XQ} (q : ∀ h', h'.length = h.length → Fr [P, W] h h' → PipeAt h' P W room ws snt (rcv + 1) → Q (.int w) h') :
    (callF Γ e "Pipe.receive" [.ref P] h).W Q X := by
  obtain ⟨d, rfl⟩ : ∃ d, e = d + 1 := ⟨e - 1, by omega⟩
  rw [c_Pipe_receive]
  simp only [W_fin, s_Pipe_receive]
  simp [A.ob, A.ws, A.ne, Ne.symm A.ne]
  have e1 := get_set (o := .ins "Pipe" [("own_room", .int room), ("own_words", .ref W), ("own_sent", .int snt), ("own_received", .int (rcv + 1))]) A.ob
  have e2 := get_set_ne (o := .ins "Pipe" [("own_room", .int room), ("own_words", .ref W), ("own_sent", .int snt), ("own_received", .int (rcv + 1))]) A.ws A.ne
  have f1 := Fr.set h P (.ins "Pipe" [("own_room", .int room), ("own_words", .ref W), ("own_sent", .int snt), ("own_received", .int (rcv + 1))])
  have l1 : (h.set P (.ins "Pipe" [("own_room", .int room), ("own_words", .ref W), ("own_sent", .int snt), ("own_received", .int (rcv + 1))])).length = h.length := List.length_set
  rw [augAttr_int (a := rcv) (k := 1) (fs := [("own_room", .int room), ("own_words", .ref W), ("own_sent", .int snt), ("own_received", .int rcv)]) (c := "Pipe") rfl A.ob (by simp) (by simp)]
  simp
  generalize h.set P (.ins "Pipe" [("own_room", .int room), ("own_words", .ref W), ("own_sent", .int snt), ("own_received", .int (rcv + 1))]) = k at *
  simp [e1, e2]
  refine q _ (by rw [List.length_set]; exact l1) ?_ ⟨get_set_ne e1 (Ne.symm A.ne), get_set e2⟩
  exact (f1.mono (fun n _ hn => by simp at hn ⊢; exact .inl hn)).trans ((Fr.set k W _).mono (fun n _ hn => by simp at hn ⊢; exact .inr hn))
theorem receive_none (he : 2 ≤ e) (A : PipeAt h P W room [] snt rcv) : callF Γ e "Pipe.receive" [.ref P] h = .ok .non h := by
  obtain ⟨d, rfl⟩ : ∃ d, e = d + 1 := ⟨e - 1, by omega⟩
  rw [c_Pipe_receive]
  refine W_eq ?_
  simp only [W_fin, s_Pipe_receive]
  simp [A.ob, A.ws]
theorem room_ok (he : 1 ≤ e) (A : PipeAt h P W room ws snt rcv) : callF Γ e "Pipe.room" [.ref P] h = .ok (.int room) h := by
  obtain ⟨d, rfl⟩ : ∃ d, e = d + 1 := ⟨e - 1, by omega⟩
  rw [c_Pipe_room]
  refine W_eq ?_
  simp only [W_fin, s_Pipe_room]
  simp [A.ob]
theorem size_ok_ (he : 1 ≤ e) (A : PipeAt h P W room ws snt rcv) : callF Γ e "Pipe.size" [.ref P] h = .ok (.int ws.length) h := by
  obtain ⟨d, rfl⟩ : ∃ d, e = d + 1 := ⟨e - 1, by omega⟩
  rw [c_Pipe_size]
  refine W_eq ?_
  simp only [W_fin, s_Pipe_size]
  simp [A.ob, A.ws]
theorem sent_ok (he : 1 ≤ e) (A : PipeAt h P W room ws snt rcv) : callF Γ e "Pipe.sent" [.ref P] h = .ok (.int snt) h := by
  obtain ⟨d, rfl⟩ : ∃ d, e = d + 1 := ⟨e - 1, by omega⟩
  rw [c_Pipe_sent]
  refine W_eq ?_
  simp only [W_fin, s_Pipe_sent]
  simp [A.ob]
theorem received_ok (he : 1 ≤ e) (A : PipeAt h P W room ws snt rcv) : callF Γ e "Pipe.received" [.ref P] h = .ok (.int rcv) h := by
  obtain ⟨d, rfl⟩ : ∃ d, e = d + 1 := ⟨e - 1, by omega⟩
  rw [c_Pipe_received]
  refine W_eq ?_
  simp only [W_fin, s_Pipe_received]
  simp [A.ob]
/-- what an own pipe gives to walk, to list -/
theorem PipeAt.it (A : PipeAt h P W room ws snt rcv) : itOf Γ h (.ref P) = some W := itOf_ref (C := c_Pipe) (fld := "own_words") A.ob (by kernel_rfl) (by kernel_rfl) (by kernel_rfl)
theorem PipeAt.wk (A : PipeAt h P W room ws snt rcv) : wkO Γ h (.ref P) = some (wkL W ws.length) := by
  rw [wkO_own A.it]
  simp only [wkV, A.ws, List.length_map]
theorem PipeAt.list (A : PipeAt h P W room ws snt rcv) (hl : ws.length ≤ 4000) : listO Γ [.ref P] h = .ok (.ref h.length) (h ++ [.lst (ws.map .int)]) := by
  have ls := sizeLine_eq
  rw [listO_own A.it A.ws]
  simp [newL]
  omega
end
end K45
set_option Elab.async false
set_option linter.all false
set_option maxRecDepth 100000
set_option maxHeartbeats 1000000
namespace K45
open Mp PySem L2
theorem shp_send : SeqAt.shaped (.str "send") = true := by kernel_rfl
theorem shp_receive : SeqAt.shaped (.str "receive") = true := by kernel_rfl
theorem shp_answer : SeqAt.shaped (.str "answer") = true := by kernel_rfl
theorem shp_Bad : SeqAt.shaped (.str "BadArgument") = true := by kernel_rfl
theorem shp_word : SeqAt.shaped (.str "word") = true := by kernel_rfl
theorem shp_room : SeqAt.shaped (.str "room") = true := by kernel_rfl
@[simp] theorem cs_ss (h : Mem) : cmpop .Eq h (.str "send") (.str "send") = some true := by rw [cmp_eq_str shp_send shp_send]; kernel_rfl
@[simp] theorem cs_rs (h : Mem) : cmpop .Eq h (.str "receive") (.str "send") = some false := by rw [cmp_eq_str shp_receive shp_send]; kernel_rfl
@[simp] theorem cs_sr (h : Mem) : cmpop .Eq h (.str "send") (.str "receive") = some false := by rw [cmp_eq_str shp_send shp_receive]; kernel_rfl
@[simp] theorem cs_rr (h : Mem) : cmpop .Eq h (.str "receive") (.str "receive") = some true := by rw [cmp_eq_str shp_receive shp_receive]; kernel_rfl
theorem alikeN_ok : ∀ (n e : Nat), n < e → SpAlkN n (callF Γ e "_law_alike") := by
  intro n
  induction n using Nat.strongRecOn with
  | _ n ih =>
    intro e he
    obtain ⟨d, rfl⟩ : ∃ d, e = d + 1 := ⟨e - 1, by omega⟩
    intro p p' v w t u h r s ne
    rw [c__law_alike]
    exact sp_alikeN (fun k hk => alike_ok k d (by omega)) (fun k hk => ih k hk d (by omega)) p p' v w t u h r s ne
section
variable {h h' : Mem} {e : Nat} {pp : Nat → Prop} {n : Nat} {v w u : Val} {t s r : Dt} {P W S : Nat} {room snt rcv : Int} {ws : List Int}
theorem isInt_ok (he : 1 ≤ e) {lo hi : Int} (r : Rd pp h n v t) : callF Γ e "_law_is_integer" [v, .int lo, .int hi] h = .ok (.bl (wI lo hi t)) h := by
  obtain ⟨d, rfl⟩ : ∃ d, e = d + 1 := ⟨e - 1, by omega⟩
  rw [c__law_is_integer]
  exact sp_whole (c := callF Γ d) r
theorem refusal_ok (he : 1 ≤ e) {v : Val} : callB Γ e true "_law_refusal" [.exn "BadArgument" [("name", v)]] h = .ok (.tup [.str "BadArgument", v]) (h ++ [.lst [.tup [.str "BadArgument", v]]]) := by
  obtain ⟨d, rfl⟩ : ∃ d, e = d + 1 := ⟨e - 1, by omega⟩
  have ls := sizeLine_eq
  rw [ch__law_refusal]
  refine W_eq ?_
  simp only [W_fin, h__law_refusal]
  rw [seqI]
  simp
  repeat (show FwI _ _; rw [FwI_iff, seqI]; simp [ls])
  show FwI _ _
  rw [FwI_iff]
  simp [ls]
/-- what a call to a pipe answers -/
theorem called_send (he : 9 ≤ e) (A : PipeAt h P W room ws snt rcv) {w : Int} (w1 : 0 ≤ w) (w2 : w ≤ 65535) (hl : ws.length < 4000) (k : Int) {Q : Val → Mem → Prop} {X : XQ}
    (q1 : (ws.length : Int) < room → ∀ h', h'.length = h.length → Fr [P, W] h h' → PipeAt h' P W room (ws ++ [w]) (snt + 1) rcv → Q (.tup [.str "answer", .bl true]) h') (q2 : room ≤ (ws.length : Int) → Q (.tup [.str "answer", .bl false]) h) :
    (callF Γ e "_law_called" [.ref P, .tup [.str "send", .int w, .int k]] h).W Q X := by
  obtain ⟨d, rfl⟩ : ∃ d, e = d + 1 := ⟨e - 1, by omega⟩
  have ls := sizeLine_eq
  rw [c__law_called]
  simp only [W_fin, s__law_called]
  by_cases hk : k = 0
  · subst hk
    by_cases hr : (ws.length : Int) < room
    · simp [A.ob, selV, pick1]
      refine send_ok (by omega) A w1 w2 hr hl fun h' l f B => ?_
      exact ⟨by omega, q1 hr h' l f B⟩
    · simp [A.ob, selV, pick1, send_full (show 3 ≤ d by omega) A w1 w2 (show room ≤ (ws.length : Int) by omega)]
      exact ⟨by omega, q2 (by omega)⟩
  · by_cases hr : (ws.length : Int) < room
    · simp [A.ob, selV, pick1, hk]
      refine send_ok (by omega) A w1 w2 hr hl fun h' l f B => ?_
      exact ⟨by omega, q1 hr h' l f B⟩
    · simp [A.ob, selV, pick1, hk, send_full (show 3 ≤ d by omega) A w1 w2 (show room ≤ (ws.length : Int) by omega)]
      exact ⟨by omega, q2 (by omega)⟩
theorem called_no (he : 9 ≤ e) (A : PipeAt h P W room ws snt rcv) (r : Rd pp h n v t) (hn : wI 0 65535 t = false) (k : Int) {Q : Val → Mem → Prop} {X : XQ} (q : ∀ h', Gr h h' → Q (.tup [.str "BadArgument", .str "word"]) h') :
    (callF Γ e "_law_called" [.ref P, .tup [.str "send", v, .int k]] h).W Q X := by
  obtain ⟨d, rfl⟩ : ∃ d, e = d + 1 := ⟨e - 1, by omega⟩
  have ls := sizeLine_eq
  rw [c__law_called]
  simp only [W_fin, s__law_called]
  by_cases hk : k = 0
  · subst hk
    simp [A.ob, selV, pick1, send_no (P := P) (show 4 ≤ d by omega) r hn, tryX, wipeE, refusal_ok (show 1 ≤ d by omega), aftP]
    exact q _ (Gr.new _ _)
  · simp [A.ob, selV, pick1, hk, send_no (P := P) (show 4 ≤ d by omega) r hn, tryX, wipeE, refusal_ok (show 1 ≤ d by omega), aftP]
    exact q _ (Gr.new _ _)
theorem called_receive (he : 9 ≤ e) (A : PipeAt h P W room ws snt rcv) {Q : Val → Mem → Prop} {X : XQ}
    (q1 : ∀ w r, ws = w :: r → ∀ h', h'.length = h.length → Fr [P, W] h h' → PipeAt h' P W room r snt (rcv + 1) → Q (.tup [.str "answer", .int w]) h') (q2 : ws = [] → Q (.tup [.str "answer", .non]) h) :
    (callF Γ e "_law_called" [.ref P, .tup [.str "receive"]] h).W Q X := by
  obtain ⟨d, rfl⟩ : ∃ d, e = d + 1 := ⟨e - 1, by omega⟩
  have ls := sizeLine_eq
  rw [c__law_called]
  simp only [W_fin, s__law_called]
  cases ws with
  | nil =>
    simp [A.ob, selV, pick1, receive_none (show 2 ≤ d by omega) A]
    exact ⟨by omega, q2 rfl⟩
  | cons w r =>
    simp [A.ob, selV, pick1]
    refine receive_ok (by omega) A fun h' l f B => ?_
    exact ⟨by omega, q1 w r rfl h' l f B⟩
end
end K45
set_option Elab.async false
set_option linter.all false
set_option maxRecDepth 100000
set_option maxHeartbeats 1000000
namespace K45
open Mp PySem L2
section
variable {h h' : Mem} {e : Nat} {pp p1 p2 : Nat → Prop} {n m : Nat} {v w u : Val} {t s r : Dt} {P W S : Nat} {room : Int} {ss : List Int} {o : Nat}
theorem alT (he : n < e) (r1 : Rd p1 h n v t) (r2 : Rd p2 h n w t) : callF Γ e "_law_alike" [v, w] h = .ok (.bl true) h := alike_ok n e he v w h (r1.alk r2)
theorem alF (he : n < e) (r1 : Rd p1 h n v t) (r2 : Rd p2 h n w s) (ne : t ≠ s) : callF Γ e "_law_alike" [v, w] h = .ok (.bl false) h := alikeN_ok n e he p1 p2 v w t s h r1 r2 ne
def ansB (b : Bool) : Val := .tup [.str "answer", .bl b]
def dB (b : Bool) : Dt := .tup [.str "answer", .bl b]
theorem rdB (b : Bool) : Rd (fun _ => True) h 1 (ansB b) (dB b) := Rd.two (.str _ shp_answer) (.bl b)
def ansN : Val := .tup [.str "answer", .non]
def dN : Dt := .tup [.str "answer", .non]
theorem rdN : Rd (fun _ => True) h 1 ansN dN := Rd.two (.str _ shp_answer) .non
def ansI (i : Int) : Val := .tup [.str "answer", .int i]
def dI (i : Int) : Dt := .tup [.str "answer", .int i]
theorem rdI (i : Int) : Rd (fun _ => True) h 1 (ansI i) (dI i) := Rd.two (.str _ shp_answer) (.int i)
def ansW : Val := .tup [.str "BadArgument", .str "word"]
def dW : Dt := .tup [.str "BadArgument", .str "word"]
theorem rdW : Rd (fun _ => True) h 1 ansW dW := Rd.two (.str _ shp_Bad) (.str _ shp_word)
/-- a pipe with what was sent into it -/
structure Stt (h : Mem) (P W : Nat) (room : Int) (S : Nat) (ss : List Int) (o : Nat) : Prop where
  pi : PipeAt h P W room (ss.drop o) ss.length o
  ls : h[S]? = some (.lst (ss.map .int))
  ol : o ≤ ss.length
  cap : (ss.length : Int) - o ≤ room
theorem Stt.nP (A : Stt h P W room S ss o) : S ≠ P := fun z => by have := A.pi.ob; rw [← z, A.ls] at this; cases this
theorem Stt.fr {T : List Nat} (A : Stt h P W room S ss o) (f : Fr T h h') (hP : P ∉ T) (hW : W ∉ T) (hS : S ∉ T) : Stt h' P W room S ss o := ⟨A.pi.fr f hP hW, f.get A.ls hS, A.ol, A.cap⟩
theorem Stt.gr (A : Stt h P W room S ss o) (f : Gr h h') : Stt h' P W room S ss o := A.fr f (by simp) (by simp) (by simp)
theorem due_send (he : 3 ≤ e) (A : h[S]? = some (.lst (ss.map .int))) (r : Rd pp h n v t) (k : Int) : callF Γ e "_law_due" [.tup [.str "send", v, .int k], .int room, .ref S, .int o] h = .ok (if wI 0 65535 t then ansB (decide ((ss.length : Int) - o < room)) else ansW) h := by
  obtain ⟨d, rfl⟩ : ∃ d, e = d + 1 := ⟨e - 1, by omega⟩
  have ls := sizeLine_eq
  rw [c__law_due]
  refine W_eq ?_
  simp only [W_fin, s__law_due]
  cases hw : wI 0 65535 t with
  | true =>
    simp [isInt_ok (show 1 ≤ d by omega) r, hw, A, ansB]
    omega
  | false =>
    simp [isInt_ok (show 1 ≤ d by omega) r, hw, A, ansW]
    omega
theorem due_receive (he : 3 ≤ e) (A : h[S]? = some (.lst (ss.map .int))) (ho : o ≤ ss.length) : callF Γ e "_law_due" [.tup [.str "receive"], .int room, .ref S, .int o] h = .ok (match ss[o]? with | some w => ansI w | none => ansN) h := by
  obtain ⟨d, rfl⟩ : ∃ d, e = d + 1 := ⟨e - 1, by omega⟩
  have ls := sizeLine_eq
  rw [c__law_due]
  refine W_eq ?_
  simp only [W_fin, s__law_due]
  by_cases hl : o = ss.length
  · subst hl
    simp [A, ansN]
    omega
  · have hi : o < ss.length := by omega
    simp [A, ansI, hi, show ¬ (o : Int) = (ss.length : Int) by omega, Mp.atI_nat]
    omega
theorem drop_app {xs : List Int} {o : Nat} (h : o ≤ xs.length) (w : Int) : (xs ++ [w]).drop o = xs.drop o ++ [w] := by
  rw [List.drop_append_of_le_length h]
theorem step_send (he : 14 ≤ e) (hW : W ≠ S) (A : Stt h P W room S ss o) (r : Rd pp h n v t) (hpp : ∀ a, pp a → a ≠ P ∧ a ≠ W) (hl : ss.length < 4000) (k : Int) {Q : Val → Mem → Prop} {X : XQ}
    (q : ∀ S' ss' o' h', Fr [P, W] h h' → Stt h' P W room S' ss' o' → ss'.length ≤ ss.length + 1 → (S' = S ∨ h.length ≤ S') → Q (.tup [.ref S', .int (o' : Nat)]) h') :
    (callF Γ e "_law_step" [.ref P, .int room, .ref S, .int o, .tup [.str "send", v, .int k]] h).W Q X := by
  obtain ⟨d, rfl⟩ : ∃ d, e = d + 1 := ⟨e - 1, by omega⟩
  have lsz := sizeLine_eq
  have hdl : (ss.drop o).length = ss.length - o := List.length_drop
  have hol := A.ol
  rw [c__law_step]
  simp only [W_fin, s__law_step]
  rw [seqI]
  cases hw : wI 0 65535 t with
  | false =>
    simp [due_send (o := o) (room := room) (show 3 ≤ d by omega) A.ls r k, hw]
    show FwI _ _
    rw [FwI_iff, seqI]
    simp
    refine called_no (by omega) A.pi r hw k fun h1 g1 => ?_
    have A1 := A.gr g1
    rw [show (Val.tup [.str "BadArgument", .str "word"]) = ansW from rfl]
    simp [alT (show 1 < d by omega) (rdW (h := h1)) (rdW (h := h1))]
    show FwI _ _
    rw [FwI_iff, seqI]
    simp [lsz]
    rw [show (Val.tup [.str "answer", .bl true]) = ansB true from rfl, alF (show 1 < d by omega) (rdW (h := h1)) (rdB (h := h1) true) (by simp [dW, dB])]
    simp
    show FwI _ _
    rw [FwI_iff, seqI]
    simp [lsz]
    show FwI _ _
    rw [FwI_iff]
    simp [lsz]
    exact q S ss o h1 (g1.mono fun _ _ z => by simp at z) A1 (by omega) (.inl rfl)
  | true =>
    obtain ⟨x, rfl, rfl⟩ : ∃ x, v = .int x ∧ t = .int x := by
      cases r with
      | int i => exact ⟨i, rfl, rfl⟩
      | _ => simp [wI] at hw
    simp [wI] at hw
    simp [due_send (o := o) (room := room) (show 3 ≤ d by omega) A.ls r k, wI, hw]
    show FwI _ _
    rw [FwI_iff, seqI]
    simp
    refine called_send (by omega) A.pi hw.1 hw.2 (by omega) k (fun hr h1 l1 f1 B1 => ?_) (fun hr => ?_)
    · have hr : (ss.length : Int) - (o : Int) < room := by omega
      rw [decide_eq_true hr, show (Val.tup [.str "answer", .bl true]) = ansB true from rfl]
      simp [alT (show 1 < d by omega) (rdB (h := h1) true) (rdB (h := h1) true)]
      show FwI _ _
      rw [FwI_iff, seqI]
      simp [lsz]
      rw [show (Val.tup [.str "answer", .bl true]) = ansB true from rfl]
      have e1 : h1[S]? = some (.lst (ss.map .int)) := f1.get A.ls (by simp [A.nP, Ne.symm hW])
      simp [alT (show 1 < d by omega) (rdB (h := h1) true) (rdB (h := h1) true), e1, lsz]
      rw [get_app [Ob.lst [Val.int x]] e1]
      simp [newL, lsz]
      refine ⟨by omega, ?_⟩
      have hsl := lt_of_get A.ls
      have f2 : Fr [P, W] h ((h1 ++ [Ob.lst [Val.int x]]) ++ [Ob.lst (ss.map Val.int ++ [Val.int x])]) := (f1.trans (Fr.app _ _ _)).trans (Fr.app _ _ _)
      have en := get_new (h1 ++ [Ob.lst [Val.int x]]) (Ob.lst (ss.map Val.int ++ [Val.int x]))
      have B2 := (B1.gr (Gr.new h1 [Ob.lst [Val.int x]])).gr (Gr.new _ [Ob.lst (ss.map Val.int ++ [Val.int x])])
      simp at en f2 B2
      have l2 : h1.length + 1 = (h1 ++ [Ob.lst [Val.int x], Ob.lst (ss.map Val.int ++ [Val.int x])]).length - 1 := by simp
      refine q (h1.length + 1) (ss ++ [x]) o _ f2 ⟨?_, ?_, by simp; omega, by simp; omega⟩ (by simp) (.inr (by omega))
      · rw [drop_app hol]
        simpa using B2
      · simpa using en
    · have hr : ¬ (ss.length : Int) - (o : Int) < room := by omega
      rw [decide_eq_false hr, show (Val.tup [.str "answer", .bl false]) = ansB false from rfl]
      simp [alT (show 1 < d by omega) (rdB (h := h) false) (rdB (h := h) false)]
      show FwI _ _
      rw [FwI_iff, seqI]
      simp [lsz]
      rw [show (Val.tup [.str "answer", .bl true]) = ansB true from rfl, alF (show 1 < d by omega) (rdB (h := h) false) (rdB (h := h) true) (by simp [dB])]
      simp
      show FwI _ _
      rw [FwI_iff, seqI]
      simp [lsz]
      show FwI _ _
      rw [FwI_iff]
      simp [lsz]
      exact q S ss o h (Fr.refl _ _) A (by omega) (.inl rfl)
theorem step_receive (he : 14 ≤ e) (hW : W ≠ S) (A : Stt h P W room S ss o) {Q : Val → Mem → Prop} {X : XQ}
    (q : ∀ o' h', Fr [P, W] h h' → Stt h' P W room S ss o' → Q (.tup [.ref S, .int (o' : Nat)]) h') :
    (callF Γ e "_law_step" [.ref P, .int room, .ref S, .int o, .tup [.str "receive"]] h).W Q X := by
  obtain ⟨d, rfl⟩ : ∃ d, e = d + 1 := ⟨e - 1, by omega⟩
  have lsz := sizeLine_eq
  have hdl : (ss.drop o).length = ss.length - o := List.length_drop
  have hol := A.ol
  rw [c__law_step]
  simp only [W_fin, s__law_step]
  rw [seqI]
  simp [due_receive (room := room) (show 3 ≤ d by omega) A.ls A.ol]
  show FwI _ _
  rw [FwI_iff, seqI]
  simp
  refine called_receive (by omega) A.pi (fun w r ew h1 l1 f1 B1 => ?_) (fun ew => ?_)
  · have hi : o < ss.length := by
      have := congrArg List.length ew
      simp at this
      omega
    have e0 : ss[o]? = some w := by
      have : (ss.drop o)[0]? = some w := by rw [ew]; rfl
      simpa using this
    have e2 : ss.drop (o + 1) = r := by
      rw [← List.drop_drop, ew]
      rfl
    rw [e0]
    rw [show (Val.tup [.str "answer", .int w]) = ansI w from rfl]
    simp only []
    simp [alT (show 1 < d by omega) (rdI (h := h1) w) (rdI (h := h1) w)]
    show FwI _ _
    rw [FwI_iff, seqI]
    simp [lsz]
    show FwI _ _
    rw [FwI_iff, seqI]
    simp [lsz, ansI]
    exact q (o + 1) h1 f1 ⟨by rw [e2]; simpa using B1, f1.get A.ls (by simp [A.nP, Ne.symm hW]), by omega, by have := A.cap; omega⟩
  · have hi : o = ss.length := by
      have := congrArg List.length ew
      simp at this
      omega
    have e0 : ss[o]? = none := List.getElem?_eq_none (by omega)
    rw [e0]
    rw [show (Val.tup [.str "answer", .non]) = ansN from rfl]
    simp only []
    simp [alT (show 1 < d by omega) (rdN (h := h)) (rdN (h := h))]
    show FwI _ _
    rw [FwI_iff, seqI]
    simp [lsz]
    show FwI _ _
    rw [FwI_iff, seqI]
    simp [lsz, ansN]
    show FwI _ _
    rw [FwI_iff]
    simp [lsz]
    exact q o h (Fr.refl _ _) A
end
end K45
set_option Elab.async false
set_option linter.all false
set_option maxRecDepth 100000
set_option maxHeartbeats 1000000
namespace K45
open Mp PySem L2
theorem cut_take {α : Type} (xs : List α) (k : Nat) : cut xs none (some (k : Int)) = xs.take k := by
  unfold cut
  rw [HT.sIx_nat, HT.sIx_none, List.drop_zero]
  by_cases h : k ≤ xs.length
  · rw [Nat.min_eq_left h]; simp
  · rw [List.take_of_length_le (by omega), List.take_of_length_le (by omega)]
theorem cut_drop {α : Type} (xs : List α) (k : Nat) : cut xs (some (k : Int)) none = xs.drop k := by
  unfold cut
  rw [HT.sIx_nat, HT.sIx_none]
  by_cases h : k ≤ xs.length
  · rw [Nat.min_eq_left h, List.take_of_length_le (by simp)]
  · rw [List.drop_eq_nil_of_le (by omega), List.drop_eq_nil_of_le (by omega)]
    simp
theorem cut_mid {α : Type} (xs : List α) (a b : Nat) : cut xs (some (a : Int)) (some (b : Int)) = (xs.take b).drop a := by
  unfold cut
  rw [HT.sIx_nat, HT.sIx_nat, List.drop_take]
  by_cases h : a ≤ xs.length
  · rw [Nat.min_eq_left h]
    by_cases h2 : b ≤ xs.length
    · rw [Nat.min_eq_left h2]
    · rw [Nat.min_eq_right (by omega), List.take_of_length_le (by simp), List.take_of_length_le (by simp; omega)]
  · rw [List.drop_eq_nil_of_le (by omega), List.drop_eq_nil_of_le (by omega)]
    simp
theorem cut_map {α β : Type} (f : α → β) (xs : List α) (lo hi : Option Int) : cut (xs.map f) lo hi = (cut xs lo hi).map f := by
  unfold cut
  simp [List.map_take, List.map_drop]
@[simp] theorem sl_ref {h : Mem} (n : Nat) (lo hi : Option Int) : sliceV (.ref n) lo hi h = match h[n]? with
    | some (.lst xs) => newL (cut xs lo hi) h
    | some (.rol xs) => newL (cut xs lo hi) h
    | _ => .bad := rfl
section
variable {h h' : Mem} {e : Nat} {P W S : Nat} {room : Int} {ss : List Int} {o : Nat}
theorem shown_ok (he : 6 ≤ e) (A : Stt h P W room S ss o) (hl : ss.length < 4000) {Q : Val → Mem → Prop} {X : XQ} (q : ∀ h', Gr h h' → Q (.bl true) h') : (callF Γ e "_law_shown" [.ref P, .int room, .ref S, .int o] h).W Q X := by
  obtain ⟨d, rfl⟩ : ∃ d, e = d + 1 := ⟨e - 1, by omega⟩
  have lsz := sizeLine_eq
  have hol := A.ol
  have hdl : (ss.drop o).length = ss.length - o := List.length_drop
  rw [c__law_shown]
  simp only [W_fin, s__law_shown]
  rw [seqI]
  have A1 := A.pi.gr (Gr.new h [Ob.lst [.int room, .int ((ss.length : Int) - o), .int ss.length, .int o]])
  simp [A.ls, lsz, A1.ob, room_ok (show 1 ≤ d by omega) A1, size_ok_ (show 1 ≤ d by omega) A1, sent_ok (show 1 ≤ d by omega) A1, received_ok (show 1 ≤ d by omega) A1]
  have hs : ((ss.length - o : Nat) : Int) = (ss.length : Int) - o := by omega
  rw [hs]
  have i0 : (h ++ [Ob.lst [.int room, .int ((ss.length : Int) - o), .int ss.length, .int o], Ob.lst [.int room, .int ((ss.length : Int) - o), .int ss.length, .int o]])[h.length]? = some (.lst ([room, (ss.length : Int) - o, ss.length, o].map .int)) := by simp
  have i1 : (h ++ [Ob.lst [.int room, .int ((ss.length : Int) - o), .int ss.length, .int o], Ob.lst [.int room, .int ((ss.length : Int) - o), .int ss.length, .int o]])[h.length + 1]? = some (.lst ([room, (ss.length : Int) - o, ss.length, o].map .int)) := by simp
  rw [alike_ok 1 d (by omega) (.ref h.length) (.ref (h.length + 1)) _ (Alk.ints i0 i1 (by simp))]
  simp
  have g0 := Gr.new h [Ob.lst [.int room, .int ((ss.length : Int) - o), .int ss.length, .int o], Ob.lst [.int room, .int ((ss.length : Int) - o), .int ss.length, .int o]]
  clear i0 i1
  generalize h ++ [Ob.lst [.int room, .int ((ss.length : Int) - o), .int ss.length, .int o], Ob.lst [.int room, .int ((ss.length : Int) - o), .int ss.length, .int o]] = h0 at *
  show FwI _ _
  rw [FwI_iff, seqI]
  simp
  refine ⟨by decide, ?_⟩
  refine for_rng (fun i ρ h1 => Gr h h1 ∧ ∃ z1 z2 z3, ρ = [some (.ref P), some (.int room), some (.ref S), some (.int o), z1, z2, z3]) ⟨g0, _, _, _, rfl⟩ ?_ ?_
  · rintro i ρ h1 hi ⟨g1, z1, z2, z3, rfl⟩
    have B := A.gr g1
    obtain ⟨zs, hz⟩ : ∃ zs, zs = (ss.drop o).map Val.int := ⟨_, rfl⟩
    have lz : zs.length = ss.length - o := by rw [hz]; simp
    have B2 := B.pi.gr (Gr.new h1 [Ob.lst zs])
    have bl := B2.list (by omega)
    rw [← hz] at bl
    have g2 : Gr h (h1 ++ [Ob.lst zs, Ob.lst zs]) := Fr.trans g1 (Gr.new _ _)
    have n1 : (h1 ++ [Ob.lst zs, Ob.lst zs])[h1.length]? = some (.lst ((ss.drop o).map Val.int)) := by rw [← hz]; simp
    have n2 : (h1 ++ [Ob.lst zs, Ob.lst zs])[h1.length + 1]? = some (.lst ((ss.drop o).map Val.int)) := by rw [← hz]; simp
    have B4 := A.gr g2
    rw [seqI]
    have cd : cut (ss.map Val.int) (some (o : Int)) none = zs := by rw [cut_map, cut_drop, hz]
    simp [B.ls, cd, newL, lsz]
    refine ⟨by omega, ?_⟩
    rw [bl]
    simp
    rw [alike_ok 1 d (by omega) (.ref h1.length) (.ref (h1.length + 1)) _ (Alk.ints n1 n2 (by omega))]
    simp
    clear n1 n2 bl
    generalize h1 ++ [Ob.lst zs, Ob.lst zs] = h2 at *
    show FwI _ _
    rw [FwI_iff, seqI]
    simp
    show FwI _ _
    rw [FwI_iff, seqI]
    simp [B4.pi.wk]
    rw [show (ss.length - o) = ((ss.drop o).map Val.int).length by simp]
    refine for_lst (fun i' ρ h' => h' = h2 ∧ ∃ z, ρ = [some (.ref P), some (.int room), some (.ref S), some (.int o), some (.int i), some (.int ((o : Int) + i')), z]) ⟨rfl, z3, by simp⟩ ?_ ?_ ?_
    · rintro i' ρ h' hi' ⟨rfl, _⟩
      exact B4.pi.ws
    · rintro i' x ρ h' hx ⟨rfl, z, rfl⟩
      obtain ⟨w, hw, rfl⟩ := map_inv hx
      have hw2 : ss[o + i']? = some w := by simpa using hw
      have hlt := list_get hw2
      rw [seqI]
      have e0 : ((o : Int) + (i' : Int)) = ((o + i' : Nat) : Int) := by omega
      simp [B4.ls, show ¬ (ss.length : Int) ≤ (o : Int) + (i' : Int) by omega]
      rw [e0, Mp.atI_nat]
      simp [hw2, alike_ok 0 d (by omega) (.int w) (.int w) h' (.int w)]
      show FwI _ _
      rw [FwI_iff]
      simp
      omega
    · rintro ρ h' ⟨rfl, z, rfl⟩
      simp
      show FwI _ _
      rw [FwI_iff]
      simp [B4.ls, show (o : Int) + ((ss.length - o : Nat) : Int) = (ss.length : Int) by omega]
      exact g2
  · rintro ρ h1 ⟨g1, z1, z2, z3, rfl⟩
    show FwI _ _
    rw [FwI_iff]
    simp
    exact q h1 g1
end
end K45
set_option Elab.async false
set_option linter.all false
set_option maxRecDepth 100000
set_option maxHeartbeats 1000000
namespace K45
open Mp PySem L2
def row (ws : List Int) (w : Int) : List Val := ws.map fun x => .tup [.int w, .int x]
def prs (ws : List Int) (i : Nat) : List Val := (ws.take i).flatMap (row ws)
theorem row_len (ws : List Int) (w : Int) : (row ws w).length = ws.length := by simp [row]
theorem prs_succ {ws : List Int} {i : Nat} {w : Int} (h : ws[i]? = some w) : prs ws (i + 1) = prs ws i ++ row ws w := by
  have hi := list_get h
  unfold prs
  rw [List.take_succ_eq_append_getElem hi, List.flatMap_append]
  have : ws[i] = w := by
    rw [List.getElem?_eq_getElem hi] at h
    exact Option.some.inj h
  rw [this]
  simp
theorem prs_len (ws : List Int) : ∀ i : Nat, i ≤ ws.length → (prs ws i).length = i * ws.length
  | 0, _ => by simp [prs]
  | i + 1, hi => by
    rw [prs_succ (List.getElem?_eq_getElem (show i < ws.length by omega)), List.length_append, prs_len ws i (by omega), row_len, Nat.succ_mul]
theorem prs_mem {ws : List Int} {i : Nat} {v : Val} (h : v ∈ prs ws i) : ∃ a b : Int, v = .tup [.int a, .int b] := by
  unfold prs row at h
  simp at h
  obtain ⟨a, _, b, _, rfl⟩ := h
  exact ⟨a, b, rfl⟩
section
variable {h h' : Mem} {e : Nat} {P W I : Nat} {room snt rcv : Int} {ws : List Int}
theorem paired_ok (he : 6 ≤ e) (A : PipeAt h P W room ws snt rcv) (hI : h[I]? = some (.lst (ws.map .int))) (hl : ws.length ≤ 16) {Q : Val → Mem → Prop} {X : XQ} (q : ∀ h', Gr h h' → Q (.bl true) h') : (callF Γ e "_law_paired" [.ref P, .ref I] h).W Q X := by
  obtain ⟨d, rfl⟩ : ∃ d, e = d + 1 := ⟨e - 1, by omega⟩
  have lsz := sizeLine_eq
  have hb : ws.length * ws.length ≤ 256 := Nat.mul_le_mul hl hl
  rw [c__law_paired]
  simp only [W_fin, s__law_paired]
  rw [seqI]
  simp
  show FwI _ _
  rw [FwI_iff, seqI]
  simp
  show FwI _ _
  rw [FwI_iff, seqI]
  simp
  have g2 := Gr.new h [Ob.lst [], Ob.lst []]
  have eD : (h ++ [Ob.lst [], Ob.lst []])[h.length]? = some (.lst []) := by simp
  have eT : (h ++ [Ob.lst [], Ob.lst []])[h.length + 1]? = some (.lst []) := by simp
  have l2 : (h ++ [Ob.lst [], Ob.lst []]).length = h.length + 2 := by simp
  generalize h ++ [Ob.lst [], Ob.lst []] = h2 at *
  have A2 := A.gr g2
  have hP := lt_of_get A.ob
  have hW := lt_of_get A.ws
  have hI' := lt_of_get hI
  generalize hD : h.length = D at *
  show FwI _ _
  rw [FwI_iff, seqI]
  simp [A2.wk]
  rw [show ws.length = (ws.map Val.int).length by simp]
  refine for_lst (fun i ρ h' => Fr [D, D + 1] h2 h' ∧ h'[D]? = some (.lst (prs ws i)) ∧ h'[D + 1]? = some (.lst (prs ws i)) ∧ ∃ z5 z6, ρ = [some (.ref P), some (.ref I), some (.int i), some (.ref D), some (.ref (D + 1)), z5, z6]) ⟨Fr.refl _ _, eD, eT, _, _, rfl⟩ ?_ ?_ ?_
  · rintro i ρ h' hi ⟨f, _⟩
    exact f.get A2.ws (by simp; omega)
  · rintro i x ρ h3 hx ⟨f, e1, e2, z5, z6, rfl⟩
    obtain ⟨w, hw, rfl⟩ := map_inv hx
    have hi := list_get hw
    have eI : h3[I]? = some (.lst (ws.map .int)) := f.get (Gr.get g2 hI) (by simp; omega)
    have A3 := A2.fr f (by simp; omega) (by simp; omega)
    have l3 := f.len
    have hpl := prs_len ws i (by omega)
    have hil : i * ws.length ≤ 256 := Nat.le_trans (Nat.mul_le_mul_right _ (by omega)) hb
    rw [seqI]
    simp
    show FwI _ _
    rw [FwI_iff, seqI]
    simp [eI, show ¬ (ws.length : Int) < (i : Int) + 1 by omega]
    show FwI _ _
    rw [FwI_iff, seqI]
    simp
    simp [e1, eI]
    rw [show ws.length = (ws.map Val.int).length by simp]
    refine lc_lst (fun k acc h' => h' = h3 ∧ acc = (row ws w).take k) ⟨rfl, rfl⟩ (fun k acc h' _ z => by rw [z.1]; exact eI) ?_ ?_
    · rintro k x acc h' hx ⟨rfl, rfl⟩
      obtain ⟨y, hy, rfl⟩ := map_inv hx
      have hk := list_get hy
      have ei : (i : Int) + 1 - 1 = (i : Int) := by omega
      simp [wipeE, eI, ei, Mp.atI_nat, hw, lsz]
      refine ⟨by omega, ?_⟩
      have hr : (row ws w)[k]? = some (.tup [.int w, .int y]) := by simp [row, hy]
      rw [List.take_succ_eq_append_getElem (by rw [row_len]; exact hk)]
      congr 1
      rw [List.getElem?_eq_getElem (by rw [row_len]; exact hk)] at hr
      rw [Option.some.inj hr]
    · rintro acc h' ⟨rfl, rfl⟩
      have et : (row ws w).take (ws.map Val.int).length = row ws w := List.take_of_length_le (by simp [row])
      rw [et]
      have ne := get_new h' (Ob.lst (row ws w))
      have o1 := get_app [Ob.lst (row ws w)] e1
      have rl := row_len ws w
      simp [newL, lsz, rl, ne, o1, hpl]
      refine ⟨by omega, by omega, ?_⟩
      rw [← prs_succ hw]
      have a1 := get_set (o := .lst (prs ws (i + 1))) o1
      have a2 := get_set_ne (o := .lst (prs ws (i + 1))) (get_app [Ob.lst (row ws w)] e2) (show D ≠ D + 1 by omega)
      have f4 : Fr [D, D + 1] h2 ((h' ++ [Ob.lst (row ws w)]).set D (.lst (prs ws (i + 1)))) := (f.trans (Fr.app _ _ _)).trans ((Fr.set _ D _).mono fun _ _ z => by simp at z ⊢; exact .inl z)
      generalize (h' ++ [Ob.lst (row ws w)]).set D (.lst (prs ws (i + 1))) = h4 at *
      have A4 := A2.fr f4 (by simp; omega) (by simp; omega)
      have hpl2 := prs_len ws (i + 1) (by omega)
      rw [Nat.succ_mul] at hpl2
      show FwI _ _
      rw [FwI_iff]
      simp [A4.wk]
      rw [show ws.length = (ws.map Val.int).length by simp]
      refine for_lst (fun k ρ h5 => Fr [D, D + 1] h2 h5 ∧ h5[D]? = some (.lst (prs ws (i + 1))) ∧ h5[D + 1]? = some (.lst (prs ws i ++ (row ws w).take k)) ∧ ∃ z6, ρ = [some (.ref P), some (.ref I), some (.int ((i : Int) + 1)), some (.ref D), some (.ref (D + 1)), some (.int w), z6]) ⟨f4, a1, by simpa using a2, _, rfl⟩ ?_ ?_ ?_
      · rintro k ρ h5 hk ⟨f5, _⟩
        exact f5.get A2.ws (by simp; omega)
      · rintro k x ρ h5 hx ⟨f5, b1, b2, z6, rfl⟩
        obtain ⟨y, hy, rfl⟩ := map_inv hx
        have hk := list_get hy
        have tl : ((row ws w).take k).length = k := by rw [List.length_take, rl]; omega
        rw [seqI]
        simp [b1, b2, hpl, hpl2, rl, show min k ws.length = k by omega, show ¬ (i * ws.length : Int) + ws.length ≤ i * ws.length + k by omega]
        intro _
        show FwI _ _
        rw [FwI_iff]
        simp [b2, lsz, hpl, rl, show min k ws.length = k by omega]
        refine ⟨by omega, f5.trans ((Fr.set _ (D + 1) _).mono fun _ _ z => by simp at z ⊢; exact .inr z), b1, ?_⟩
        try rw [get_set b2]
        have hr : (row ws w)[k]? = some (.tup [.int w, .int y]) := by simp [row, hy]
        rw [List.take_succ_eq_append_getElem (by rw [row_len]; exact hk)]
        rw [List.getElem?_eq_getElem (by rw [row_len]; exact hk)] at hr
        rw [Option.some.inj hr]
      · rintro ρ h5 ⟨f5, b1, b2, z6, rfl⟩
        simp
        refine ⟨f5, b1, ?_⟩
        rw [b2, show (ws.map Val.int).length = (row ws w).length by rw [rl]; simp, List.take_length, prs_succ hw]
  · rintro ρ h3 ⟨f, e1, e2, z5, z6, rfl⟩
    show FwI _ _
    rw [FwI_iff]
    have hpl := prs_len ws ws.length (by omega)
    have gg : Gr h h3 := ⟨by have := f.len; omega, fun x hx _ => (f.keep x (by omega) (by simp; omega)).trans (g2.keep x (by omega) (by simp))⟩
    have eI : h3[I]? = some (.lst (ws.map .int)) := Gr.get gg hI
    simp [eI]
    simp at e1 e2
    rw [alike_ok 2 d (by omega) (.ref D) (.ref (D + 1)) h3 (.lst D (D + 1) _ _ e1 e2 rfl (by omega) fun k x y hx hy => by
      rw [hx] at hy
      cases hy
      obtain ⟨a, b, rfl⟩ := prs_mem (List.mem_of_getElem? hx)
      refine .tup _ _ rfl (by simp) fun j x y h1 h2 => ?_
      rw [h1] at h2
      cases h2
      have : x ∈ [Val.int a, Val.int b] := List.mem_of_getElem? h1
      simp at this
      rcases this with rfl | rfl <;> exact .int _)]
    simp
    exact q h3 gg
end
end K45
set_option Elab.async false
set_option linter.all false
set_option maxRecDepth 100000
set_option maxHeartbeats 1000000
namespace K45
open Mp PySem L2
section
variable {h h' : Mem} {e : Nat}
/-- a drawn call -/
inductive Cl (b : Nat) (h : Mem) : Val → Prop
  | send (v : Val) (t : Dt) (k : Int) (r : Rd (fun a => b ≤ a) h 1 v t) : Cl b h (.tup [.str "send", v, .int k])
  | receive : Cl b h (.tup [.str "receive"])
theorem drawn_ok (he : 8 ≤ e) (st : St h) (hb : 3 ≤ h.length) {Q : Val → Mem → Prop} {X : XQ} (q : ∀ c h', Dw h h' → Cl h.length h' c → Q c h') : (callF Γ e "_law_drawn_call" [.ref 2] h).W Q X := by
  obtain ⟨d, rfl⟩ : ∃ d, e = d + 1 := ⟨e - 1, by omega⟩
  have lsz := sizeLine_eq
  rw [c__law_drawn_call]
  simp only [W_fin, s__law_drawn_call]
  rw [seqI]
  simp
  refine take_then (take_ok (by omega)) st (by decide) fun r h1 r0 r1 d1 => ?_
  have l1 := d1.len
  show FwI _ _
  rw [FwI_iff, seqI]
  simp
  refine ⟨fun _ => ?_, fun _ => ?_⟩
  · refine wrongi_ok (by omega) 0 65535 h1 d1.st (by omega) (by omega) (by omega) (by omega) (by decide) (by kernel_rfl) fun v h2 d2 wr => ?_
    obtain ⟨t, rt, _⟩ := wr.rd
    refine take_then (take_ok (by omega)) d2.st (by decide) fun k h3 k0 k1 d3 => ?_
    simp [lsz]
    exact q _ h3 (d1.dw.trans (d2.trans d3.dw)) (.send v t k (by rw [← l1]; exact rt.dw d3.dw (by omega)))
  · show FwI _ _
    rw [FwI_iff, seqI]
    simp
    refine ⟨fun _ => ?_, fun _ => ?_⟩
    · refine word_ok (by omega) h1 d1.st fun w h2 w0 w1 d2 => ?_
      refine take_then (take_ok (by omega)) d2.st (by decide) fun k h3 k0 k1 d3 => ?_
      simp [lsz]
      exact q _ h3 (d1.dw.trans (d2.trans d3.dw)) (.send (.int w) (.int w) k (.int w))
    · show FwI _ _
      rw [FwI_iff]
      simp [lsz]
      exact q _ h1 d1.dw .receive
theorem cmp_br {h : Mem} : cmpop .Eq h (.tup [.str "BadArgument", .str "room"]) (.tup [.str "BadArgument", .str "room"]) = some true := by
  have f : ∀ v ∈ [Val.str "BadArgument", Val.str "room"], flt v := fun v hv => by
    simp at hv
    rcases hv with rfl | rfl
    · exact .inl ⟨_, rfl, shp_Bad⟩
    · exact .inl ⟨_, rfl, shp_room⟩
  obtain ⟨b, e1, e2⟩ := cmp_flt (h := h) f f (by simp) (by simp)
  rw [e1, e2.mpr rfl]
theorem refuses_ok (he : 8 ≤ e) {pp : Nat → Prop} {n : Nat} {v : Val} {t : Dt} (r : Rd pp h n v t) (hn : wI 1 16 t = false) {Q : Val → Mem → Prop} {X : XQ} (q : ∀ h', Q (.bl true) h') : (callF Γ e "_law_refuses" [v] h).W Q X := by
  obtain ⟨d, rfl⟩ : ∃ d, e = d + 1 := ⟨e - 1, by omega⟩
  have lsz := sizeLine_eq
  rw [c__law_refuses]
  simp only [W_fin, s__law_refuses]
  rw [seqI]
  have r2 := r.gr (Gr.new h [Ob.ins "Pipe" []])
  simp [mkI, selV, pick1, dropNon, init_no (P := h.length) (show 4 ≤ d by omega) r2 hn, tryX, wipeE, refusal_ok (show 1 ≤ d by omega), aftP, lsz, cmp_br]
  exact q _
end
end K45
set_option Elab.async false
set_option linter.all false
set_option maxRecDepth 100000
set_option maxHeartbeats 2000000
namespace K45
open Mp PySem L2
def k_law_0 (c : CallT) : MS := (sSet 1 (eCall (c "_law_store") (aCons (eVar 0) (aCons (eC (.int (45))) aNil))))
def k_law_1 (c : CallT) : MS := (sSet 2 (eCall (c "_law_between") (aCons (eVar 1) (aCons (eC (.int (1))) (aCons (eC (.int (16))) aNil)))))
def k_law_2 (c : CallT) : MS := (sSet 3 (eMake (c "Pipe.__init__") "Pipe" [.ps 0, .kw 0] aNil (aCons (eVar 2) aNil)))
def k_law_3 (c : CallT) : MS := (sSet 4 (eMake (c "Pipe.__init__") "Pipe" [.ps 0, .df (.int (4))] aNil aNil))
def k_law_4 (c : CallT) : MS := (sSet 5 (eTup (aCons (eLst aNil) (aCons (eC (.int (0))) aNil))))
def k_law_5 (c : CallT) : MS := (sSet 6 (eTup (aCons (eLst aNil) (aCons (eC (.int (0))) aNil))))
def k_law_6 (c : CallT) : MS := (sIf (tOr (tNot (tE (eCall (c "_law_shown") (aCons (eVar 3) (aCons (eVar 2) (aCons (eLst aNil) (aCons (eC (.int (0))) aNil))))))) (tNot (tE (eCall (c "_law_shown") (aCons (eVar 4) (aCons (eC (.int (4))) (aCons (eLst aNil) (aCons (eC (.int (0))) aNil)))))))) (sRet (eC (.bl false))) sSkip)
def k_law_7 (c : CallT) : MS := (sIf (tE (eCmp .Eq (eCall (c "_law_take") (aCons (eVar 1) (aCons (eC (.int (3))) aNil))) (eC (.int (0))))) (sFor (.nm 7) (iVal (eCall (c "_law_words") (aCons (eVar 1) (aCons (eBin .Add (eVar 2) (eCall (c "_law_take") (aCons (eVar 1) (aCons (eC (.int (2))) aNil)))) aNil)))) (sSeq (sSet 5 (eCall (c "_law_step") (aCons (eVar 3) (aCons (eVar 2) (aCons (eIdx (eVar 5) (eC (.int (0)))) (aCons (eIdx (eVar 5) (eC (.int (1)))) (aCons (eTup (aCons (eC (.str "send")) (aCons (eVar 7) (aCons (eC (.int (1))) aNil)))) aNil))))))) (sIf (tE (eCmp .Is (eVar 5) (eC (.non)))) (sRet (eC (.bl false))) sSkip)) sSkip) sSkip)
def k_law_8 (c : CallT) : MS := (sSet 9 (eCall (c "_law_drawn_call") (aCons (eVar 1) aNil)))
def k_law_9 (c : CallT) : MS := (sIf (tE (eCmp .Eq (eCall (c "_law_take") (aCons (eVar 1) (aCons (eC (.int (4))) aNil))) (eC (.int (0))))) (sSet 6 (eCall (c "_law_step") (aCons (eVar 4) (aCons (eC (.int (4))) (aCons (eIdx (eVar 6) (eC (.int (0)))) (aCons (eIdx (eVar 6) (eC (.int (1)))) (aCons (eVar 9) aNil))))))) (sSet 5 (eCall (c "_law_step") (aCons (eVar 3) (aCons (eVar 2) (aCons (eIdx (eVar 5) (eC (.int (0)))) (aCons (eIdx (eVar 5) (eC (.int (1)))) (aCons (eVar 9) aNil))))))))
def k_law_10 (c : CallT) : MS := (sIf (tOr (tE (eCmp .Is (eVar 5) (eC (.non)))) (tOr (tE (eCmp .Is (eVar 6) (eC (.non)))) (tNot (tE (eCall (c "_law_shown") (aCons (eVar 3) (aCons (eVar 2) (aCons (eIdx (eVar 5) (eC (.int (0)))) (aCons (eIdx (eVar 5) (eC (.int (1)))) aNil))))))))) (sRet (eC (.bl false))) sSkip)
def k_law_11 (c : CallT) : MS := (sIf (tNot (tE (eCall (c "_law_shown") (aCons (eVar 4) (aCons (eC (.int (4))) (aCons (eIdx (eVar 6) (eC (.int (0)))) (aCons (eIdx (eVar 6) (eC (.int (1)))) aNil))))))) (sRet (eC (.bl false))) sSkip)
def k_law_12 (c : CallT) : MS := (sSeq (k_law_8 c) (sSeq (k_law_9 c) (sSeq (k_law_10 c) (k_law_11 c))))
def k_law_13 (c : CallT) : MS := (sFor (.nm 8) (iRng1 (eCall (c "_law_size") (aCons (eVar 1) (aCons (eC (.int (40))) aNil)))) (k_law_12 c) sSkip)
def k_law_14 (c : CallT) : MS := (sSet 5 (eCall (c "_law_step") (aCons (eVar 3) (aCons (eVar 2) (aCons (eIdx (eVar 5) (eC (.int (0)))) (aCons (eIdx (eVar 5) (eC (.int (1)))) (aCons (eTup (aCons (eC (.str "receive")) aNil)) aNil)))))))
def k_law_15 (c : CallT) : MS := (sIf (tE (eCmp .Is (eVar 5) (eC (.non)))) (sRet (eC (.bl false))) sSkip)
def k_law_16 (c : CallT) : MS := (sSeq (k_law_14 c) (k_law_15 c))
def k_law_17 (c : CallT) : MS := (sFor (.nm 8) (iRng1 (eBin .Mult (eCall (c "_law_take") (aCons (eVar 1) (aCons (eC (.int (2))) aNil))) (eC (.int (17))))) (k_law_16 c) sSkip)
def k_law_18 (c : CallT) : MS := (sIf (tOr (tNot (tE (eCall (c "_law_paired") (aCons (eVar 3) (aCons (eSlice (eIdx (eVar 5) (eC (.int (0)))) (oSome (eIdx (eVar 5) (eC (.int (1))))) oNone) aNil))))) (tNot (tE (eCall (c "_law_paired") (aCons (eVar 4) (aCons (eSlice (eIdx (eVar 6) (eC (.int (0)))) (oSome (eIdx (eVar 6) (eC (.int (1))))) oNone) aNil)))))) (sRet (eC (.bl false))) sSkip)
def k_law_19 (c : CallT) : MS := (sRet (eAnd (eCall (c "_law_shown") (aCons (eVar 3) (aCons (eVar 2) (aCons (eIdx (eVar 5) (eC (.int (0)))) (aCons (eIdx (eVar 5) (eC (.int (1)))) aNil))))) (eCall (c "_law_refuses") (aCons (eCall (c "_law_wrong_integer") (aCons (eVar 1) (aCons (eC (.int (1))) (aCons (eC (.int (16))) aNil)))) aNil))))
theorem s_law_eq (c : CallT) : s_law c = (sSeq (k_law_0 c) (sSeq (k_law_1 c) (sSeq (k_law_2 c) (sSeq (k_law_3 c) (sSeq (k_law_4 c) (sSeq (k_law_5 c) (sSeq (k_law_6 c) (sSeq (k_law_7 c) (sSeq (k_law_13 c) (sSeq (k_law_17 c) (sSeq (k_law_18 c) (k_law_19 c)))))))))))) := rfl
theorem stOf {h h' : Mem} {S : List Nat} (s : St h) (f : Fr S h h') (n2 : 2 ∉ S) (n1 : 1 ∉ S) : St h' := by
  obtain ⟨ns, p, c, t, s, e2, e1, hp, hc⟩ := s.ex
  exact ⟨ns, p, c, t, s, f.get e2 n2, f.get e1 n1, hp, hc⟩
/-- between the calls -/
structure LI (h : Mem) (rm : Int) (S1 S2 : Nat) (s1 s2 : List Int) (o1 o2 : Nat) : Prop where
  st : St h
  a : Stt h 3 4 rm S1 s1 o1
  b : Stt h 5 6 4 S2 s2 o2
  g1 : 7 ≤ S1
  g2 : 7 ≤ S2
section
variable {h h' : Mem} {rm : Int} {S1 S2 : Nat} {s1 s2 : List Int} {o1 o2 : Nat}
theorem LI.len (I : LI h rm S1 S2 s1 s2 o1 o2) : 7 < h.length := by
  have := lt_of_get I.a.ls
  have := I.g1
  omega
theorem LI.dw (I : LI h rm S1 S2 s1 s2 o1 o2) (d : Dw h h') : LI h' rm S1 S2 s1 s2 o1 o2 :=
  have := I.g1
  have := I.g2
  ⟨d.st, I.a.fr d.fr (by simp) (by simp) (by simp; omega), I.b.fr d.fr (by simp) (by simp) (by simp; omega), I.g1, I.g2⟩
theorem LI.gr (I : LI h rm S1 S2 s1 s2 o1 o2) (g : Gr h h') : LI h' rm S1 S2 s1 s2 o1 o2 := I.dw (Dw.gr I.st g)
theorem LI.one (I : LI h rm S1 S2 s1 s2 o1 o2) {S' : Nat} {s' : List Int} {o' : Nat} (f : Fr [3, 4] h h') (A : Stt h' 3 4 rm S' s' o') (hS : S' = S1 ∨ h.length ≤ S') : LI h' rm S' S2 s' s2 o' o2 := by
  have := I.g1
  have := I.g2
  have := I.len
  exact ⟨stOf I.st f (by simp) (by simp), A, I.b.fr f (by simp) (by simp) (by simp; omega), by omega, I.g2⟩
theorem LI.two (I : LI h rm S1 S2 s1 s2 o1 o2) {S' : Nat} {s' : List Int} {o' : Nat} (f : Fr [5, 6] h h') (A : Stt h' 5 6 4 S' s' o') (hS : S' = S2 ∨ h.length ≤ S') : LI h' rm S1 S' s1 s' o1 o' := by
  have := I.g1
  have := I.g2
  have := I.len
  exact ⟨stOf I.st f (by simp) (by simp), I.a.fr f (by simp) (by simp) (by simp; omega), A, I.g1, by omega⟩
/-- any drawn call -/
theorem step_ok {e : Nat} (he : 14 ≤ e) {P W S b : Nat} {room : Int} {ss : List Int} {o : Nat} {c : Val} (hW : W ≠ S) (hP : P < b ∧ W < b) (A : Stt h P W room S ss o) (hl : ss.length < 4000) (C : Cl b h c) {Q : Val → Mem → Prop} {X : XQ}
    (q : ∀ S' ss' o' h', Fr [P, W] h h' → Stt h' P W room S' ss' o' → ss'.length ≤ ss.length + 1 → (S' = S ∨ h.length ≤ S') → Q (.tup [.ref S', .int (o' : Nat)]) h') :
    (callF Γ e "_law_step" [.ref P, .int room, .ref S, .int o, c] h).W Q X := by
  cases C with
  | send v t k r => exact step_send he hW A r (fun a ha => ⟨by omega, by omega⟩) hl k q
  | receive => exact step_receive he hW A fun o' h' f B => q S ss o' h' f B (by omega) (.inl rfl)
end
abbrev Ro (rm : Int) (S1 S2 o1 o2 : Nat) (z7 z8 z9 : Option Val) : Mp.Env := [some (.ref 0), some (.ref 2), some (.int rm), some (.ref 3), some (.ref 5), some (.tup [.ref S1, .int (o1 : Nat)]), some (.tup [.ref S2, .int (o2 : Nat)]), z7, z8, z9]
theorem pslice {h : Mem} {P W S : Nat} {room : Int} {ss : List Int} {o : Nat} (A : Stt h P W room S ss o) : sliceV (.ref S) (some (o : Int)) none h = newL ((ss.drop o).map .int) h := by
  simp [A.ls, cut_map, cut_drop]
theorem tail_ok {h : Mem} {rm : Int} {S1 S2 : Nat} {s1 s2 : List Int} {o1 o2 : Nat} (I : LI h rm S1 S2 s1 s2 o1 o2) (hr : rm ≤ 16) (hl1 : s1.length < 4000) {z7 z8 z9 : Option Val} {P : Po} (q : ∀ h', P.rt (.bl true) h') :
    FwI (sSeq (k_law_18 (callF Γ 29)) (k_law_19 (callF Γ 29)) (Ro rm S1 S2 o1 o2 z7 z8 z9) h) P := by
  have lsz := sizeLine_eq
  have c1 := I.a.cap
  have c2 := I.b.cap
  have d1 : (s1.drop o1).length = s1.length - o1 := List.length_drop
  have d2 : (s2.drop o2).length = s2.length - o2 := List.length_drop
  (show FwI _ _; rw [FwI_iff, seqI]; simp only [k_law_18])
  obtain ⟨z1, hz1⟩ : ∃ z1, z1 = (s1.drop o1).map Val.int := ⟨_, rfl⟩
  have lz1 : z1.length = s1.length - o1 := by rw [hz1]; simp
  have cd1 : cut (s1.map Val.int) (some (o1 : Int)) none = z1 := by rw [cut_map, cut_drop, hz1]
  obtain ⟨z2, hz2⟩ : ∃ z2, z2 = (s2.drop o2).map Val.int := ⟨_, rfl⟩
  have lz2 : z2.length = s2.length - o2 := by rw [hz2]; simp
  have cd2 : cut (s2.map Val.int) (some (o2 : Int)) none = z2 := by rw [cut_map, cut_drop, hz2]
  simp [I.a.ls, cd1, newL, lsz]
  refine ⟨by omega, ?_⟩
  have I1 := I.gr (Gr.new h [Ob.lst z1])
  refine paired_ok (by omega) I1.a.pi (by rw [← hz1]; exact get_new _ _) (by omega) fun h1 g1 => ?_
  have I2 := I1.gr g1
  simp [I2.b.ls, cd2, newL, lsz]
  refine ⟨by omega, ?_⟩
  have I3 := I2.gr (Gr.new h1 [Ob.lst z2])
  refine paired_ok (by omega) I3.b.pi (by rw [← hz2]; exact get_new _ _) (by omega) fun h2 g2 => ?_
  have I4 := I3.gr g2
  simp
  (show FwI _ _; rw [FwI_iff]; simp only [k_law_19])
  simp
  refine shown_ok (by omega) I4.a hl1 fun h3 g3 => ?_
  have I5 := I4.gr g3
  simp
  refine wrongi_ok (by omega) 1 16 h3 I5.st (by omega) (by omega) (by omega) (by omega) (by decide) (by kernel_rfl) fun v h4 d4 wr => ?_
  obtain ⟨t, rt, wt⟩ := wr.rd
  exact refuses_ok (by omega) rt wt fun h5 => q h5
theorem nn (n : Nat) : ((n : Int)).toNat = n := by omega
/-- the invariants of the loops -/
def RI (rm : Int) (S1 S2 : Nat) (s1 s2 : List Int) (o2 : Nat) (ρ : Mp.Env) (h' : Mem) : Prop := ∃ o z7 z8 z9, LI h' rm S1 S2 s1 s2 o o2 ∧ ρ = Ro rm S1 S2 o o2 z7 z8 z9
def CI (rm : Int) (b i : Nat) (ρ : Mp.Env) (h' : Mem) : Prop := ∃ S1 S2 s1 s2 o1 o2 z7 z8 z9, LI h' rm S1 S2 s1 s2 o1 o2 ∧ s1.length ≤ b + i ∧ s2.length ≤ b + i ∧ ρ = Ro rm S1 S2 o1 o2 z7 z8 z9
theorem recv_ok {h : Mem} {rm : Int} {S1 S2 : Nat} {s1 s2 : List Int} {o1 o2 : Nat} (I : LI h rm S1 S2 s1 s2 o1 o2) (hr : rm ≤ 16) (hl1 : s1.length < 4000) {z7 z8 z9 : Option Val} {P : Po} (q : ∀ h', P.rt (.bl true) h') :
    FwI (sSeq (k_law_17 (callF Γ 29)) (sSeq (k_law_18 (callF Γ 29)) (k_law_19 (callF Γ 29))) (Ro rm S1 S2 o1 o2 z7 z8 z9) h) P := by
  have lsz := sizeLine_eq
  (show FwI _ _; rw [FwI_iff, seqI]; simp only [k_law_17])
  simp
  refine take_then (take_ok (by omega)) I.st (by decide) fun r h1 r0 r1 d1 => ?_
  simp
  refine ⟨mul_ok (.inl ⟨by omega, by omega⟩), by unfold small62; simp; omega, ?_⟩
  refine for_rng (fun i => RI rm S1 S2 s1 s2 o2) ⟨o1, _, _, _, I.dw d1.dw, rfl⟩ ?_ ?_
  · rintro i ρ h2 hi ⟨o, z7, z8, z9, I2, rfl⟩
    have e1 := I2.g1
    simp only [k_law_16]
    rw [seqI]
    simp only [k_law_14]
    simp [lsz]
    refine step_receive (by omega) (by omega) I2.a fun o' h3 f3 B3 => ?_
    (show FwI _ _; rw [FwI_iff]; simp only [k_law_15])
    simp
    exact ⟨o', _, _, _, I2.one f3 B3 (.inl rfl), rfl⟩
  · rintro ρ h2 ⟨o, z7, z8, z9, I2, rfl⟩
    exact tail_ok I2 hr hl1 q
theorem calls_ok {h : Mem} {rm : Int} {S1 S2 : Nat} {s1 s2 : List Int} {o1 o2 : Nat} (I : LI h rm S1 S2 s1 s2 o1 o2) (hr : rm ≤ 16) (hl1 : s1.length ≤ 100) (hl2 : s2.length ≤ 100) {z7 z8 z9 : Option Val} {P : Po} (q : ∀ h', P.rt (.bl true) h') :
    FwI (sSeq (k_law_13 (callF Γ 29)) (sSeq (k_law_17 (callF Γ 29)) (sSeq (k_law_18 (callF Γ 29)) (k_law_19 (callF Γ 29)))) (Ro rm S1 S2 o1 o2 z7 z8 z9) h) P := by
  have lsz := sizeLine_eq
  (show FwI _ _; rw [FwI_iff, seqI]; simp only [k_law_13])
  simp
  refine size_then (size_ok (by omega)) I.st (by decide) (by decide) fun r h1 r0 r1 d1 => ?_
  simp
  refine ⟨by unfold small62; simp; omega, ?_⟩
  refine for_rng (CI rm 100) ⟨S1, S2, s1, s2, o1, o2, _, _, _, I.dw d1.dw, by omega, by omega, rfl⟩ ?_ ?_
  · rintro i ρ h2 hi ⟨S1, S2, s1, s2, o1, o2, z7, z8, z9, I2, m1, m2, rfl⟩
    have hi40 : i ≤ 40 := by omega
    have fin_ : ∀ {h : Mem} {S1 S2 : Nat} {s1 s2 : List Int} {o1 o2 : Nat} {z7 z8 z9 : Option Val}, LI h rm S1 S2 s1 s2 o1 o2 → s1.length ≤ 100 + (i + 1) → s2.length ≤ 100 + (i + 1) → ∀ P : Po, (∀ z7 z8 z9 h', LI h' rm S1 S2 s1 s2 o1 o2 → P.nx (Ro rm S1 S2 o1 o2 z7 z8 z9) h') → FwI (sSeq (k_law_10 (callF Γ 29)) (k_law_11 (callF Γ 29)) (Ro rm S1 S2 o1 o2 z7 z8 z9) h) P := fun {h S1 S2 s1 s2 o1 o2 z7 z8 z9} I l1 l2 P q => by
      (show FwI _ _; rw [FwI_iff, seqI]; simp only [k_law_10])
      simp
      refine shown_ok (by omega) I.a (by omega) fun h3 g3 => ?_
      simp
      have I3 := I.gr g3
      (show FwI _ _; rw [FwI_iff]; simp only [k_law_11])
      simp
      refine shown_ok (by omega) I3.b (by omega) fun h4 g4 => ?_
      simp
      exact q _ _ _ _ (I3.gr g4)
    have e1 := I2.g1
    have e2 := I2.g2
    have e3 := I2.len
    simp only [k_law_12]
    rw [seqI]
    simp only [k_law_8]
    simp
    refine drawn_ok (by omega) I2.st (by omega) fun c h3 d3 C => ?_
    have I3 := I2.dw d3
    (show FwI _ _; rw [FwI_iff, seqI]; simp only [k_law_9])
    simp
    refine take_then (take_ok (by omega)) I3.st (by decide) fun r h4 r0 r1 d4 => ?_
    have I4 := I3.dw d4.dw
    have C4 : Cl h2.length h4 c := by
      cases C with
      | send v t k r => exact .send v t k (r.dw d4.dw (by omega))
      | receive => exact .receive
    simp
    refine ⟨fun _ => ?_, fun _ => ?_⟩
    · refine step_ok (by omega) (by omega) ⟨by omega, by omega⟩ I4.b (by omega) C4 fun S' s' o' h5 f5 B5 l5 n5 => ?_
      exact fin_ (I4.two f5 B5 n5) (by omega) (by omega) _ fun z7 z8 z9 h' I' => ⟨S1, S', s1, s', o1, o', z7, z8, z9, I', by omega, by omega, rfl⟩
    · refine step_ok (by omega) (by omega) ⟨by omega, by omega⟩ I4.a (by omega) C4 fun S' s' o' h5 f5 B5 l5 n5 => ?_
      exact fin_ (I4.one f5 B5 n5) (by omega) (by omega) _ fun z7 z8 z9 h' I' => ⟨S', S2, s', s2, o', o2, z7, z8, z9, I', by omega, by omega, rfl⟩
  · rintro ρ h2 ⟨S1, S2, s1, s2, o1, o2, z7, z8, z9, I2, m1, m2, rfl⟩
    exact recv_ok I2 hr (by omega) q
def WI (rm : Int) (a : Nat) (ws : List Int) (i : Nat) (ρ : Mp.Env) (h' : Mem) : Prop := ∃ S1 s1 o1 z7 z8 z9, LI h' rm S1 8 s1 [] o1 0 ∧ s1.length ≤ i ∧ h'[a]? = some (.lst (ws.map .int)) ∧ ρ = Ro rm S1 8 o1 0 z7 z8 z9
theorem main (ns : List Int) (hn : ns.length ≤ 63) : ∃ h', callF T.pg 30 "law" [.ref 0] (mem0 ns) = .ok (.bl true) h' := by
  have lsz := sizeLine_eq
  suffices hw : (callF T.pg 30 "law" [.ref 0] (mem0 ns)).W (fun v _ => v = .bl true) nX by
    cases e : callF T.pg 30 "law" [.ref 0] (mem0 ns) with
    | ok v h' => rw [e] at hw; exact ⟨h', by rw [show v = .bl true from hw]⟩
    | exc c fs h' => rw [e] at hw; exact hw.elim
    | bad => rw [e] at hw; exact hw.elim
  show (callF Γ (29 + 1) "law" [.ref 0] (mem0 ns)).W _ _
  rw [c_law]
  simp only [W_fin, s_law_eq]
  rw [seqI]
  simp only [k_law_0]
  simp
  rw [c__law_store]
  refine sp_store _ ns 45 hn fun h0 l0 st0 e0 => ?_
  (show FwI _ _; rw [FwI_iff, seqI]; simp only [k_law_1])
  simp
  refine between_then (between_ok (by omega)) st0 (by decide) (by decide) fun rm h1 r1 r2 d1 => ?_
  have l1 : h1.length = 3 := d1.len.trans l0
  have st1 := d1.st
  (show FwI _ _; rw [FwI_iff, seqI]; simp only [k_law_2])
  simp [mkI, selV, pick1, l1]
  have en := get_new h1 (Ob.ins "Pipe" [])
  have l2 : (h1 ++ [Ob.ins "Pipe" []]).length = 4 := by simp [l1]
  have st2 := st1.app [Ob.ins "Pipe" []]
  rw [l1] at en
  generalize h1 ++ [Ob.ins "Pipe" []] = h2 at *
  refine init_ok (by omega) r1 r2 en fun h3 l3 f3 A3 => ?_
  rw [l2] at l3 A3
  have st3 := stOf st2 f3 (by simp) (by simp)
  simp
  (show FwI _ _; rw [FwI_iff, seqI]; simp only [k_law_3])
  simp [mkI, selV, pick1, l3]
  have en := get_new h3 (Ob.ins "Pipe" [])
  have l4 : (h3 ++ [Ob.ins "Pipe" []]).length = 6 := by simp [l3]
  have st4 := st3.app [Ob.ins "Pipe" []]
  have A4 := A3.gr (Gr.new h3 [Ob.ins "Pipe" []])
  rw [l3] at en
  generalize h3 ++ [Ob.ins "Pipe" []] = h4 at *
  refine init_ok (room := 4) (by omega) (by omega) (by omega) en fun h5 l5 f5 B5 => ?_
  rw [l4] at l5 B5
  have st5 := stOf st4 f5 (by simp) (by simp)
  have A5 := A4.fr f5 (by simp) (by simp)
  simp
  (show FwI _ _; rw [FwI_iff, seqI]; simp only [k_law_4])
  simp [lsz]
  (show FwI _ _; rw [FwI_iff, seqI]; simp only [k_law_5])
  simp [lsz]
  rw [l5]
  have st6 := st5.app [Ob.lst [], Ob.lst []]
  have I6 : LI (h5 ++ [Ob.lst [], Ob.lst []]) rm 7 8 [] [] 0 0 := by
    refine ⟨st6, ⟨by simpa using A5.gr (Gr.new h5 [Ob.lst [], Ob.lst []]), ?_, by simp, by simp; omega⟩, ⟨by simpa using B5.gr (Gr.new h5 [Ob.lst [], Ob.lst []]), ?_, by simp, by simp⟩, by omega, by omega⟩
    · have := gapp h5 [Ob.lst [], Ob.lst []] 0
      rw [l5] at this
      simpa using this
    · have := gapp h5 [Ob.lst [], Ob.lst []] 1
      rw [l5] at this
      simpa using this
  generalize h5 ++ [Ob.lst [], Ob.lst []] = h6 at *
  (show FwI _ _; rw [FwI_iff, seqI]; simp only [k_law_6])
  simp
  have I7 := I6.gr (Gr.new h6 [Ob.lst []])
  refine shown_ok (S := h6.length) (ss := []) (o := 0) (by omega) ⟨I7.a.pi, by simpa using get_new h6 (Ob.lst []), by simp, by simp; omega⟩ (by simp) fun h7 g7 => ?_
  have I8 := I7.gr g7
  simp
  have I9 := I8.gr (Gr.new h7 [Ob.lst []])
  refine shown_ok (S := h7.length) (ss := []) (o := 0) (by omega) ⟨I9.b.pi, by simpa using get_new h7 (Ob.lst []), by simp, by simp⟩ (by simp) fun h8 g8 => ?_
  have I10 := I9.gr g8
  simp
  (show FwI _ _; rw [FwI_iff, seqI]; simp only [k_law_7])
  simp
  refine take_then (take_ok (by omega)) I10.st (by decide) fun r h9 _ _ d9 => ?_
  have I11 := I10.dw d9.dw
  simp
  refine ⟨fun _ => ?_, fun _ => calls_ok I11 r2 (by simp) (by simp) fun _ => rfl⟩
  refine take_then (take_ok (by omega)) I11.st (by decide) fun r' h10 r0' r1' d10 => ?_
  have I12 := I11.dw d10.dw
  obtain ⟨m, hm, m17⟩ : ∃ m : Nat, rm + r' = (m : Int) ∧ m ≤ 18 := ⟨(rm + r').toNat, by omega, by omega⟩
  simp [hm]
  refine words_ok (by omega) m h10 I12.st (by omega) fun a ws h11 wl ww d11 ha ea => ?_
  have I13 := I12.dw d11
  have a7 : 7 < a := by have := I12.len; omega
  simp [ea]
  rw [show ws.length = (ws.map Val.int).length by simp]
  refine for_lst (WI rm a ws) ⟨7, [], 0, none, none, none, I13, by simp, ea, rfl⟩ (fun i ρ h' _ ⟨_, _, _, _, _, _, _, _, z, _⟩ => z) ?_ ?_
  · rintro i x ρ h' hx ⟨S1, s1, o1, z7, z8, z9, I, ls, e, rfl⟩
    obtain ⟨w, hw, rfl⟩ := map_inv hx
    have hi := list_get hw
    have e1 := I.g1
    rw [seqI]
    simp [lsz]
    refine step_send (pp := fun _ => False) (n := 0) (t := .int w) (by omega) (by omega) I.a (.int w) (fun a z => z.elim) (by omega) 1 fun S' s' o' h'' f B l n => ?_
    show FwI _ _
    rw [FwI_iff]
    simp
    exact ⟨S', s', o', _, _, _, I.one f B n, by omega, f.get e (by simp; omega), rfl⟩
  · rintro ρ h' ⟨S1, s1, o1, z7, z8, z9, I, ls, e, rfl⟩
    simp at ls
    simp
    exact calls_ok I r2 (by omega) (by simp) fun _ => rfl
end K45
set_option maxHeartbeats 2000000
open PySem PySem.W PySem.Calls PyProof.Rows in
theorem PySem.Challenge.cw_wardwork_k45_pipe_in_order_holds : PySem.Challenge.rw_wardwork_k45_pipe_in_order.Holds := by
  w_on; o_law
  refine HandSHeadRun.head_any (r := OpenLaw.row PySem.Challenge.rw_wardwork_k45_pipe_in_order) (q := K45.qv) (H := K45.hk) (ob := K45.ob) (M := 8000) (loose := K45.loose) (d := HandSHeadRun.topDef (OpenLaw.row PySem.Challenge.rw_wardwork_k45_pipe_in_order).prog 39) (kwd := []) K45.ob_eq
    (by kernel_rfl) (fun s => by kernel_rfl) K45.run (by kernel_rfl) (by kernel_rfl) (by kernel_rfl) (by rfl) (by first | assumption | decide +kernel) (by decide +kernel) ⟨rfl, rfl, rfl, rfl, rfl, by decide +kernel⟩ ?hw ?hc
  case hw => w_witness2
  case hc => exact Mp.law_walk K45.txtOk (l := PySem.Challenge.rw_wardwork_k45_pipe_in_order) (n := 63) (dq := 29) (x := "_law_script") (dl := K45.d_law) rfl (by decide) (by kernel_rfl) ⟨rfl, by decide, by decide⟩ (by kernel_rfl) (by simp [K45.T]) rfl rfl (by decide +kernel) rfl rfl rfl K45.bl (by decide +kernel) (by decide +kernel) K45.main
