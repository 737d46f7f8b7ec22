import PyProof.Rows.All
import Wide.All
import OpenK.AllK
import Wide.FinOn
import HandS.ForMost
import HandS.ForExc
import HandS.Flow
import HandS.IsInst
import HandS.Wide
import HandS.EndBits
import HandS.CallSlots
import HandS.TryMany
import HandS.TupAny
import HandS.Deep
import HandS.Style
import KE.LtData
import HandS.Set
import HandS.SetKeys
import KE.SortData
import PySem.Challenge.RW_endlessterms_k01_worlds_judged
set_option Elab.async false
set_option linter.all false
set_option autoImplicit false
section
set_option maxRecDepth 100000
set_option maxHeartbeats 4000000
/-! Vm0: what stands in the slots, as plain data: the state, the readings that plain functions make. -/
namespace Vm
open PySem PySem.Spec PyProof.Rows L2

abbrev D := PyData
abbrev Sg := L2.St

/-! ### data in the abstract heap -/
def keyD : Key → D
  | .inl i => .int i
  | .inr x => .str x

mutual
inductive Rp (K : PySem.W.Frag) (F : Hp) : V → D → Prop
  | non : Rp K F .non .none
  | bl (b : Bool) : Rp K F (.bl b) (.bool b)
  | int (i : Int) : Rp K F (.int i) (.int i)
  | str (x : Str) : Rp K F (.str x) (.str x)
  | lst {a : Addr} {xs : List V} {ds : List D} : Rd F a (.lst xs) → RpA K F xs ds → Rp K F (.ref a) (.list ds)
  | tup {a : Addr} {xs : List V} {ds : List D} : SqT K F a xs → RpA K F xs ds → Rp K F (.ref a) (.tuple ds)
  | dcK {a : Addr} {kv : List (Key × V)} {es : List (D × D)} : F a = some (.dK kv) → es.map (·.1) = kv.map (fun q => keyD q.1) → RpA K F (kv.map (·.2)) (es.map (·.2)) → Rp K F (.ref a) (.dict es)
  | dcT {a : Addr} {kv : List (List Key × V)} {es : List (D × D)} : F a = some (.dT kv) → es.map (·.1) = kv.map (fun q => .tuple (q.1.map keyD)) → RpA K F (kv.map (·.2)) (es.map (·.2)) → Rp K F (.ref a) (.dict es)
inductive RpA (K : PySem.W.Frag) (F : Hp) : List V → List D → Prop
  | nil : RpA K F [] []
  | cons {v : V} {vs : List V} {d : D} {ds : List D} : Rp K F v d → RpA K F vs ds → RpA K F (v :: vs) (d :: ds)
end

theorem _root_.L2.Same.rd {H H' : Hp} {a : Addr} {u : HO} (e : Same H H') (h : Rd H a u) : Rd H' a u := by
  rcases h with h | ⟨o, h⟩
  · exact .inl (e _ _ h)
  · exact .inr ⟨o, e _ _ h⟩
theorem _root_.L2.Same.sqt {K : PySem.W.Frag} {H H' : Hp} {a : Addr} {xs : List V} (e : Same H H') (h : SqT K H a xs) : SqT K H' a xs := by
  rcases h with (h | ⟨o, h⟩) | h
  · exact .inl (.inl (e _ _ h))
  · exact .inl (.inr ⟨o, e _ _ h⟩)
  · exact .inr h

section
variable {K : PySem.W.Frag} {F F' : Hp}
mutual
theorem Rp.mono (s : Same F F') : ∀ {v : V} {d : D}, Rp K F v d → Rp K F' v d
  | _, _, .non => .non
  | _, _, .bl b => .bl b
  | _, _, .int i => .int i
  | _, _, .str x => .str x
  | _, _, .lst h r => .lst (s.rd h) (RpA.mono s r)
  | _, _, .tup h r => .tup (s.sqt h) (RpA.mono s r)
  | _, _, .dcK h e r => .dcK (s _ _ h) e (RpA.mono s r)
  | _, _, .dcT h e r => .dcT (s _ _ h) e (RpA.mono s r)
theorem RpA.mono (s : Same F F') : ∀ {vs : List V} {ds : List D}, RpA K F vs ds → RpA K F' vs ds
  | _, _, .nil => .nil
  | _, _, .cons a r => .cons (Rp.mono s a) (RpA.mono s r)
end

/-- no dict within -/
def noDic : D → Bool
  | .none => true | .bool _ => true | .int _ => true | .str _ => true
  | .list xs => noDicA xs
  | .tuple xs => noDicA xs
  | .dict _ => false
where noDicA : List D → Bool
  | [] => true
  | x :: r => noDic x && noDicA r

mutual
theorem Rp.dp : ∀ {v : V} {d : D}, Rp K F v d → noDic d = true → Dp K F v d
  | _, _, .non, _ => .non
  | _, _, .bl b, _ => .bl b
  | _, _, .int i, _ => .int i
  | _, _, .str x, _ => .str x
  | _, _, .lst h r, e => .lst (.inl h) (RpA.dp r e)
  | _, _, .tup h r, e => .tup h (RpA.dp r e)
theorem RpA.dp : ∀ {vs : List V} {ds : List D}, RpA K F vs ds → noDic.noDicA ds = true → DpAll K F vs ds
  | _, _, .nil, _ => .nil
  | _, _, .cons a r, e => by
    have e' : (noDic _ && noDic.noDicA _) = true := e
    rw [Bool.and_eq_true] at e'
    exact .cons (Rp.dp a e'.1) (RpA.dp r e'.2)
end

theorem RpA.length : ∀ {vs : List V} {ds : List D}, RpA K F vs ds → vs.length = ds.length
  | _, _, .nil => rfl
  | _, _, .cons _ r => by simp [RpA.length r]
theorem RpA.get : ∀ {vs : List V} {ds : List D} {i : Nat} {d : D}, RpA K F vs ds → ds[i]? = some d → ∃ v, vs[i]? = some v ∧ Rp K F v d
  | _, _, _, _, .nil, h => by simp at h
  | _, _, 0, _, .cons a r, h => by simp at h; subst h; exact ⟨_, rfl, a⟩
  | _, _, i + 1, d, .cons a r, h => by
    obtain ⟨v, h1, h2⟩ := RpA.get (i := i) (d := d) r (by simpa using h)
    exact ⟨v, by simpa using h1, h2⟩
theorem RpA.getV : ∀ {vs : List V} {ds : List D} {i : Nat} {v : V}, RpA K F vs ds → vs[i]? = some v → ∃ d, ds[i]? = some d ∧ Rp K F v d
  | _, _, _, _, .nil, h => by simp at h
  | _, _, 0, _, .cons a r, h => by simp at h; subst h; exact ⟨_, rfl, a⟩
  | _, _, i + 1, v, .cons a r, h => by
    obtain ⟨d, h1, h2⟩ := RpA.getV (i := i) (v := v) r (by simpa using h)
    exact ⟨d, by simpa using h1, h2⟩
theorem RpA.append : ∀ {vs ws : List V} {ds es : List D}, RpA K F vs ds → RpA K F ws es → RpA K F (vs ++ ws) (ds ++ es)
  | _, _, _, _, .nil, s => s
  | _, _, _, _, .cons a r, s => .cons a (RpA.append r s)
theorem RpA.take : ∀ {vs : List V} {ds : List D} (n : Nat), RpA K F vs ds → RpA K F (vs.take n) (ds.take n)
  | _, _, 0, _ => .nil
  | _, _, _ + 1, .nil => .nil
  | _, _, n + 1, .cons a r => .cons a (RpA.take n r)
theorem RpA.drop : ∀ {vs : List V} {ds : List D} (n : Nat), RpA K F vs ds → RpA K F (vs.drop n) (ds.drop n)
  | _, _, 0, r => r
  | _, _, _ + 1, .nil => .nil
  | _, _, n + 1, .cons _ r => RpA.drop n r
theorem RpA.set {x : V} {u : D} (q : Rp K F x u) : ∀ {vs : List V} {ds : List D} (i : Nat), RpA K F vs ds → RpA K F (vs.set i x) (ds.set i u)
  | _, _, _, .nil => .nil
  | _, _, 0, .cons _ t => .cons q t
  | _, _, i + 1, .cons a t => .cons a (RpA.set q i t)
theorem RpA.reverse {vs : List V} {ds : List D} (h : RpA K F vs ds) : RpA K F vs.reverse ds.reverse := by
  induction vs generalizing ds with
  | nil => cases h; exact .nil
  | cons v r ih =>
    cases h with
    | cons a t =>
      rw [List.reverse_cons, List.reverse_cons]
      exact (ih t).append (.cons a .nil)
theorem RpA.ints : ∀ {ns : List Int} {vs : List V}, RpA K F vs (ns.map .int) → vs = ns.map V.int
  | [], _, .nil => rfl
  | n :: r, _, .cons a t => by
    cases a
    rw [RpA.ints t]; rfl
theorem RpA.ofInts : ∀ (ns : List Int), RpA K F (ns.map V.int) (ns.map .int)
  | [] => .nil
  | n :: r => .cons (.int n) (RpA.ofInts r)
end

/-! ### slots -/
/-- whose an object is: the slot's own, the caller's; lent: while a loop walks it nobody changes it -/
inductive Md where
  | mine | io | lentMine | lentIo
def Md.his : Md → Bool
  | .mine => false | .io => true | .lentMine => false | .lentIo => true
def Md.lent : Md → Bool
  | .mine => false | .io => false | .lentMine => true | .lentIo => true
def Md.lend : Md → Md
  | .mine => .lentMine | .io => .lentIo | b => b
/-- what stands in a slot: nothing; data that nobody changes; an object that only this slot knows -/
inductive Sl where
  | emp
  | val (d : D)
  | own (b : Md) (d : D)
abbrev Ev := List Sl

/-- the object at p, its members' data in F -/
def Own (K : PySem.W.Frag) (F H : Hp) (p : Addr) : D → Prop
  | .list ds => ∃ vs, H p = some (.lst vs) ∧ RpA K F vs ds
  | .dict es => (∃ kv : List (Key × V), H p = some (.dK kv) ∧ es.map (·.1) = kv.map (fun q => keyD q.1) ∧ RpA K F (kv.map (·.2)) (es.map (·.2))) ∨
      (∃ kv : List (List Key × V), H p = some (.dT kv) ∧ es.map (·.1) = kv.map (fun q => .tuple (q.1.map keyD)) ∧ RpA K F (kv.map (·.2)) (es.map (·.2)))
  | _ => False

/-- an exception: its class's name, a field of it -/
structure Xn where
  cls : Str
  pay : Option (Str × D) := none

/-- a slot's object that a loop walks -/
structure Lt where
  i : Nat
  p : Addr
  m : Md
  d : D
/-- what is fixed while a def runs: the written part, the heap at its entry, its caller's objects that it changes, what is wished of an exception, the module's names -/
structure Fc where
  K : PySem.W.Frag
  F0 : Hp
  H0 : Hp
  io : List Addr
  lent : List Lt
  W : WX
  mg : Str → Option Value

def SlOk (c : Fc) (F H : Hp) (x : Option (Option V)) : Sl → Prop
  | .emp => True
  | .val d => ∃ v, x = some (some v) ∧ Rp c.K F v d
  | .own b d => ∃ p, x = some (some (V.ref p)) ∧ F p = none ∧ Own c.K F H p d ∧ (if b.his = true then p ∈ c.io else c.H0 p = none)

structure Ok (c : Fc) (F : Hp) (σ : Sg) (H : Hp) (ρ : Ev) : Prop where
  sub : Same F H
  keep : ∀ a o, c.H0 a = some o → a ∉ c.io → H a = some o
  len : σ.length = ρ.length
  slot : ∀ (i : Nat) (s : Sl), ρ[i]? = some s → SlOk c F H σ[i]? s
  inj : ∀ (i j : Nat) (b b' : Md) (d d' : D) (p : Addr), ρ[i]? = some (.own b d) → ρ[j]? = some (.own b' d') → σ[i]? = some (some (V.ref p)) → σ[j]? = some (some (V.ref p)) → i = j
  old : Same c.F0 F
  new : ∀ a o, F a = some o → c.F0 a = none → c.H0 a = none
  sub0 : Same c.F0 c.H0
  ioF : ∀ a ∈ c.io, F a = none
  io0 : ∀ a ∈ c.io, ∃ o, c.H0 a = some o
  there : ∀ a o, c.H0 a = some o → ∃ o', H a = some o'
  lnt : ∀ q ∈ c.lent, q.m.lent = true ∧ ρ[q.i]? = some (.own q.m q.d) ∧ σ[q.i]? = some (some (V.ref q.p))

/-- a result: data; a new object that nobody knows yet; the object of a slot -/
inductive RV where
  | v (d : D)
  | f (d : D)
  | s (i : Nat)

def RvOk (c : Fc) (F : Hp) (σ : Sg) (H : Hp) (ρ : Ev) (v : V) : RV → Prop
  | .v d => Rp c.K F v d
  | .f d => ∃ p, v = V.ref p ∧ F p = none ∧ c.H0 p = none ∧ p ∉ c.io ∧ Own c.K F H p d ∧ ∀ (i : Nat) (b : Md) (e : D), ρ[i]? = some (.own b e) → σ[i]? ≠ some (some (V.ref p))
  | .s i => σ[i]? = some (some v)

def XnOk (c : Fc) (F H : Hp) (x : Xn) (u : Value) (a : Option Addr) : Prop :=
  c.mg x.cls = some u ∧ match x.pay with
    | none => a = none
    | some (f, d) => ∃ q v, a = some q ∧ H q = some (.xd [(f, v)]) ∧ Rp c.K F v d

abbrev EF := Ev → Option (Except Xn RV × Ev)
abbrev TF := Ev → Option (Except Xn Bool × Ev)
abbrev AF := Ev → Option (Except Xn (List D) × Ev)
inductive SOut where
  | nx | bk | ct
  | rt (r : RV)
  | ex (x : Xn)
abbrev SF := Ev → Option (SOut × Ev)
abbrev GF := D → Ev → Option Ev

def ErrOk (c : Fc) (F : Hp) (σ : Sg) (ρ' : Ev) (x : Xn) : Prop := ∀ H' F' u a, Same F F' → Ok c F' σ H' ρ' → XnOk c F' H' x u a → c.W u a σ H'

/-- the end of a plain function's run: its result, at any heap that goes with it; or its exception -/
def En {α : Type} (c : Fc) (F : Hp) (σ : Sg) (x : Option (Except Xn α × Ev)) (R : α → Hp → Hp → Ev → Prop) : Prop := ∃ r ρ', x = some (r, ρ') ∧ match r with
  | .ok a => ∀ H' F', Same F F' → Ok c F' σ H' ρ' → R a F' H' ρ'
  | .error x => ErrOk c F σ ρ' x
def RE (c : Fc) (σ : Sg) (Q : VK) : RV → Hp → Hp → Ev → Prop := fun rv F' H' ρ' => ∀ v, RvOk c F' σ H' ρ' v rv → Q v H'
def RT (Q : Bool → Hp → Prop) : Bool → Hp → Hp → Ev → Prop := fun b _ H' _ => Q b H'
def RA (c : Fc) (Q : List V → Hp → Prop) : List D → Hp → Hp → Ev → Prop := fun ds F' H' _ => ∀ vs, RpA c.K F' vs ds → Q vs H'
def liftE (c : Fc) (f : EF) : TE := fun σ H Q => ∃ F ρ, Ok c F σ H ρ ∧ En c F σ (f ρ) (RE c σ Q)
def liftT (c : Fc) (f : TF) : TT := fun σ H Q => ∃ F ρ, Ok c F σ H ρ ∧ En c F σ (f ρ) (RT Q)
/-- arguments, all as data -/
def liftA (c : Fc) (f : AF) : TA := fun σ H Q => ∃ F ρ, Ok c F σ H ρ ∧ En c F σ (f ρ) (RA c Q)
def liftS (c : Fc) (f : SF) : TS := fun De σ H => ∃ F ρ, Ok c F σ H ρ ∧ ∃ r ρ', f ρ = some (r, ρ') ∧ match r with
  | .nx => ∀ σ' H' F', Same F F' → Ok c F' σ' H' ρ' → De.nx σ' H'
  | .bk => ∀ σ' H' F', Same F F' → Ok c F' σ' H' ρ' → De.bk σ' H'
  | .ct => ∀ σ' H' F', Same F F' → Ok c F' σ' H' ρ' → De.ct σ' H'
  | .rt rv => ∀ v σ' H' F', Same F F' → Ok c F' σ' H' ρ' → RvOk c F' σ' H' ρ' v rv → De.rt v H'
  | .ex x => ∀ σ', ErrOk c F σ' ρ' x
def liftG (c : Fc) (g : GF) : TG := fun v σ H Q => ∃ F ρ d, Ok c F σ H ρ ∧ Rp c.K F v d ∧ ∃ ρ', g d ρ = some ρ' ∧ ∀ σ' H' F', Same F F' → Ok c F' σ' H' ρ' → Q σ' H'

/-! ### weakening -/
theorem PEi {X : Cx} {e : Expr} {t t' : TE} (h : PE X e t) (i : ∀ σ H Q, t' σ H Q → t σ H Q) : PE X e t' := ⟨fun pins s σ H Q I q => h.run pins s σ H Q I (i σ H Q q)⟩
theorem PTi {X : Cx} {e : Expr} {t t' : TT} (h : PT X e t) (i : ∀ σ H Q, t' σ H Q → t σ H Q) : PT X e t' := ⟨fun pins s σ H Q I q => h.run pins s σ H Q I (i σ H Q q)⟩
theorem PWi {X : Cx} {e : Expr} {t t' : TT} (h : PW X e t) (i : ∀ σ H Q, t' σ H Q → t σ H Q) : PW X e t' := ⟨fun w pins s σ H Q I q => h.run w pins s σ H Q I (i σ H Q q)⟩
theorem PAi {X : Cx} {e : List Expr} {t t' : TA} (h : PA X e t) (i : ∀ σ H Q, t' σ H Q → t σ H Q) : PA X e t' := ⟨fun p pins s σ H Q I q => h.run p pins s σ H Q I (i σ H Q q)⟩
theorem PSi {X : Cx} {e : Stmt} {t t' : TS} (h : PS X e t) (i : ∀ De σ H, t' De σ H → t De σ H) : PS X e t' := ⟨fun pins s σ H De I q => h.run pins s σ H De I (i De σ H q)⟩
theorem PSsi {X : Cx} {e : List Stmt} {t t' : TS} (h : PSs X e t) (i : ∀ De σ H, t' De σ H → t De σ H) : PSs X e t' := ⟨fun pins s σ H De I q => h.run pins s σ H De I (i De σ H q)⟩
theorem PGi {X : Cx} {e : Expr} {t t' : TG} (h : PG X e t) (i : ∀ v σ H Q, t' v σ H Q → t v σ H Q) : PG X e t' := ⟨fun pins s σ H v u Q I r q => h.run pins s σ H v u Q I r (i v σ H Q q)⟩

theorem Same.updN {F : Hp} {p : Addr} {o : HO} (h : F p = none) : Same F (upd F p o) := fun b x e => by
  rw [upd_ne (ne_of_none e h)]; exact e

/-! ### freezing -/
theorem Own.some {K : PySem.W.Frag} {F H : Hp} {p : Addr} {d : D} (h : Own K F H p d) : ∃ o, H p = some o ∧ ∀ G : Hp, Same F G → G p = some o → Rp K G (V.ref p) d := by
  cases d with
  | list ds =>
    obtain ⟨vs, e, r⟩ := h
    exact ⟨_, e, fun G s g => .lst (.inl g) (r.mono s)⟩
  | dict es =>
    rcases h with ⟨kv, e, k, r⟩ | ⟨kv, e, k, r⟩
    · exact ⟨_, e, fun G s g => .dcK g k (r.mono s)⟩
    · exact ⟨_, e, fun G s g => .dcT g k (r.mono s)⟩
  | none => exact False.elim h
  | bool _ => exact False.elim h
  | int _ => exact False.elim h
  | str _ => exact False.elim h
  | tuple _ => exact False.elim h
theorem Own.mono {K : PySem.W.Frag} {F F' H H' : Hp} {p : Addr} {d : D} (h : Own K F H p d) (s : Same F F') (e : H' p = H p) : Own K F' H' p d := by
  cases d with
  | list ds =>
    obtain ⟨vs, e1, r⟩ := h
    exact ⟨vs, e.trans e1, r.mono s⟩
  | dict es =>
    rcases h with ⟨kv, e1, k, r⟩ | ⟨kv, e1, k, r⟩
    · exact .inl ⟨kv, e.trans e1, k, r.mono s⟩
    · exact .inr ⟨kv, e.trans e1, k, r.mono s⟩
  | none => exact False.elim h
  | bool _ => exact False.elim h
  | int _ => exact False.elim h
  | str _ => exact False.elim h
  | tuple _ => exact False.elim h

/-- a slot that no loop walks -/
def freeB : Option Sl → Bool
  | some (.own b _) => !b.lent
  | _ => true
section
variable {c : Fc} {F : Hp} {σ : Sg} {H : Hp} {ρ : Ev}
theorem lnt_set {i : Nat} {s : Sl} {σ' : Sg} (l : ∀ q ∈ c.lent, q.m.lent = true ∧ ρ[q.i]? = some (.own q.m q.d) ∧ σ[q.i]? = some (some (V.ref q.p))) (f : freeB ρ[i]? = true) (hσ : ∀ j : Nat, j ≠ i → σ'[j]? = σ[j]?) :
    ∀ q ∈ c.lent, q.m.lent = true ∧ (ρ.set i s)[q.i]? = some (.own q.m q.d) ∧ σ'[q.i]? = some (some (V.ref q.p)) := fun q hq => by
  obtain ⟨h1, h2, h3⟩ := l q hq
  have hne : q.i ≠ i := fun e => by
    rw [e] at h2
    rw [h2] at f
    have f : (!q.m.lent) = true := f
    rw [h1] at f
    cases f
  exact ⟨h1, by rw [List.getElem?_set_ne (Ne.symm hne)]; exact h2, by rw [hσ _ hne]; exact h3⟩

/-- a new object stands from now on -/
theorem Ok.freezeF {p : Addr} {d : D} (ok : Ok c F σ H ρ) (n : F p = none) (n0 : c.H0 p = none) (nio : p ∉ c.io) (ow : Own c.K F H p d)
    (no : ∀ (i : Nat) (b : Md) (e : D), ρ[i]? = some (.own b e) → σ[i]? ≠ some (some (V.ref p))) : ∃ F', Same F F' ∧ Ok c F' σ H ρ ∧ Rp c.K F' (V.ref p) d := by
  obtain ⟨o, e, rp⟩ := ow.some
  have sm : Same F (upd F p o) := Same.updN n
  refine ⟨upd F p o, sm, ⟨fun b x q => ?_, ok.keep, ok.len, fun i s h => ?_, ok.inj, ok.old.trans sm, fun a x q z => ?_, ok.sub0, fun a h => ?_, ok.io0, ok.there, ok.lnt⟩, rp _ sm upd_same⟩
  · by_cases hb : b = p
    · subst hb; rw [upd_same] at q; cases q; exact e
    · rw [upd_ne hb] at q; exact ok.sub b x q
  · have := ok.slot i s h
    cases s with
    | emp => trivial
    | val d => obtain ⟨v, a, r⟩ := this; exact ⟨v, a, r.mono sm⟩
    | own b d =>
      obtain ⟨q, a, f, w, r⟩ := this
      have hq : q ≠ p := fun z => no i b d h (z ▸ a)
      exact ⟨q, a, by rw [upd_ne hq]; exact f, w.mono sm rfl, r⟩
  · by_cases hb : a = p
    · subst hb; exact n0
    · rw [upd_ne hb] at q; exact ok.new a x q z
  · have : a ≠ p := fun z => nio (z ▸ h)
    rw [upd_ne this]; exact ok.ioF a h

/-- a slot's own object stands from now on -/
theorem Ok.freezeS {i : Nat} {d : D} {v : V} (ok : Ok c F σ H ρ) (h : ρ[i]? = some (.own .mine d)) (hv : σ[i]? = some (some v)) : ∃ F', Same F F' ∧ Ok c F' σ H (ρ.set i (.val d)) ∧ Rp c.K F' v d := by
  obtain ⟨p, a, f, w, r⟩ := ok.slot i _ h
  rw [if_neg (by decide)] at r
  have hfree : freeB ρ[i]? = true := by rw [h]; rfl
  rw [a] at hv
  cases hv
  have hi : i < ρ.length := (List.getElem?_eq_some_iff.mp h).1
  have ok1 : Ok c F σ H (ρ.set i .emp) := by
    refine ⟨ok.sub, ok.keep, by rw [List.length_set]; exact ok.len, fun j s hj => ?_, fun j k b b' e e' q h1 h2 h3 h4 => ?_, ok.old, ok.new, ok.sub0, ok.ioF, ok.io0, ok.there, lnt_set ok.lnt hfree fun _ _ => rfl⟩
    · by_cases e : j = i
      · subst e
        rw [List.getElem?_set_self hi] at hj; cases hj; trivial
      · rw [List.getElem?_set_ne (Ne.symm e)] at hj
        exact ok.slot j s hj
    · have hj : j ≠ i := fun z => by subst z; rw [List.getElem?_set_self hi] at h1; cases h1
      have hk : k ≠ i := fun z => by subst z; rw [List.getElem?_set_self hi] at h2; cases h2
      rw [List.getElem?_set_ne (Ne.symm hj)] at h1
      rw [List.getElem?_set_ne (Ne.symm hk)] at h2
      exact ok.inj j k b b' e e' q h1 h2 h3 h4
  have nio : p ∉ c.io := fun z => by
    obtain ⟨o, e⟩ := ok.io0 p z
    rw [r] at e
    cases e
  obtain ⟨F', sm, ok2, rp⟩ := ok1.freezeF f r nio w (fun j b e hj hs => by
    by_cases ej : j = i
    · subst ej; rw [List.getElem?_set_self hi] at hj; cases hj
    · rw [List.getElem?_set_ne (Ne.symm ej)] at hj
      exact ej (ok.inj j i b .mine e d p hj h hs a))
  refine ⟨F', sm, ⟨ok2.sub, ok2.keep, by rw [List.length_set]; exact ok.len, fun j s hj => ?_, fun j k b b' e e' q h1 h2 h3 h4 => ?_, ok2.old, ok2.new, ok2.sub0, ok2.ioF, ok2.io0, ok2.there, lnt_set ok.lnt hfree fun _ _ => rfl⟩, rp⟩
  · by_cases e : j = i
    · subst e
      rw [List.getElem?_set_self hi] at hj; cases hj
      exact ⟨_, a, rp⟩
    · have := ok2.slot j s (by rw [List.getElem?_set_ne (Ne.symm e)] at hj ⊢; exact hj)
      exact this
  · have hj : j ≠ i := fun z => by subst z; rw [List.getElem?_set_self hi] at h1; cases h1
    have hk : k ≠ i := fun z => by subst z; rw [List.getElem?_set_self hi] at h2; cases h2
    rw [List.getElem?_set_ne (Ne.symm hj)] at h1
    rw [List.getElem?_set_ne (Ne.symm hk)] at h2
    exact ok.inj j k b b' e e' q h1 h2 h3 h4
end
end Vm
end

section
set_option maxRecDepth 100000
set_option maxHeartbeats 4000000
/-! Vm1: results, what they are to an operation, operations by data. -/
namespace Vm
open PySem PySem.Spec PyProof.Rows L2

section
variable {c : Fc} {F : Hp} {σ : Sg} {H : Hp} {ρ : Ev}

theorem Ok.newN (ok : Ok c F σ H ρ) {p : Addr} (n : H p = none) : F p = none ∧ c.H0 p = none ∧ p ∉ c.io ∧ ∀ (i : Nat) (b : Md) (e : D), ρ[i]? = some (.own b e) → σ[i]? ≠ some (some (V.ref p)) := by
  have h0 : c.H0 p = none := by
    cases q : c.H0 p with
    | none => rfl
    | some o =>
      obtain ⟨o', e⟩ := ok.there p o q
      rw [n] at e; cases e
  refine ⟨ok.sub.free n, h0, fun z => ?_, fun i b e h z => ?_⟩
  · obtain ⟨o, e⟩ := ok.io0 p z
    rw [h0] at e; cases e
  · obtain ⟨q, a, f, w, r⟩ := ok.slot i _ h
    rw [z] at a
    cases a
    obtain ⟨o, e, _⟩ := w.some
    rw [n] at e; cases e

/-- something new is laid, and nobody's -/
theorem Ok.laid (ok : Ok c F σ H ρ) {p : Addr} {o : HO} (n : H p = none) : Ok c F σ (upd H p o) ρ := by
  obtain ⟨n1, n2, n3, n4⟩ := ok.newN n
  have sm : Same H (upd H p o) := Same.updN n
  refine ⟨ok.sub.trans sm, fun a x e h => sm _ _ (ok.keep a x e h), ok.len, fun i s h => ?_, ok.inj, ok.old, ok.new, ok.sub0, ok.ioF, ok.io0, fun a x e => ?_, ok.lnt⟩
  · have := ok.slot i s h
    cases s with
    | emp => trivial
    | val d => exact this
    | own b d =>
      obtain ⟨q, a, f, w, r⟩ := this
      have hq : q ≠ p := fun z => n4 i b d h (z ▸ a)
      exact ⟨q, a, f, w.mono (Same.refl _) (by rw [upd_ne hq]), r⟩
  · obtain ⟨o', e'⟩ := ok.there a x e
    exact ⟨o', sm _ _ e'⟩

/-- .. and stands -/
theorem Ok.laidF (ok : Ok c F σ H ρ) {p : Addr} {o : HO} (n : H p = none) : Same F (upd F p o) ∧ Ok c (upd F p o) σ (upd H p o) ρ := by
  obtain ⟨n1, n2, n3, n4⟩ := ok.newN n
  have sm : Same H (upd H p o) := Same.updN n
  have sf : Same F (upd F p o) := Same.updN n1
  refine ⟨sf, fun b x q => ?_, fun a x e h => sm _ _ (ok.keep a x e h), ok.len, fun i s h => ?_, ok.inj, ok.old.trans sf, fun a x q z => ?_, ok.sub0, fun a h => ?_, ok.io0, fun a x e => ?_, ok.lnt⟩
  · by_cases hb : b = p
    · subst hb; rw [upd_same] at q; cases q; exact upd_same
    · rw [upd_ne hb] at q; rw [upd_ne hb]; exact ok.sub b x q
  · have := ok.slot i s h
    cases s with
    | emp => trivial
    | val d => obtain ⟨v, a, r⟩ := this; exact ⟨v, a, r.mono sf⟩
    | own b d =>
      obtain ⟨q, a, f, w, r⟩ := this
      have hq : q ≠ p := fun z => n4 i b d h (z ▸ a)
      exact ⟨q, a, by rw [upd_ne hq]; exact f, w.mono sf (by rw [upd_ne hq]), r⟩
  · by_cases hb : a = p
    · subst hb; exact n2
    · rw [upd_ne hb] at q; exact ok.new a x q z
  · have : a ≠ p := fun z => n3 (z ▸ h)
    rw [upd_ne this]; exact ok.ioF a h
  · obtain ⟨o', e'⟩ := ok.there a x e
    exact ⟨o', sm _ _ e'⟩

/-! ### results as data -/
def slD : Option Sl → Option D
  | some (.val d) => some d
  | some (.own _ d) => some d
  | _ => none
def rd (ρ : Ev) : RV → Option D
  | .v d => some d
  | .f d => some d
  | .s i => slD ρ[i]?

/-- what an operation sees: data that stands, or an object whose members stand -/
def Vw (K : PySem.W.Frag) (F H : Hp) (v : V) (d : D) : Prop := Rp K F v d ∨ ∃ p, v = V.ref p ∧ Own K F H p d

theorem Vw.h {K : PySem.W.Frag} {v : V} {d : D} (s : Same F H) (w : Vw K F H v d) : Rp K H v d := by
  rcases w with w | ⟨p, rfl, w⟩
  · exact w.mono s
  · obtain ⟨o, e, r⟩ := w.some
    exact r H s e
theorem Vw.mono {K : PySem.W.Frag} {v : V} {d : D} {F' H' : Hp} (s : Same F F') (k : Same H H') (w : Vw K F H v d) : Vw K F' H' v d := by
  rcases w with w | ⟨p, rfl, w⟩
  · exact .inl (w.mono s)
  · obtain ⟨o, e, r⟩ := w.some
    exact .inr ⟨p, rfl, w.mono s (by rw [e, k _ _ e])⟩

theorem RvOk.vw (ok : Ok c F σ H ρ) {v : V} {r : RV} {d : D} (h : RvOk c F σ H ρ v r) (e : rd ρ r = some d) : Vw c.K F H v d := by
  cases r with
  | v d' => cases e; exact .inl h
  | f d' =>
    cases e
    obtain ⟨p, rfl, _, _, _, w, _⟩ := h
    exact .inr ⟨p, rfl, w⟩
  | s i =>
    have h : σ[i]? = some (some v) := h
    have e : slD ρ[i]? = some d := e
    cases q : ρ[i]? with
    | none => rw [q] at e; cases e
    | some s =>
      rw [q] at e
      cases s with
      | emp => cases e
      | val d' =>
        cases e
        obtain ⟨v', a, r⟩ := ok.slot i _ q
        rw [h] at a; cases a
        exact .inl r
      | own b d' =>
        cases e
        obtain ⟨p, a, f, w, r⟩ := ok.slot i _ q
        rw [h] at a; cases a
        exact .inr ⟨p, rfl, w⟩

/-- ahead of a further expression: a new object stands from now on -/
def hold : RV → RV
  | .f d => .v d
  | r => r
/-- held: data, or a slot's object -/
def RvHold (c : Fc) (F : Hp) (σ : Sg) (v : V) : RV → Prop
  | .v d => Rp c.K F v d
  | .f _ => False
  | .s i => σ[i]? = some (some v)
theorem RvHold.mono {v : V} {r : RV} {F' : Hp} (s : Same F F') (h : RvHold c F σ v r) : RvHold c F' σ v r := by
  cases r with
  | v d => exact Rp.mono s h
  | f d => exact h
  | s i => exact h
theorem RvHold.ok {v : V} {r : RV} (h : RvHold c F σ v r) : RvOk c F σ H ρ v r := by
  cases r with
  | v d => exact h
  | f d => exact False.elim h
  | s i => exact h
theorem RvOk.held (ok : Ok c F σ H ρ) {v : V} {r : RV} (h : RvOk c F σ H ρ v r) : ∃ F', Same F F' ∧ Ok c F' σ H ρ ∧ RvHold c F' σ v (hold r) := by
  cases r with
  | v d => exact ⟨F, Same.refl _, ok, h⟩
  | s i => exact ⟨F, Same.refl _, ok, h⟩
  | f d =>
    obtain ⟨p, rfl, n, n0, nio, w, no⟩ := h
    obtain ⟨F', sm, ok', rp⟩ := ok.freezeF n n0 nio w no
    exact ⟨F', sm, ok', rp⟩

/-- made to stand (it will be known to others) -/
def slStand (ρ : Ev) (i : Nat) : Option Sl → Option (D × Ev)
  | some (.val d) => some (d, ρ)
  | some (.own .mine d) => some (d, ρ.set i (.val d))
  | _ => none
def stand (r : RV) (ρ : Ev) : Option (D × Ev) :=
  match r with
  | .v d => some (d, ρ)
  | .f d => some (d, ρ)
  | .s i => slStand ρ i ρ[i]?
theorem RvOk.stand (ok : Ok c F σ H ρ) {v : V} {r : RV} {d : D} {ρ' : Ev} (h : RvOk c F σ H ρ v r) (e : stand r ρ = some (d, ρ')) : ∃ F', Same F F' ∧ Ok c F' σ H ρ' ∧ Rp c.K F' v d := by
  cases r with
  | v d' => cases e; exact ⟨F, Same.refl _, ok, h⟩
  | f d' =>
    cases e
    obtain ⟨p, rfl, n, n0, nio, w, no⟩ := h
    exact ok.freezeF n n0 nio w no
  | s i =>
    have h : σ[i]? = some (some v) := h
    have e : slStand ρ i ρ[i]? = some (d, ρ') := e
    cases q : ρ[i]? with
    | none => rw [q] at e; cases e
    | some s =>
      rw [q] at e
      cases s with
      | emp => cases e
      | val d' =>
        cases e
        obtain ⟨v', a, r⟩ := ok.slot i _ q
        rw [h] at a; cases a
        exact ⟨F, Same.refl _, ok, r⟩
      | own b d' =>
        cases b with
        | mine =>
          cases e
          exact ok.freezeS q h
        | _ => cases e

/-! ### the ends of an operation -/
def Fin (c : Fc) (ρ : Ev) (F : Hp) (σ : Sg) (H : Hp) (Q : VK) (rv : RV) : Prop := ∀ v H' F', Same F F' → Ok c F' σ H' ρ → RvOk c F' σ H' ρ v rv → Q v H'
variable {Q : VK}
theorem Fin.val {d : D} {v : V} (q : Fin c ρ F σ H Q (.v d)) (ok : Ok c F σ H ρ) (r : Rp c.K F v d) : Q v H := q v H F (Same.refl _) ok r
theorem Fin.newL {ds : List D} {vs : List V} {p : Addr} (q : Fin c ρ F σ H Q (.f (.list ds))) (ok : Ok c F σ H ρ) (r : RpA c.K F vs ds) (n : H p = none) : Q (V.ref p) (upd H p (.lst vs)) := by
  obtain ⟨n1, n2, n3, n4⟩ := ok.newN n
  exact q _ _ F (Same.refl _) (ok.laid n) ⟨p, rfl, n1, n2, n3, ⟨vs, upd_same, r⟩, n4⟩
theorem Fin.newT {ds : List D} {vs : List V} {p : Addr} (q : Fin c ρ F σ H Q (.v (.tuple ds))) (ok : Ok c F σ H ρ) (r : RpA c.K F vs ds) (n : H p = none) : Q (V.ref p) (upd H p (.tup vs)) := by
  obtain ⟨sf, ok'⟩ := ok.laidF (o := .tup vs) n
  exact q _ _ _ sf ok' (.tup (.inl (.inl upd_same)) (r.mono sf))

/-- lists and tuples that an operation sees -/
theorem Vw.list {K : PySem.W.Frag} {v : V} {ds : List D} (s : Same F H) (w : Vw K F H v (.list ds)) : ∃ a vs, v = V.ref a ∧ Rd H a (.lst vs) ∧ RpA K F vs ds := by
  rcases w with w | ⟨p, rfl, w⟩
  · cases w with
    | lst h r => exact ⟨_, _, rfl, s.rd h, r⟩
  · obtain ⟨vs, e, r⟩ := w
    exact ⟨p, vs, rfl, .inl e, r⟩
theorem Vw.tuple {K : PySem.W.Frag} {v : V} {ds : List D} (s : Same F H) (w : Vw K F H v (.tuple ds)) : ∃ a vs, v = V.ref a ∧ SqT K H a vs ∧ RpA K F vs ds := by
  rcases w with w | ⟨p, rfl, w⟩
  · cases w with
    | tup h r => exact ⟨_, _, rfl, s.sqt h, r⟩
  · exact False.elim w
theorem Vw.int {K : PySem.W.Frag} {v : V} {i : Int} (w : Vw K F H v (.int i)) : v = V.int i := by
  rcases w with w | ⟨p, rfl, w⟩
  · cases w; rfl
  · exact False.elim w
theorem Vw.str {K : PySem.W.Frag} {v : V} {i : Str} (w : Vw K F H v (.str i)) : v = V.str i := by
  rcases w with w | ⟨p, rfl, w⟩
  · cases w; rfl
  · exact False.elim w
theorem Vw.bool {K : PySem.W.Frag} {v : V} {i : Bool} (w : Vw K F H v (.bool i)) : v = V.bl i := by
  rcases w with w | ⟨p, rfl, w⟩
  · cases w; rfl
  · exact False.elim w
theorem Vw.none {K : PySem.W.Frag} {v : V} (w : Vw K F H v .none) : v = V.non := by
  rcases w with w | ⟨p, rfl, w⟩
  · cases w; rfl
  · exact False.elim w
end

/-! ### binary operations by data -/
abbrev BOp := D → D → Option RV
def rOp (c : Fc) (op : BOp) : R2 := fun x y H Q => ∃ F σ ρ a b rv, Ok c F σ H ρ ∧ Vw c.K F H x a ∧ Vw c.K F H y b ∧ op a b = some rv ∧ Fin c ρ F σ H Q rv
abbrev UOp := D → Option RV
def rUn (c : Fc) (op : UOp) : V → Hp → VK → Prop := fun x H Q => ∃ F σ ρ a rv, Ok c F σ H ρ ∧ Vw c.K F H x a ∧ op a = some rv ∧ Fin c ρ F σ H Q rv

theorem OpRi {X : Cx} {f : Value → Value → Sem Value} {r r' : R2} (h : OpR X f r) (i : ∀ x y H Q, r' x y H Q → r x y H Q) : OpR X f r' := fun pins s σ H x y v u Q I rx ry q => h pins s σ H x y v u Q I rx ry (i x y H Q q)

end Vm
end

section
set_option maxRecDepth 100000
set_option maxHeartbeats 4000000
/-! Vm2: operations by data: arithmetic, comparisons, subscripts, built-ins. -/
namespace Vm
open PySem PySem.Spec PyProof.Rows L2

/-- the context of a def and what is fixed for it -/
structure Mt (X : Cx) (c : Fc) : Prop where
  K : X.K = c.K
  mg : X.mg = c.mg
  calm : X.calm = true
  nd : X.N.Nodup
  tk : Takes X c.W
  hu : X.A.units + 100 < cLine

/-! ### arithmetic -/
def opAdd : BOp
  | .int i, .int j => some (.v (.int (i + j)))
  | .str x, .str y => if x.length + y.length ≤ sizeLine then some (.v (.str (x ++ y))) else none
  | .tuple a, .tuple b => if a.length + b.length ≤ sizeLine then some (.v (.tuple (a ++ b))) else none
  | .list a, .list b => if a.length + b.length ≤ sizeLine then some (.f (.list (a ++ b))) else none
  | _, _ => none
def opSub : BOp
  | .int i, .int j => some (.v (.int (i - j)))
  | _, _ => none
def mulOk (i j : Int) : Bool := decide (i.natAbs < 2 ^ 64) || decide (j.natAbs < 2 ^ 64) || (decide (i.natAbs < 2 ^ 4000) && decide (j.natAbs < 2 ^ 4000))
def opMul : BOp
  | .int i, .int j => if mulOk i j = true then some (.v (.int (i * j))) else none
  | .list a, .int k => if -(2 ^ 63) ≤ k ∧ k < 2 ^ 63 ∧ a.length * k.toNat ≤ sizeLine then some (.f (.list (List.replicate k.toNat a).flatten)) else none
  | _, _ => none
def opMod : BOp
  | .int i, .int j => if 0 < j then some (.v (.int (i % j))) else none
  | _, _ => none
def opDiv : BOp
  | .int i, .int j => if 0 < j ∧ j.natAbs < 2 ^ 4000 then some (.v (.int (i / j))) else none
  | _, _ => none
def opPow : BOp
  | .int i, .int j => if 0 ≤ j ∧ j ≤ 1000 ∧ i.natAbs < 2 ^ 4000 then some (.v (.int (i ^ j.toNat))) else none
  | _, _ => none
def unNeg : UOp
  | .int i => some (.v (.int (-i)))
  | _ => none

theorem log2_lt4000 {i : Int} (h : i.natAbs < 2 ^ 4000) : i.natAbs.log2 < 4000 := by
  by_cases z : i.natAbs = 0
  · rw [z]; decide
  · exact (Nat.log2_lt z).mpr h
theorem bits4000 {i : Int} (h : i.natAbs < 2 ^ 4000) : Builtin.Int.intBits i ≤ 4000 := by
  unfold Builtin.Int.intBits
  have := log2_lt4000 h
  split <;> omega

theorem mulOk.ok {i j : Int} (h : mulOk i j = true) : IntMulOk i j := by
  unfold mulOk at h
  rw [Bool.or_eq_true, Bool.or_eq_true, Bool.and_eq_true, decide_eq_true_eq, decide_eq_true_eq, decide_eq_true_eq, decide_eq_true_eq] at h
  rcases h with (h | h) | ⟨h1, h2⟩
  · exact CMul.ok (.inl ⟨by omega, by omega⟩)
  · exact CMul.ok (.inr ⟨by omega, by omega⟩)
  · refine CMulW.ok ?_
    have a := log2_lt4000 h1
    have b := log2_lt4000 h2
    unfold CMulW
    omega

section
variable {X : Cx} {c : Fc}
theorem addB (M : Mt X c) : OpR X (binaryOp .Add) (rOp c opAdd) := by
  rintro pins s σ H x y v u Q I rx ry ⟨F, σ', ρ, a, b, rv, ok, wa, wb, e, q⟩
  cases a with
  | int i =>
    cases b with
    | int j =>
      cases e
      cases wa.int
      cases wb.int
      exact op_add pins s σ H _ _ v u Q I rx ry ⟨i, j, rfl, rfl, q.val ok (.int _)⟩
    | _ => cases e
  | str i =>
    cases b with
    | str j =>
      have e : (if i.length + j.length ≤ sizeLine then some (RV.v (.str (i ++ j))) else none) = some rv := e
      split at e
      · rename_i hz
        cases e
        cases wa.str
        cases wb.str
        exact op_add_str pins s σ H _ _ v u Q I rx ry ⟨i, j, rfl, rfl, hz, q.val ok (.str _)⟩
      · cases e
    | _ => cases e
  | tuple i =>
    cases b with
    | tuple j =>
      have e : (if i.length + j.length ≤ sizeLine then some (RV.v (.tuple (i ++ j))) else none) = some rv := e
      split at e
      · rename_i hz
        cases e
        obtain ⟨a1, vs, rfl, h1, r1⟩ := wa.tuple ok.sub
        obtain ⟨a2, ws, rfl, h2, r2⟩ := wb.tuple ok.sub
        rw [← M.K] at h1 h2
        have F1 : ∀ {d : D} {z : V}, (∀ (v : V) (H' F' : Hp), Same F F' → Ok c F' σ' H' ρ → RvOk c F' σ' H' ρ v (.v d) → Q v H') → Vw c.K F H z d → (∃ ds, d = .tuple ds) → Q z H := fun {d z} q w ⟨ds, e⟩ => by
          subst e
          rcases w with w | ⟨p, rfl, w⟩
          · exact Fin.val q ok w
          · exact False.elim w
        refine op_catA pins s σ H _ _ v u Q I rx ry ⟨a1, a2, vs, ws, rfl, rfl, h1, h2, by rw [r1.length, r2.length]; exact hz, fun z => ?_, fun _ z => ?_, fun _ _ p n => q.newT ok (r1.append r2) n⟩
        · subst z
          cases r1
          exact F1 q wb ⟨_, rfl⟩
        · subst z
          cases r2
          rw [List.append_nil] at q
          exact F1 q wa ⟨_, rfl⟩
      · cases e
    | _ => cases e
  | list i =>
    cases b with
    | list j =>
      have e : (if i.length + j.length ≤ sizeLine then some (RV.f (.list (i ++ j))) else none) = some rv := e
      split at e
      · rename_i hz
        cases e
        obtain ⟨a1, vs, rfl, h1, r1⟩ := wa.list ok.sub
        obtain ⟨a2, ws, rfl, h2, r2⟩ := wb.list ok.sub
        cases rx
        cases ry
        obtain ⟨z1, its, n, rr, e1⟩ := h1.ok I.hok
        obtain ⟨z2, its2, n2, rr2, e2⟩ := h2.ok I.hok
        have hl1 := rr.length
        have hl2 := rr2.length
        have g1 := r1.length
        have g2 := r2.length
        refine PySem.P.add_list e1 e2 ?_ (by rw [List.size_toArray, List.size_toArray]; omega)
        have ea : its.toArray ++ its2.toArray = (its ++ its2).toArray := by simp
        rw [ea]
        exact ⟨.ref _, _, I.lnew (t' := s.toks) (rr.append rr2) (by rw [List.length_append]; omega), rfl, q.newL ok (r1.append r2) I.fresh⟩
      · cases e
    | _ => cases e
  | _ => cases b <;> cases e
theorem subB (M : Mt X c) : OpR X (binaryOp .Sub) (rOp c opSub) := by
  rintro pins s σ H x y v u Q I rx ry ⟨F, σ', ρ, a, b, rv, ok, wa, wb, e, q⟩
  cases a with
  | int i =>
    cases b with
    | int j =>
      cases e
      cases wa.int
      cases wb.int
      exact op_sub pins s σ H _ _ v u Q I rx ry ⟨i, j, rfl, rfl, q.val ok (.int _)⟩
    | _ => cases e
  | _ => cases b <;> cases e
theorem mulB (M : Mt X c) : OpR X (binaryOp .Mult) (rOp c opMul) := by
  rintro pins s σ H x y v u Q I rx ry ⟨G, σ', ρ, a, b, rv, ok, wa, wb, e, q⟩
  cases a with
  | int i =>
    cases b with
    | int j =>
      have e : (if mulOk i j = true then some (RV.v (.int (i * j))) else none) = some rv := e
      split at e
      · rename_i hz
        cases e
        cases wa.int
        cases wb.int
        obtain ⟨t, rfl⟩ := rx
        obtain ⟨t', rfl⟩ := ry
        exact mul_int ⟨.int _, H, I.tok _, ⟨_, rfl⟩, q.val ok (.int _)⟩ (mulOk.ok hz)
      · cases e
    | _ => cases e
  | list i =>
    cases b with
    | int k =>
      have e : (if -(2 ^ 63) ≤ k ∧ k < 2 ^ 63 ∧ i.length * k.toNat ≤ sizeLine then some (RV.f (.list (List.replicate k.toNat i).flatten)) else none) = some rv := e
      split at e
      · rename_i hz
        obtain ⟨hk1, hk2, hz⟩ := hz
        cases e
        obtain ⟨a1, vs, rfl, h1, r1⟩ := wa.list ok.sub
        cases wb.int
        cases rx
        obtain ⟨t, rfl⟩ := ry
        obtain ⟨z, its, n, r, e⟩ := h1.ok I.hok
        have hl := r.length
        have g1 := r1.length
        have hz' : vs.length * k.toNat ≤ sizeLine := by rw [g1]; exact hz
        have hlen : its.toArray.size * k.toNat ≤ sizeLine := by rw [List.size_toArray, ← hl]; exact hz'
        have hcap : ¬ its.toArray.size * k.toNat > (2 ^ 63 - 1) / 8 := by
          have : (sizeLine : Nat) ≤ (2 ^ 63 - 1) / 8 := by decide
          omega
        have hfit : ¬ (!Builtin.List.listFitsIndex k) = true := by
          rw [fitsIndex_both hk1 hk2]
          exact Bool.false_ne_true
        have hlong : ¬ Builtin.List.listTooLong (its.toArray.size * k.toNat) = true := by
          rw [notLongL hlen]
          exact Bool.false_ne_true
        have hnew : List.foldl (fun x1 x2 => x1 ++ x2) #[] (List.replicate (if its.toArray.isEmpty = true then 0 else k.toNat) its.toArray) = (List.replicate k.toNat its).flatten.toArray := by
          have f0 : ∀ m : Nat, List.foldl (fun x1 x2 => x1 ++ x2) #[] (List.replicate m its.toArray) = (List.replicate m its).flatten.toArray := fun m => by
            have := foldl_rep its m []
            rw [List.nil_append] at this
            exact this
          rw [f0]
          cases its with
          | nil => simp
          | cons a r' => rw [if_neg (by simp)]
        have rep : ∀ m : Nat, RpA c.K G (List.replicate m vs).flatten (List.replicate m i).flatten := fun m => by
          induction m with
          | zero => exact .nil
          | succ m ih =>
            rw [List.replicate_succ, List.replicate_succ, List.flatten_cons, List.flatten_cons]
            exact r1.append ih
        refine wpAny_binaryOp_repeat_ref (T := "list") (U := "int") (by decide) ⟨_, e, rfl⟩ (fun s' => typeIs_int s' k t) noFill_list_mul PySem.F.fills_int_mul PySem.F.slot_int_rmul repeat_list PySem.F.slot_int_index.lookup
          (call_meets PySem.F.slot_int_rmul (typeIs_int s k t) PySem.F.entry_int_rmul (PySem.F.args_int_rmul_2 _ _) (int___rmul___int_list k t _ its.toArray n)
            ⟨e, rfl, ⟨_, e, rfl⟩, call_meets PySem.F.slot_list_mul ⟨_, e, rfl⟩ PySem.F.entry_list_mul (PySem.F.args_list_mul_2 _ _) (AutoListH.list___mul___list_int_3 _ its.toArray n k t hfit hcap hlong) ⟨e, ?_⟩⟩)
        rw [hnew]
        exact ⟨.ref _, _, I.lnew (t' := s.toks) (r.rep k.toNat) (by rw [PyProof.Rows.lm_len_rep_flat, Nat.mul_comm]; exact hz'), rfl, q.newL ok (rep _) I.fresh⟩
      · cases e
    | _ => cases e
  | _ => cases b <;> cases e
theorem modB (M : Mt X c) : OpR X (binaryOp .Mod) (rOp c opMod) := by
  rintro pins s σ H x y v u Q I rx ry ⟨F, σ', ρ, a, b, rv, ok, wa, wb, e, q⟩
  cases a with
  | int i =>
    cases b with
    | int j =>
      have e : (if 0 < j then some (RV.v (.int (i % j))) else none) = some rv := e
      split at e
      · rename_i hz
        cases e
        cases wa.int
        cases wb.int
        exact op_mod pins s σ H _ _ v u Q I rx ry ⟨i, j, rfl, rfl, hz, q.val ok (.int _)⟩
      · cases e
    | _ => cases e
  | _ => cases b <;> cases e
theorem divB (M : Mt X c) : OpR X (binaryOp .FloorDiv) (rOp c opDiv) := by
  rintro pins s σ H x y v u Q I rx ry ⟨F, σ', ρ, a, b, rv, ok, wa, wb, e, q⟩
  cases a with
  | int i =>
    cases b with
    | int j =>
      have e : (if 0 < j ∧ j.natAbs < 2 ^ 4000 then some (RV.v (.int (i / j))) else none) = some rv := e
      split at e
      · rename_i hz
        cases e
        cases wa.int
        cases wb.int
        refine op_fdivW pins s σ H _ _ v u Q I rx ry ⟨i, j, rfl, rfl, ⟨hz.1, ?_⟩, q.val ok (.int _)⟩
        have := log2_lt4000 hz.2
        omega
      · cases e
    | _ => cases e
  | _ => cases b <;> cases e
theorem powB (M : Mt X c) : OpR X (binaryOp .Pow) (rOp c opPow) := by
  rintro pins s σ H x y v u Q I rx ry ⟨F, σ', ρ, a, b, rv, ok, wa, wb, e, q⟩
  cases a with
  | int i =>
    cases b with
    | int j =>
      have e : (if 0 ≤ j ∧ j ≤ 1000 ∧ i.natAbs < 2 ^ 4000 then some (RV.v (.int (i ^ j.toNat))) else none) = some rv := e
      split at e
      · rename_i hz
        cases e
        cases wa.int
        cases wb.int
        obtain ⟨t, rfl⟩ := rx
        obtain ⟨t', rfl⟩ := ry
        refine pow_int hz.1 ?_ ⟨.int _, H, I.tok _, ⟨_, rfl⟩, q.val ok (.int _)⟩
        have h1 := bits4000 hz.2.2
        obtain ⟨k, rfl⟩ := Int.eq_ofNat_of_zero_le hz.1
        have h2 : k ≤ 1000 := by omega
        have h3 : Builtin.Int.intBits i * k ≤ 4000 * 1000 := Nat.mul_le_mul h1 h2
        have h4 : ((Builtin.Int.intBits i * k : Nat) : Int) ≤ 4000000 := by omega
        rw [Int.natCast_mul] at h4
        have : (2 : Int) ^ 27 = 134217728 := by decide
        rw [this]
        omega
      · cases e
    | _ => cases e
  | _ => cases b <;> cases e
theorem negU (M : Mt X c) : UnR X (unaryOp .USub) (rUn c unNeg) := by
  rintro pins s σ H x v Q I rx ⟨F, σ', ρ, a, rv, ok, wa, e, q⟩
  cases a with
  | int i =>
    cases e
    cases wa.int
    exact un_neg pins s σ H _ v Q I rx ⟨i, rfl, q.val ok (.int _)⟩
  | _ => cases e
end
end Vm
end

section
set_option maxRecDepth 100000
set_option maxHeartbeats 4000000
/-! Vm3: comparisons by data. -/
namespace Vm
open PySem PySem.Spec PyProof.Rows L2

mutual
theorem noDic_of : ∀ {d : D}, PyData.canLay0 d = true → noDic d = true
  | .none, _ => rfl
  | .bool _, _ => rfl
  | .int _, _ => rfl
  | .str _, _ => rfl
  | .list xs, h => noDicA_of (ds := xs) (by simpa [PyData.canLay0] using h)
  | .tuple xs, h => noDicA_of (ds := xs) (by simpa [PyData.canLay0] using h)
  | .dict _, h => by simp [PyData.canLay0] at h
theorem noDicA_of : ∀ {ds : List D}, PyData.canLayAll0 ds = true → noDic.noDicA ds = true
  | [], _ => rfl
  | x :: r, h => by
    have h : (PyData.canLay0 x && PyData.canLayAll0 r) = true := by simpa [PyData.canLayAll0] using h
    rw [Bool.and_eq_true] at h
    show (noDic x && noDic.noDicA r) = true
    rw [noDic_of h.1, noDicA_of h.2]
    rfl
end
/-- data that can be compared: no dict, no deeper than 64 -/
abbrev shp (d : D) : Bool := SeqAt.shaped d

section
variable {X : Cx} {c : Fc} {pins : List (Addr × Obj)} {s : Shared} {σ : Sg} {H F : Hp}
theorem Vw.reads (M : Mt X c) (I : Inv X pins σ H s) (sub : Same F H) {x : V} {d : D} {u : Value} (w : Vw c.K F H x d) (r : RelV x u) (hs : PyData.canLay0 d = true) : ∃ as, Reads s.heap u d as := by
  have q := (w.h sub).dp (noDic_of hs)
  rw [← M.K] at q
  exact Dp.reads I d x u q r
end

def opEq : BOp := fun a b => if shp a && shp b then some (.v (.bool (PyData.eqv a b))) else none
def opNe : BOp := fun a b => if shp a && shp b then some (.v (.bool (!PyData.eqv a b))) else none
def isNone : D → Bool
  | .none => true
  | _ => false
def opLt : BOp := fun a b => if shp a && shp b && PySem.W.alike a b && !isNone a then some (.v (.bool (PySem.W.dataLt a b))) else none
def opGt : BOp
  | .int i, .int j => some (.v (.bool (decide (j < i))))
  | _, _ => none
def opLe : BOp
  | .int i, .int j => some (.v (.bool (decide (i ≤ j))))
  | _, _ => none
def opGe : BOp
  | .int i, .int j => some (.v (.bool (decide (j ≤ i))))
  | _, _ => none
def opIsN : BOp
  | a, .none => some (.v (.bool (isNone a)))
  | _, _ => none
def opNotN : BOp
  | a, .none => some (.v (.bool (!isNone a)))
  | _, _ => none
/-- the one text within the other -/
def subStr (x y : Str) : Bool := !(Builtin.Str.occurrences y x 0 y.length 1).isEmpty
def anyEq (xs : List D) (d : D) : Bool := xs.any fun z => PyData.eqv z d
def opIn : BOp
  | .str x, .str y => some (.v (.bool (subStr x y)))
  | a, .list ds => if shp a && shp (.list ds) then some (.v (.bool (anyEq ds a))) else none
  | a, .tuple ds => if shp a && shp (.tuple ds) then some (.v (.bool (anyEq ds a))) else none
  | _, _ => none
def opNotIn : BOp
  | .str x, .str y => some (.v (.bool (!subStr x y)))
  | a, .list ds => if shp a && shp (.list ds) then some (.v (.bool (!anyEq ds a))) else none
  | a, .tuple ds => if shp a && shp (.tuple ds) then some (.v (.bool (!anyEq ds a))) else none
  | _, _ => none

theorem shp_lay {d : D} (h : shp d = true) : PyData.canLay0 d = true := SeqAt.canLay_of_shaped h

section
variable {X : Cx} {c : Fc}
theorem eqB (M : Mt X c) : OpR X (compareOp .Eq) (rOp c opEq) := by
  rintro pins s σ H x y v u Q I rx ry ⟨F, σ', ρ, a, b, rv, ok, wa, wb, e, q⟩
  have hu := M.hu
  unfold opEq at e
  split at e
  · rename_i hs
    rw [Bool.and_eq_true] at hs
    cases e
    obtain ⟨as, r1⟩ := wa.reads M I ok.sub rx (shp_lay hs.1)
    obtain ⟨bs, r2⟩ := wb.reads M I ok.sub ry (shp_lay hs.2)
    exact SeqAt.compareEq_shaped r1 r2 hs.1 hs.2 (by omega) ⟨.bl _, H, I, rfl, q.val ok (.bl _)⟩
  · cases e
theorem neB (M : Mt X c) : OpR X (compareOp .NotEq) (rOp c opNe) := by
  rintro pins s σ H x y v u Q I rx ry ⟨F, σ', ρ, a, b, rv, ok, wa, wb, e, q⟩
  have hu := M.hu
  unfold opNe at e
  split at e
  · rename_i hs
    rw [Bool.and_eq_true] at hs
    cases e
    obtain ⟨as, r1⟩ := wa.reads M I ok.sub rx (shp_lay hs.1)
    obtain ⟨bs, r2⟩ := wb.reads M I ok.sub ry (shp_lay hs.2)
    exact SeqAt.compareNe_shaped r1 r2 hs.1 hs.2 (by omega) ⟨.bl _, H, I, rfl, q.val ok (.bl _)⟩
  · cases e
theorem ltB (M : Mt X c) : OpR X (compareOp .Lt) (rOp c opLt) := by
  rintro pins s σ H x y v u Q I rx ry ⟨F, σ', ρ, a, b, rv, ok, wa, wb, e, q⟩
  have hu := M.hu
  unfold opLt at e
  split at e
  · rename_i hs
    rw [Bool.and_eq_true, Bool.and_eq_true, Bool.and_eq_true] at hs
    obtain ⟨⟨⟨h1, h2⟩, h3⟩, h4⟩ := hs
    cases e
    obtain ⟨as, r1⟩ := wa.reads M I ok.sub rx (shp_lay h1)
    obtain ⟨bs, r2⟩ := wb.reads M I ok.sub ry (shp_lay h2)
    have hn : a ≠ .none := fun z => by subst z; simp [isNone] at h4
    have hd := SeqAt.depth_of_shaped h1
    have hm : min a.depth b.depth ≤ a.depth := Nat.min_le_left _ _
    exact PySem.W.rcLt_alike a b X.A s v u as bs r1 r2 h3 hn (by omega) _ _ _ _ ⟨.bl _, H, I, rfl, q.val ok (.bl _)⟩
  · cases e
theorem gtB (M : Mt X c) : OpR X (compareOp .Gt) (rOp c opGt) := by
  rintro pins s σ H x y v u Q I rx ry ⟨F, σ', ρ, a, b, rv, ok, wa, wb, e, q⟩
  cases a with
  | int i =>
    cases b with
    | int j =>
      cases e
      cases wa.int
      cases wb.int
      exact op_gt pins s σ H _ _ v u Q I rx ry ⟨i, j, rfl, rfl, q.val ok (.bl _)⟩
    | _ => cases e
  | _ => cases b <;> cases e
theorem leB (M : Mt X c) : OpR X (compareOp .LtE) (rOp c opLe) := by
  rintro pins s σ H x y v u Q I rx ry ⟨F, σ', ρ, a, b, rv, ok, wa, wb, e, q⟩
  cases a with
  | int i =>
    cases b with
    | int j =>
      cases e
      cases wa.int
      cases wb.int
      exact op_le pins s σ H _ _ v u Q I rx ry ⟨i, j, rfl, rfl, q.val ok (.bl _)⟩
    | _ => cases e
  | _ => cases b <;> cases e
theorem geB (M : Mt X c) : OpR X (compareOp .GtE) (rOp c opGe) := by
  rintro pins s σ H x y v u Q I rx ry ⟨F, σ', ρ, a, b, rv, ok, wa, wb, e, q⟩
  cases a with
  | int i =>
    cases b with
    | int j =>
      cases e
      cases wa.int
      cases wb.int
      exact op_ge pins s σ H _ _ v u Q I rx ry ⟨i, j, rfl, rfl, q.val ok (.bl _)⟩
    | _ => cases e
  | _ => cases b <;> cases e
theorem Vw.isNone {K : PySem.W.Frag} {F H : Hp} {v : V} {d : D} (w : Vw K F H v d) : decide (v = V.non) = isNone d := by
  rcases w with w | ⟨p, rfl, w⟩
  · cases w <;> rfl
  · cases d with
    | none => exact False.elim w
    | _ => rfl
theorem isNB (M : Mt X c) : OpR X (compareOp .Is) (rOp c opIsN) := by
  rintro pins s σ H x y v u Q I rx ry ⟨F, σ', ρ, a, b, rv, ok, wa, wb, e, q⟩
  cases b with
  | none =>
    have e : some (RV.v (.bool (isNone a))) = some rv := by cases a <;> exact e
    cases e
    cases wb.none
    exact op_isN pins s σ H _ _ v u Q I rx ry ⟨rfl, by rw [wa.isNone]; exact q.val ok (.bl _)⟩
  | _ => cases a <;> cases e
theorem notNB (M : Mt X c) : OpR X (compareOp .IsNot) (rOp c opNotN) := by
  rintro pins s σ H x y v u Q I rx ry ⟨F, σ', ρ, a, b, rv, ok, wa, wb, e, q⟩
  cases b with
  | none =>
    have e : some (RV.v (.bool (!isNone a))) = some rv := by cases a <;> exact e
    cases e
    cases wb.none
    exact op_notN pins s σ H _ _ v u Q I rx ry ⟨rfl, by rw [wa.isNone]; exact q.val ok (.bl _)⟩
  | _ => cases a <;> cases e
theorem shpL {ds : List D} (h : shp (.list ds) = true) : PyData.canLayAll0 ds = true ∧ PyData.depthAll ds ≤ 64 := by
  have h1 := shp_lay h
  have h2 := SeqAt.depth_of_shaped h
  simp only [PyData.canLay0, PyData.depth] at h1 h2
  exact ⟨h1, by omega⟩
theorem shpT {ds : List D} (h : shp (.tuple ds) = true) : PyData.canLayAll0 ds = true ∧ PyData.depthAll ds ≤ 64 := by
  have h1 := shp_lay h
  have h2 := SeqAt.depth_of_shaped h
  simp only [PyData.canLay0, PyData.depth] at h1 h2
  exact ⟨h1, by omega⟩
theorem inL (M : Mt X c) {pins : List (Addr × Obj)} {s : Shared} {σ σ' : Sg} {ρ : Ev} {H F : Hp} {x y : V} {v u : Value} {Q : VK} {a : D} {ds : List D} {rv : RV} (neg : Bool) (I : Inv X pins σ H s) (rx : RelV x v) (ry : RelV y u) (ok : Ok c F σ' H ρ)
    (wa : Vw c.K F H x a) (wb : Vw c.K F H y (.list ds)) (e : (if shp a && shp (.list ds) then some (RV.v (.bool (if neg then !anyEq ds a else anyEq ds a))) else none) = some rv) (q : Fin c ρ F σ' H Q rv) :
    wpAny (model X.prog X.w) X.A (compareOp (if neg then .NotIn else .In) v u) (EP X pins σ Q) X.xe s := by
  have hu := M.hu
  split at e
  · rename_i hs
    rw [Bool.and_eq_true] at hs
    cases e
    obtain ⟨as, r1⟩ := wa.reads M I ok.sub rx (shp_lay hs.1)
    obtain ⟨bs, r2⟩ := wb.reads M I ok.sub ry (shp_lay hs.2)
    obtain ⟨l1, l2⟩ := shpL hs.2
    have hm : min (PyData.depthAll ds) a.depth ≤ PyData.depthAll ds := Nat.min_le_left _ _
    cases neg with
    | true => exact SeqAt.notIn_list_reads r2 r1 l1 (shp_lay hs.1) (by omega) ⟨.bl _, H, I, rfl, q.val ok (.bl _)⟩
    | false => exact SeqAt.in_list_reads r2 r1 l1 (shp_lay hs.1) (by omega) ⟨.bl _, H, I, rfl, q.val ok (.bl _)⟩
  · cases e
theorem inT (M : Mt X c) {pins : List (Addr × Obj)} {s : Shared} {σ σ' : Sg} {ρ : Ev} {H F : Hp} {x y : V} {v u : Value} {Q : VK} {a : D} {ds : List D} {rv : RV} (neg : Bool) (I : Inv X pins σ H s) (rx : RelV x v) (ry : RelV y u) (ok : Ok c F σ' H ρ)
    (wa : Vw c.K F H x a) (wb : Vw c.K F H y (.tuple ds)) (e : (if shp a && shp (.tuple ds) then some (RV.v (.bool (if neg then !anyEq ds a else anyEq ds a))) else none) = some rv) (q : Fin c ρ F σ' H Q rv) :
    wpAny (model X.prog X.w) X.A (compareOp (if neg then .NotIn else .In) v u) (EP X pins σ Q) X.xe s := by
  have hu := M.hu
  split at e
  · rename_i hs
    rw [Bool.and_eq_true] at hs
    cases e
    obtain ⟨as, r1⟩ := wa.reads M I ok.sub rx (shp_lay hs.1)
    obtain ⟨bs, r2⟩ := wb.reads M I ok.sub ry (shp_lay hs.2)
    obtain ⟨l1, l2⟩ := shpT hs.2
    have hm : min (PyData.depthAll ds) a.depth ≤ PyData.depthAll ds := Nat.min_le_left _ _
    cases neg with
    | true => exact SeqAt.notIn_tuple_reads r2 r1 l1 (shp_lay hs.1) (by omega) ⟨.bl _, H, I, rfl, q.val ok (.bl _)⟩
    | false => exact SeqAt.in_tuple_reads r2 r1 l1 (shp_lay hs.1) (by omega) ⟨.bl _, H, I, rfl, q.val ok (.bl _)⟩
  · cases e
theorem inB (M : Mt X c) : OpR X (compareOp .In) (rOp c opIn) := by
  rintro pins s σ H x y v u Q I rx ry ⟨F, σ', ρ, a, b, rv, ok, wa, wb, e, q⟩
  cases b with
  | list ds => exact inL M false I rx ry ok wa wb (by cases a <;> exact e) q
  | tuple ds => exact inT M false I rx ry ok wa wb (by cases a <;> exact e) q
  | str j =>
    cases a with
    | str i =>
      cases e
      cases wa.str
      cases wb.str
      exact op_in_str pins s σ H _ _ v u Q I rx ry ⟨i, j, rfl, rfl, q.val ok (.bl _)⟩
    | _ => cases e
  | _ => cases a <;> cases e
theorem notInB (M : Mt X c) : OpR X (compareOp .NotIn) (rOp c opNotIn) := by
  rintro pins s σ H x y v u Q I rx ry ⟨F, σ', ρ, a, b, rv, ok, wa, wb, e, q⟩
  cases b with
  | list ds => exact inL M true I rx ry ok wa wb (by cases a <;> exact e) q
  | tuple ds => exact inT M true I rx ry ok wa wb (by cases a <;> exact e) q
  | str j =>
    cases a with
    | str i =>
      cases e
      cases wa.str
      cases wb.str
      exact op_notin_str pins s σ H _ _ v u Q I rx ry ⟨i, j, rfl, rfl, q.val ok (.bl _)⟩
    | _ => cases e
  | _ => cases a <;> cases e
end
end Vm
end

section
set_option maxRecDepth 100000
set_option maxHeartbeats 4000000
/-! Vm4: expressions and tests: plain functions, and that the code does them. -/
namespace Vm
open PySem PySem.Spec PyProof.Rows L2

/-- one after another; an exception goes through -/
def bE {α β : Type} (x : Option (Except Xn α × Ev)) (k : α → Ev → Option (Except Xn β × Ev)) : Option (Except Xn β × Ev) :=
  match x with
  | some (.ok a, ρ) => k a ρ
  | some (.error e, ρ) => some (.error e, ρ)
  | none => none

section
variable {c : Fc} {F F2 : Hp} {σ : Sg} {H : Hp} {ρ : Ev} {α β : Type} {x : Option (Except Xn α × Ev)} {R R' : α → Hp → Hp → Ev → Prop}
theorem En.bind {k : α → Ev → Option (Except Xn β × Ev)} {S : β → Hp → Hp → Ev → Prop} (h : En c F σ (bE x k) S) : En c F σ x (fun a F1 _ ρ1 => En c F1 σ (k a ρ1) S) := by
  obtain ⟨r, ρ', e, q⟩ := h
  unfold bE at e
  split at e
  · refine ⟨_, _, rfl, fun H1 F1 s1 ok1 => ⟨r, ρ', e, ?_⟩⟩
    cases r with
    | ok a => exact fun H' F' s' ok' => q H' F' (s1.trans s') ok'
    | error y => exact fun H' F' u a s' ok' xo => q H' F' u a (s1.trans s') ok' xo
  · cases e
    exact ⟨_, _, rfl, q⟩
  · cases e
theorem En.mono (s : Same F F2) (h : En c F σ x R) : En c F2 σ x R := by
  obtain ⟨r, ρ', e, q⟩ := h
  refine ⟨r, ρ', e, ?_⟩
  cases r with
  | ok a => exact fun H' F' s' ok' => q H' F' (s.trans s') ok'
  | error y => exact fun H' F' u a s' ok' xo => q H' F' u a (s.trans s') ok' xo
theorem En.imp (i : ∀ a F1 H1 ρ1, Same F F1 → Ok c F1 σ H1 ρ1 → R a F1 H1 ρ1 → R' a F1 H1 ρ1) (h : En c F σ x R) : En c F σ x R' := by
  obtain ⟨r, ρ', e, q⟩ := h
  refine ⟨r, ρ', e, ?_⟩
  cases r with
  | ok a => exact fun H' F' s' ok' => i _ _ _ _ s' ok' (q H' F' s' ok')
  | error y => exact q
theorem En.ret {a : α} (h : En c F σ (some (.ok a, ρ)) R) (ok : Ok c F σ H ρ) : R a F H ρ := by
  obtain ⟨r, ρ', e, q⟩ := h
  cases e
  exact q H F (Same.refl _) ok
theorem En.no {P : Prop} (h : En c F σ (none : Option (Except Xn α × Ev)) R) : P := by
  obtain ⟨r, ρ', e, q⟩ := h
  cases e
end

/-! ### names, constants -/
def slVar (i : Nat) (ρ : Ev) : Option Sl → Option (Except Xn RV × Ev)
  | some (.val d) => some (.ok (.v d), ρ)
  | some (.own _ _) => some (.ok (.s i), ρ)
  | _ => none
def eVar (i : Nat) : EF := fun ρ => slVar i ρ ρ[i]?
def eC (d : D) : EF := fun ρ => some (.ok (.v d), ρ)

section
variable {X : Cx} {c : Fc} {pos : Pos} {a b d : Expr} {fa fb fd : EF} {σ : Sg} {H : Hp} {Q : VK}

theorem le_var (i : Nat) {x : Str} (hN : X.N[i]? = some x := by rfl) (hv : Vis X.env.scope x := by first | exact Or.inl rfl | exact Or.inr (Or.inl rfl) | exact Or.inr (Or.inr rfl)) (hd : (x == ("__debug__" : Str)) = false := by decide)
    (hcd : (x == ("__classdict__" : Str)) = false := by decide) : PE X (.Name x pos) (liftE c (eVar i)) := by
  refine PEi (pe_var hN hv hd hcd) fun σ H Q h => ?_
  obtain ⟨F, ρ, ok, h⟩ := h
  have h : En c F σ (slVar i ρ ρ[i]?) (RE c σ Q) := h
  cases hs : ρ[i]? with
  | none => rw [hs] at h; exact h.no
  | some s =>
    rw [hs] at h
    cases s with
    | emp => exact h.no
    | val d =>
      obtain ⟨v, a, rr⟩ := ok.slot i _ hs
      exact ⟨v, a, h.ret ok v rr⟩
    | own b d =>
      obtain ⟨p, a, f, w, rr⟩ := ok.slot i _ hs
      exact ⟨_, a, h.ret ok _ a⟩
theorem le_C {t : TE} {v : V} {k : D} (h : PE X a (tC v)) (r : ∀ F, Rp c.K F v k) : PE X a (liftE c (eC k)) := by
  refine PEi h fun σ H Q h => ?_
  obtain ⟨F, ρ, ok, h⟩ := h
  exact h.ret ok v (r F)
theorem le_int {i : Int} {j : Nat} : PE X (.Constant (.int i) j pos) (liftE c (eC (.int i))) := le_C (t := tC (.int i)) pe_int fun _ => .int _
theorem le_str {i : Str} {j : Nat} : PE X (.Constant (.str i) j pos) (liftE c (eC (.str i))) := le_C (t := tC (.int 0)) pe_str fun _ => .str _
theorem le_bool {i : Bool} {j : Nat} : PE X (.Constant (.bool i) j pos) (liftE c (eC (.bool i))) := le_C (t := tC (.int 0)) pe_bl fun _ => .bl _
theorem le_none {j : Nat} : PE X (.Constant .none j pos) (liftE c (eC .none)) := le_C (t := tC (.int 0)) pe_non fun _ => .non
/-- a text that is a constant of the module -/
theorem le_globS {x z : Str} {t : Tok} (M : Mt X c) (hg : Gl X x) (hm : c.mg x = some (.str z t)) (hd : (x == ("__debug__" : Str)) = false := by decide) : PE X (.Name x pos) (liftE c (eC (.str z))) :=
  le_C (t := tC (.int 0)) (pe_glob (v := .str z) hg (by rw [M.mg]; exact hm) ⟨t, rfl⟩ hd) fun _ => .str _
theorem le_globI {x : Str} {z : Int} {t : Tok} (M : Mt X c) (hg : Gl X x) (hm : c.mg x = some (.int z t)) (hd : (x == ("__debug__" : Str)) = false := by decide) : PE X (.Name x pos) (liftE c (eC (.int z))) :=
  le_C (t := tC (.int 0)) (pe_glob (v := .int z) hg (by rw [M.mg]; exact hm) ⟨t, rfl⟩ hd) fun _ => .int _

/-! ### operations -/
def opt2 (op : BOp) (ρ : Ev) : Option D → Option D → Option (Except Xn RV × Ev)
  | some a, some b => (op a b).map fun r => (.ok r, ρ)
  | _, _ => none
def opt1 (op : UOp) (ρ : Ev) : Option D → Option (Except Xn RV × Ev)
  | some a => (op a).map fun r => (.ok r, ρ)
  | _ => none
def eBin (op : BOp) (fa fb : EF) : EF := fun ρ => bE (fa ρ) fun ra ρ1 => bE (fb ρ1) fun rb ρ2 => opt2 op ρ2 (rd ρ2 (hold ra)) (rd ρ2 rb)
def eUn (op : UOp) (fa : EF) : EF := fun ρ => bE (fa ρ) fun ra ρ1 => opt1 op ρ1 (rd ρ1 ra)

theorem opt1_of {op : UOp} {F : Hp} {ρ : Ev} {rv : RV} {v : V} (h : En c F σ (opt1 op ρ (rd ρ rv)) (RE c σ Q)) (ok : Ok c F σ H ρ) (r : RvOk c F σ H ρ v rv) : rUn c op v H Q := by
  cases e : rd ρ rv with
  | none => rw [e] at h; exact h.no
  | some d =>
    rw [e] at h
    have h : En c F σ ((op d).map fun r => (.ok r, ρ)) (RE c σ Q) := h
    cases e2 : op d with
    | none => rw [e2] at h; exact h.no
    | some r' =>
      rw [e2] at h
      refine ⟨F, σ, ρ, d, r', ok, r.vw ok e, e2, fun v' H' F' s' ok' r2 => ?_⟩
      obtain ⟨r3, ρ', e3, q⟩ := h
      cases e3
      exact q H' F' s' ok' v' r2
theorem opt2_of {op : BOp} {F : Hp} {ρ : Ev} {ra rb : RV} {v u : V} (h : En c F σ (opt2 op ρ (rd ρ ra) (rd ρ rb)) (RE c σ Q)) (ok : Ok c F σ H ρ) (r : RvOk c F σ H ρ v ra) (r' : RvOk c F σ H ρ u rb) : rOp c op v u H Q := by
  cases e : rd ρ ra with
  | none => rw [e] at h; exact h.no
  | some d =>
    cases e' : rd ρ rb with
    | none => rw [e, e'] at h; exact h.no
    | some d' =>
      rw [e, e'] at h
      have h : En c F σ ((op d d').map fun r => (.ok r, ρ)) (RE c σ Q) := h
      cases e2 : op d d' with
      | none => rw [e2] at h; exact h.no
      | some rv =>
        rw [e2] at h
        refine ⟨F, σ, ρ, d, d', rv, ok, r.vw ok e, r'.vw ok e', e2, fun v' H' F' s' ok' r2 => ?_⟩
        obtain ⟨r3, ρ', e3, q⟩ := h
        cases e3
        exact q H' F' s' ok' v' r2

/-- an expression, then what follows -/
theorem le_then {k : RV → Ev → Option (Except Xn RV × Ev)} {Q' : VK} (h : liftE c (fun ρ => bE (fa ρ) k) σ H Q)
    (i : ∀ F1 H1 ρ1 v rv, Ok c F1 σ H1 ρ1 → RvOk c F1 σ H1 ρ1 v rv → En c F1 σ (k rv ρ1) (RE c σ Q) → Q' v H1) : liftE c fa σ H Q' := by
  obtain ⟨F, ρ, ok, h⟩ := h
  exact ⟨F, ρ, ok, h.bind.imp fun rv F1 H1 ρ1 s1 ok1 h1 v r => i F1 H1 ρ1 v rv ok1 r h1⟩

theorem two_of {op : BOp} (h : liftE c (eBin op fa fb) σ H Q) : tOp (rOp c op) (liftE c fa) (liftE c fb) σ H Q := by
  refine le_then h fun F1 H1 ρ1 v rv ok1 r1 h1 => ?_
  obtain ⟨F2, s2, ok2, h2⟩ := r1.held ok1
  have h1 := (h1.mono s2).bind
  exact ⟨F2, ρ1, ok2, h1.imp fun rb F3 H3 ρ3 s3 ok3 h3 u r3 => opt2_of h3 ok3 (h2.mono s3).ok r3⟩
theorem one_of {op : UOp} (h : liftE c (eUn op fa) σ H Q) : tUn (rUn c op) (liftE c fa) σ H Q :=
  le_then h fun F1 H1 ρ1 v rv ok1 r1 h1 => opt1_of h1 ok1 r1

theorem le_bin {op : Operator} {f : BOp} (ho : OpR X (binaryOp op) (rOp c f)) (ha : PE X a (liftE c fa)) (hb : PE X b (liftE c fb)) : PE X (.BinOp a op b pos) (liftE c (eBin f fa fb)) :=
  PEi (pe_op ho ha hb) fun σ H Q h => two_of h
theorem le_un {op : UnaryOp} {f : UOp} (ho : UnR X (unaryOp op) (rUn c f)) (ha : PE X a (liftE c fa)) : PE X (.UnaryOp op a pos) (liftE c (eUn f fa)) :=
  PEi (pe_un ho ha) fun σ H Q h => one_of h
theorem le_cmp {op : CmpOp} {f : BOp} (ho : OpR X (compareOp op) (rOp c f)) (ha : PE X a (liftE c fa)) (hb : PE X b (liftE c fb)) (hm : behindInMarks op b = false) : PE X (.Compare a [op] [b] pos) (liftE c (eBin f fa fb)) :=
  PEi (pe_cmpR ho ha hb hm) fun σ H Q h => two_of h
/-- a op b op' d -/
def eChain (f g : BOp) (fa fb fd : EF) : EF := fun ρ => bE (fa ρ) fun ra ρ1 => bE (fb ρ1) fun rb ρ2 => bE (opt2 f ρ2 (rd ρ2 (hold ra)) (rd ρ2 (hold rb))) fun r ρ3 =>
  match r with
  | .v (.bool true) => bE (fd ρ3) fun rc ρ4 => opt2 g ρ4 (rd ρ4 (hold rb)) (rd ρ4 rc)
  | .v (.bool false) => some (.ok (.v (.bool false)), ρ3)
  | _ => none
theorem le_chain {op op' : CmpOp} {f g : BOp} (ho : OpR X (compareOp op) (rOp c f)) (ho' : OpR X (compareOp op') (rOp c g)) (ha : PE X a (liftE c fa)) (hb : PE X b (liftE c fb)) (hd : PE X d (liftE c fd))
    (hm : lastMarks [op, op'] [b, d] = false := by rfl) : PE X (.Compare a [op, op'] [b, d] pos) (liftE c (eChain f g fa fb fd)) := by
  refine PEi (pe_chain ho ho' ha hb hd hm) fun σ H Q h => ?_
  refine le_then h fun F1 H1 ρ1 v rv ok1 r1 h1 => ?_
  obtain ⟨F2, s2, ok2, h2⟩ := r1.held ok1
  have h1 := (h1.mono s2).bind
  refine ⟨F2, ρ1, ok2, h1.imp fun rb F3 H3 ρ3 s3 ok3 h3 u r3 => ?_⟩
  obtain ⟨F4, s4, ok4, h4⟩ := r3.held ok3
  have h5 := (h3.mono s4).bind
  have h6 := h2.mono (s3.trans s4)
  refine opt2_of (h5.imp fun r F5 H5 ρ5 s5 ok5 h7 w rw => ?_) ok4 h6.ok h4.ok
  cases r with
  | v k =>
    cases k with
    | bool t =>
      cases rw
      refine ⟨t, rfl, ?_⟩
      cases t with
      | true =>
        rw [if_pos rfl]
        have h8 := h7.bind
        exact ⟨F5, ρ5, ok5, h8.imp fun rc F9 H9 ρ9 s9 ok9 h9 z rz => opt2_of h9 ok9 (h4.mono (s5.trans s9)).ok rz⟩
      | false =>
        rw [if_neg Bool.false_ne_true]
        exact h7.ret ok5 _ (.bl _)
    | _ => exact h7.no
  | _ => exact h7.no
end
end Vm
end

section
set_option maxRecDepth 100000
set_option maxHeartbeats 4000000
/-! Vm5: truth, and or not, tests, displays, subscripts, built-ins. -/
namespace Vm
open PySem PySem.Spec PyProof.Rows L2

/-! ### truth -/
def truD : D → Option Bool
  | .none => some false
  | .bool b => some b
  | .int i => some (i != 0)
  | .str x => if x.length ≤ sizeLine then some ((x.length : Int) != 0) else none
  | .list ds => some (!ds.isEmpty)
  | .tuple ds => some (!ds.isEmpty)
  | .dict _ => none
theorem Vw.tru {K : PySem.W.Frag} {F H : Hp} {v : V} {d : D} {k : Bool} (s : Same F H) (w : Vw K F H v d) (e : truD d = some k) : TruV K v H k := by
  cases d with
  | none => cases w.none; cases e; rfl
  | bool b => cases w.bool; cases e; rfl
  | int i => cases w.int; cases e; rfl
  | str x =>
    cases w.str
    have e : (if x.length ≤ sizeLine then some ((x.length : Int) != 0) else Option.none) = some k := e
    split at e
    · rename_i h
      cases e
      exact ⟨h, rfl⟩
    · cases e
  | list ds =>
    obtain ⟨a, vs, rfl, h, r⟩ := w.list s
    cases e
    refine .inl ⟨vs, .inl h, ?_⟩
    cases r <;> rfl
  | tuple ds =>
    obtain ⟨a, vs, rfl, h, r⟩ := w.tuple s
    cases e
    refine .inr (.inl ⟨vs, h, ?_⟩)
    cases r <;> rfl
  | dict _ => cases e

section
variable {X : Cx} {c : Fc} {pos : Pos} {a b d : Expr} {rest : List Expr} {fa fb fd : EF} {ta tb : TF} {σ : Sg} {H : Hp} {Q : VK}

def ifD {α : Type} (x : Option Bool) (t f : Option α) : Option α :=
  match x with
  | some true => t
  | some false => f
  | none => none
theorem ifD_of {α : Type} {F : Hp} {x : Option Bool} {t f : Option (Except Xn α × Ev)} {R : α → Hp → Hp → Ev → Prop} (h : En c F σ (ifD x t f) R) : ∃ k, x = some k ∧ if k = true then En c F σ t R else En c F σ f R := by
  cases x with
  | none => exact h.no
  | some k =>
    refine ⟨k, rfl, ?_⟩
    cases k with
    | true => rw [if_pos rfl]; exact h
    | false => rw [if_neg Bool.false_ne_true]; exact h
def rdTru (ρ : Ev) (r : RV) : Option Bool := (rd ρ r).bind truD
theorem rdTru_of {F : Hp} {ρ : Ev} {r : RV} {v : V} {k : Bool} (ok : Ok c F σ H ρ) (rr : RvOk c F σ H ρ v r) (e : rdTru ρ r = some k) : TruV c.K v H k := by
  unfold rdTru at e
  obtain ⟨d, e1, e2⟩ := Option.bind_eq_some_iff.mp e
  exact (rr.vw ok e1).tru ok.sub e2

def eAnd (fa fb : EF) : EF := fun ρ => bE (fa ρ) fun ra ρ1 => ifD (rdTru ρ1 ra) (fb ρ1) (some (.ok ra, ρ1))
def eOr (fa fb : EF) : EF := fun ρ => bE (fa ρ) fun ra ρ1 => ifD (rdTru ρ1 ra) (some (.ok ra, ρ1)) (fb ρ1)
def eNot (fa : EF) : EF := fun ρ => bE (fa ρ) fun ra ρ1 => ifD (rdTru ρ1 ra) (some (.ok (.v (.bool false)), ρ1)) (some (.ok (.v (.bool true)), ρ1))
theorem le_one {op} {p : Pos} (h : PE X a (liftE c fa)) : PE X (.BoolOp op [a] p) (liftE c fa) := pe_one h
theorem le_and (M : Mt X c) (ha : PE X a (liftE c fa)) (hb : PE X (.BoolOp .And (b :: rest) pos) (liftE c fb)) : PE X (.BoolOp .And (a :: b :: rest) pos) (liftE c (eAnd fa fb)) := by
  refine PEi (pe_andT ha hb) fun σ H Q h => ?_
  refine le_then h fun F1 H1 ρ1 v rv ok1 r1 h1 => ?_
  obtain ⟨k, e, h2⟩ := ifD_of h1
  refine ⟨k, by rw [M.K]; exact rdTru_of ok1 r1 e, ?_⟩
  cases k with
  | true =>
    rw [if_pos rfl] at h2 ⊢
    exact ⟨F1, ρ1, ok1, h2⟩
  | false =>
    rw [if_neg Bool.false_ne_true] at h2 ⊢
    exact h2.ret ok1 v r1
theorem le_or (M : Mt X c) (ha : PE X a (liftE c fa)) (hb : PE X (.BoolOp .Or (b :: rest) pos) (liftE c fb)) : PE X (.BoolOp .Or (a :: b :: rest) pos) (liftE c (eOr fa fb)) := by
  refine PEi (pe_orT ha hb) fun σ H Q h => ?_
  refine le_then h fun F1 H1 ρ1 v rv ok1 r1 h1 => ?_
  obtain ⟨k, e, h2⟩ := ifD_of h1
  refine ⟨k, by rw [M.K]; exact rdTru_of ok1 r1 e, ?_⟩
  cases k with
  | true =>
    rw [if_pos rfl] at h2 ⊢
    exact h2.ret ok1 v r1
  | false =>
    rw [if_neg Bool.false_ne_true] at h2 ⊢
    exact ⟨F1, ρ1, ok1, h2⟩
theorem le_not (M : Mt X c) (ha : PE X a (liftE c fa)) : PE X (.UnaryOp .Not a pos) (liftE c (eNot fa)) := by
  refine PEi (pe_notT ha) fun σ H Q h => ?_
  refine le_then h fun F1 H1 ρ1 v rv ok1 r1 h1 => ?_
  obtain ⟨k, e, h2⟩ := ifD_of h1
  refine ⟨k, by rw [M.K]; exact rdTru_of ok1 r1 e, ?_⟩
  cases k with
  | true => rw [if_pos rfl] at h2; exact h2.ret ok1 _ (.bl _)
  | false => rw [if_neg Bool.false_ne_true] at h2; exact h2.ret ok1 _ (.bl _)

/-! ### tests -/
theorem lt_then {α : Type} {f : Ev → Option (Except Xn Bool × Ev)} {k : Bool → Ev → Option (Except Xn α × Ev)} {R : α → Hp → Hp → Ev → Prop} {Q' : Bool → Hp → Prop} {F : Hp} {ρ : Ev} (ok : Ok c F σ H ρ) (h : En c F σ (bE (f ρ) k) R)
    (i : ∀ F1 H1 ρ1 b, Ok c F1 σ H1 ρ1 → En c F1 σ (k b ρ1) R → Q' b H1) : liftT c f σ H Q' :=
  ⟨F, ρ, ok, h.bind.imp fun b F1 H1 ρ1 s1 ok1 h1 => i F1 H1 ρ1 b ok1 h1⟩
/-- the truth of an expression -/
def tE (fa : EF) : TF := fun ρ => bE (fa ρ) fun ra ρ1 => (rdTru ρ1 ra).map fun b => (.ok b, ρ1)
theorem tE_of {Q : Bool → Hp → Prop} (h : liftT c (tE fa) σ H Q) {Q' : VK} (i : ∀ F1 H1 ρ1 v rv b, Ok c F1 σ H1 ρ1 → RvOk c F1 σ H1 ρ1 v rv → rdTru ρ1 rv = some b → Q b H1 → Q' v H1) : liftE c fa σ H Q' := by
  obtain ⟨F, ρ, ok, h⟩ := h
  have h : En c F σ (bE (fa ρ) fun ra ρ1 => (rdTru ρ1 ra).map fun b => (.ok b, ρ1)) (RT Q) := h
  refine ⟨F, ρ, ok, h.bind.imp fun rv F1 H1 ρ1 s1 ok1 h1 v r => ?_⟩
  cases e : rdTru ρ1 rv with
  | none => rw [e] at h1; exact h1.no
  | some b =>
    rw [e] at h1
    exact i F1 H1 ρ1 v rv b ok1 r e (h1.ret ok1)
theorem lt_E (M : Mt X c) (ha : PE X a (liftE c fa)) (he : ∀ whole, isTrue a X.env whole = (do let v ← whole; standAt a.pos; holding [v] (truthy v)) := by intro _; rfl) : PT X a (liftT c (tE fa)) :=
  PTi (pt_truth ha he) fun σ H Q h => tE_of h fun F1 H1 ρ1 v rv b ok1 r1 e q => ⟨b, by rw [M.K]; exact rdTru_of ok1 r1 e, q⟩
/-- a comparison as a test: its answer is a bool -/
def boolV : RV → Option Bool
  | .v (.bool b) => some b
  | _ => none
def tB (fa : EF) : TF := fun ρ => bE (fa ρ) fun ra ρ1 => (boolV ra).map fun b => (.ok b, ρ1)
theorem lt_cmp {op : CmpOp} {f : BOp} (ho : OpR X (compareOp op) (rOp c f)) (ha : PE X a (liftE c fa)) (hb : PE X b (liftE c fb)) (hm : behindInMarks op b = false) : PT X (.Compare a [op] [b] pos) (liftT c (tB (eBin f fa fb))) := by
  refine PTi (pt_cmpR ho ha hb hm) fun σ H Q h => ?_
  obtain ⟨F, ρ, ok, h⟩ := h
  have h : En c F σ (bE (eBin f fa fb ρ) fun ra ρ1 => (boolV ra).map fun b => (.ok b, ρ1)) (RT Q) := h
  refine two_of ⟨F, ρ, ok, h.bind.imp fun rv F1 H1 ρ1 s1 ok1 h1 v r => ?_⟩
  cases rv with
  | v k =>
    cases k with
    | bool t =>
      cases r
      exact ⟨t, rfl, h1.ret ok1⟩
    | _ => exact h1.no
  | _ => exact h1.no
def tAnd (ta tb : TF) : TF := fun ρ => bE (ta ρ) fun b ρ1 => if b = true then tb ρ1 else some (.ok false, ρ1)
def tOr (ta tb : TF) : TF := fun ρ => bE (ta ρ) fun b ρ1 => if b = true then some (.ok true, ρ1) else tb ρ1
def tNot (ta : TF) : TF := fun ρ => bE (ta ρ) fun b ρ1 => some (.ok (!b), ρ1)
theorem lw_and1 {p : Pos} (h : PT X a (liftT c ta)) : PW X (.BoolOp .And [a] p) (liftT c ta) := pw_and1 h
theorem lw_or1 {p : Pos} (h : PT X a (liftT c ta)) : PW X (.BoolOp .Or [a] p) (liftT c ta) := pw_or1 h
theorem lw_and (ha : PT X a (liftT c ta)) (hb : PW X (.BoolOp .And (b :: rest) pos) (liftT c tb)) : PW X (.BoolOp .And (a :: b :: rest) pos) (liftT c (tAnd ta tb)) := by
  refine PWi (pw_and ha hb) fun σ H Q ⟨F, ρ, ok, h⟩ => ?_
  refine lt_then ok h fun F1 H1 ρ1 t ok1 h1 => ?_
  cases t with
  | true => rw [if_pos rfl] at h1 ⊢; exact ⟨F1, ρ1, ok1, h1⟩
  | false => rw [if_neg Bool.false_ne_true] at h1 ⊢; exact h1.ret ok1
theorem lw_or (ha : PT X a (liftT c ta)) (hb : PW X (.BoolOp .Or (b :: rest) pos) (liftT c tb)) : PW X (.BoolOp .Or (a :: b :: rest) pos) (liftT c (tOr ta tb)) := by
  refine PWi (pw_or ha hb) fun σ H Q ⟨F, ρ, ok, h⟩ => ?_
  refine lt_then ok h fun F1 H1 ρ1 t ok1 h1 => ?_
  cases t with
  | true => rw [if_pos rfl] at h1 ⊢; exact h1.ret ok1
  | false => rw [if_neg Bool.false_ne_true] at h1 ⊢; exact ⟨F1, ρ1, ok1, h1⟩
theorem lt_not (ha : PT X a (liftT c ta)) : PT X (.UnaryOp .Not a pos) (liftT c (tNot ta)) := by
  refine PTi (pt_not ha) fun σ H Q ⟨F, ρ, ok, h⟩ => ?_
  exact lt_then ok h fun F1 H1 ρ1 t ok1 h1 => h1.ret ok1
def eIf (t : TF) (fa fb : EF) : EF := fun ρ => bE (t ρ) fun b ρ1 => if b = true then fa ρ1 else fb ρ1
theorem le_if {e : Expr} (ht : PT X e (liftT c ta)) (ha : PE X a (liftE c fa)) (hb : PE X b (liftE c fb)) : PE X (.IfExp e a b pos) (liftE c (eIf ta fa fb)) := by
  refine PEi (pe_ifExp ht ha hb) fun σ H Q ⟨F, ρ, ok, h⟩ => ?_
  refine lt_then ok h fun F1 H1 ρ1 t ok1 h1 => ?_
  cases t with
  | true => rw [if_pos rfl] at h1 ⊢; exact ⟨F1, ρ1, ok1, h1⟩
  | false => rw [if_neg Bool.false_ne_true] at h1 ⊢; exact ⟨F1, ρ1, ok1, h1⟩

/-! ### displays -/
def aNil : AF := fun ρ => some (.ok [], ρ)
def standE {α : Type} (x : Option (D × Ev)) (k : D → Ev → Option (Except Xn α × Ev)) : Option (Except Xn α × Ev) :=
  match x with
  | some (d, ρ) => k d ρ
  | none => none
def aCons (fa : EF) (fr : AF) : AF := fun ρ => bE (fa ρ) fun ra ρ1 => standE (stand ra ρ1) fun d ρ2 => bE (fr ρ2) fun ds ρ3 => some (.ok (d :: ds), ρ3)
theorem standE_of {α : Type} {F : Hp} {ρ : Ev} {r : RV} {v : V} {k : D → Ev → Option (Except Xn α × Ev)} {R : α → Hp → Hp → Ev → Prop} (h : En c F σ (standE (stand r ρ) k) R) (ok : Ok c F σ H ρ) (rr : RvOk c F σ H ρ v r) :
    ∃ F' d ρ', Same F F' ∧ Ok c F' σ H ρ' ∧ Rp c.K F' v d ∧ En c F' σ (k d ρ') R := by
  cases e : stand r ρ with
  | none => rw [e] at h; exact h.no
  | some x =>
    obtain ⟨d, ρ'⟩ := x
    rw [e] at h
    obtain ⟨F', s', ok', rp⟩ := rr.stand ok e
    exact ⟨F', d, ρ', s', ok', rp, h.mono s'⟩
theorem la_nil : PA X [] (liftA c aNil) := PAi pa_nil fun σ H Q ⟨F, ρ, ok, h⟩ => h.ret ok _ .nil
theorem la_cons {e : Expr} {es : List Expr} {fr : AF} (ha : PE X e (liftE c fa)) (hr : PA X es (liftA c fr)) (hs : starEach (e :: es) X.env = (false, eval e X.env) :: starEach es X.env := by rfl) : PA X (e :: es) (liftA c (aCons fa fr)) := by
  refine PAi (pa_cons ha hr hs) fun σ H Q ⟨F, ρ, ok, h⟩ => ?_
  refine ⟨F, ρ, ok, (En.bind (k := fun ra ρ1 => standE (stand ra ρ1) fun d ρ2 => bE (fr ρ2) fun ds ρ3 => some (.ok (d :: ds), ρ3)) h).imp fun rv F1 H1 ρ1 s1 ok1 h1 v r => ?_⟩
  obtain ⟨F2, d, ρ2, s2, ok2, rp, h2⟩ := standE_of h1 ok1 r
  exact ⟨F2, ρ2, ok2, h2.bind.imp fun ds F3 H3 ρ3 s3 ok3 h3 vs rs => h3.ret ok3 _ (.cons (rp.mono s3) rs)⟩
def eTup (fr : AF) : EF := fun ρ => bE (fr ρ) fun ds ρ1 => if ds.length ≤ sizeLine then some (.ok (.v (.tuple ds)), ρ1) else none
def eLst (fr : AF) : EF := fun ρ => bE (fr ρ) fun ds ρ1 => if ds.length ≤ sizeLine then some (.ok (.f (.list ds)), ρ1) else none
theorem le_tup {es : List Expr} {fr : AF} {k : Nat} (h : PA X es (liftA c fr)) : PE X (.Tuple es k pos) (liftE c (eTup fr)) := by
  refine PEi (pe_tup h) fun σ H Q ⟨F, ρ, ok, h⟩ => ?_
  refine ⟨F, ρ, ok, (En.bind (k := fun ds ρ1 => if ds.length ≤ sizeLine then some (Except.ok (RV.v (.tuple ds)), ρ1) else none) h).imp fun ds F1 H1 ρ1 s1 ok1 h1 vs r => ?_⟩
  split at h1
  · rename_i hz
    refine ⟨by rw [r.length]; exact hz, fun p n => ?_⟩
    obtain ⟨sf, ok'⟩ := ok1.laidF (o := .tup vs) n
    exact (h1.mono sf).ret ok' _ (.tup (.inl (.inl upd_same)) (r.mono sf))
  · exact h1.no
theorem le_lst {es : List Expr} {fr : AF} (h : PA X es (liftA c fr)) : PE X (.List es pos) (liftE c (eLst fr)) := by
  refine PEi (pe_lst h) fun σ H Q ⟨F, ρ, ok, h⟩ => ?_
  refine ⟨F, ρ, ok, (En.bind (k := fun ds ρ1 => if ds.length ≤ sizeLine then some (Except.ok (RV.f (.list ds)), ρ1) else none) h).imp fun ds F1 H1 ρ1 s1 ok1 h1 vs r => ?_⟩
  split at h1
  · rename_i hz
    refine ⟨by rw [r.length]; exact hz, fun p n => ?_⟩
    obtain ⟨n1, n2, n3, n4⟩ := ok1.newN n
    exact h1.ret (ok1.laid n) _ ⟨p, rfl, n1, n2, n3, ⟨vs, upd_same, r⟩, n4⟩
  · exact h1.no

/-! ### subscripts -/
def opIx : BOp
  | .list ds, .int i => (atI ds i).map RV.v
  | .tuple ds, .int i => (atI ds i).map RV.v
  | .str z, .int i => if z.length ≤ sizeLine then (atI z.cps.toList i).map fun k => .v (.str ⟨#[k]⟩) else none
  | _, _ => none
theorem atI_rp {K : PySem.W.Frag} {F : Hp} {vs : List V} {ds : List D} {i : Int} {d : D} (r : RpA K F vs ds) (e : atI ds i = some d) : ∃ v, atI vs i = some v ∧ Rp K F v d := by
  unfold atI at e ⊢
  obtain ⟨j, e1, e2⟩ := Option.bind_eq_some_iff.mp e
  obtain ⟨v, e3, rp⟩ := r.get e2
  exact ⟨v, by rw [r.length, e1]; exact e3, rp⟩
theorem ixB (M : Mt X c) : IxR X (rOp c opIx) := by
  rintro value slice pins s σ H x y v u Q I rx ry ⟨F, σ', ρ, a, b, rv, ok, wa, wb, e, q⟩ hs
  cases b with
  | int i =>
    cases wb.int
    cases a with
    | list ds =>
      obtain ⟨d, e1, e2⟩ := Option.map_eq_some_iff.mp (show (atI ds i).map RV.v = some rv from e)
      subst e2
      obtain ⟨p, vs, rfl, h, r⟩ := wa.list ok.sub
      obtain ⟨z, e3, rp⟩ := atI_rp r e1
      exact ix_list value slice pins s σ H _ _ v u Q I rx ry ⟨p, vs, i, z, rfl, rfl, .inl h, e3, q.val ok rp⟩ hs
    | tuple ds =>
      obtain ⟨d, e1, e2⟩ := Option.map_eq_some_iff.mp (show (atI ds i).map RV.v = some rv from e)
      subst e2
      obtain ⟨p, vs, rfl, h, r⟩ := wa.tuple ok.sub
      obtain ⟨z, e3, rp⟩ := atI_rp r e1
      exact ix_tup value slice pins s σ H _ _ v u Q I rx ry ⟨p, vs, i, z, rfl, rfl, by rw [M.K]; exact h, e3, q.val ok rp⟩ hs
    | str z =>
      have e : (if z.length ≤ sizeLine then (atI z.cps.toList i).map fun k => RV.v (.str ⟨#[k]⟩) else none) = some rv := e
      split at e
      · rename_i hz
        obtain ⟨d, e1, e2⟩ := Option.map_eq_some_iff.mp e
        subst e2
        cases wa.str
        exact ix_str value slice pins s σ H _ _ v u Q I rx ry ⟨z, i, d, rfl, rfl, hz, e1, q.val ok (.str _)⟩ hs
      · cases e
    | _ => cases e
  | _ => cases a <;> cases e
theorem le_ix (M : Mt X c) (ha : PE X a (liftE c fa)) (hb : PE X b (liftE c fb)) (hs : PlainIx b := by intro _ _; rfl) : PE X (.Subscript a b pos) (liftE c (eBin opIx fa fb)) :=
  PEi (pe_ix (ixB M) ha hb hs) fun σ H Q h => two_of h

/-! ### built-ins by one value -/
def rC1 (c : Fc) (op : UOp) : List V → Hp → VK → Prop := fun xs H Q => ∃ x, xs = [x] ∧ rUn c op x H Q
theorem le_b1 {op : UOp} {x : Str} {id : String} {p : Pos} (hc : CallR X (.builtin id) (rC1 c op)) (hg : Gl X x) (hm : X.mg x = none) (hv : bootBuiltins x = some (.builtin id)) (ha : PE X a (liftE c fa)) (hn : x ≠ "__name__" := by decide) (hdb : (x == ("__debug__" : Str)) = false := by decide)
    (he : starEach [a] X.env = (false, eval a X.env) :: starEach [] X.env := by rfl) (hpl : (backTo pos (starEach [] X.env)).any (·.1) = false := by rfl) : PE X (.Call (.Name x p) [a] [] pos) (liftE c (eUn op fa)) := by
  refine PEi (pe_callB hc hg hm hv (pa_cons ha pa_nil he) hn hdb he hpl) fun σ H Q h => ?_
  obtain ⟨F, ρ, ok, h⟩ := one_of h
  exact ⟨F, ρ, ok, h.imp fun rv F1 H1 ρ1 s1 ok1 h1 v r => ⟨v, rfl, h1 v r⟩⟩
theorem le_t1 {op : UOp} {x : Str} {T : String} {p : Pos} (hc : CallR X (.type T) (rC1 c op)) (hg : Gl X x) (hm : X.mg x = none) (hv : bootBuiltins x = some (.type T)) (ha : PE X a (liftE c fa)) (hn : x ≠ "__name__" := by decide) (hdb : (x == ("__debug__" : Str)) = false := by decide)
    (he : starEach [a] X.env = (false, eval a X.env) :: starEach [] X.env := by rfl) (hpl : (backTo pos (starEach [] X.env)).any (·.1) = false := by rfl) : PE X (.Call (.Name x p) [a] [] pos) (liftE c (eUn op fa)) := by
  refine PEi (pe_callTy hc hg hm hv (pa_cons ha pa_nil he) hn hdb he hpl) fun σ H Q h => ?_
  obtain ⟨F, ρ, ok, h⟩ := one_of h
  exact ⟨F, ρ, ok, h.imp fun rv F1 H1 ρ1 s1 ok1 h1 v r => ⟨v, rfl, h1 v r⟩⟩
def rC2 (c : Fc) (op : BOp) : List V → Hp → VK → Prop := fun xs H Q => ∃ x y, xs = [x, y] ∧ rOp c op x y H Q
theorem le_b2 {op : BOp} {x : Str} {id : String} {p : Pos} (hc : CallR X (.builtin id) (rC2 c op)) (hg : Gl X x) (hm : X.mg x = none) (hv : bootBuiltins x = some (.builtin id)) (ha : PE X a (liftE c fa)) (hb : PE X b (liftE c fb)) (hn : x ≠ "__name__" := by decide) (hdb : (x == ("__debug__" : Str)) = false := by decide)
    (he : starEach [a, b] X.env = (false, eval a X.env) :: starEach [b] X.env := by rfl) (he2 : starEach [b] X.env = (false, eval b X.env) :: starEach [] X.env := by rfl) (hpl : (backTo pos (starEach [b] X.env)).any (·.1) = false := by rfl) : PE X (.Call (.Name x p) [a, b] [] pos) (liftE c (eBin op fa fb)) := by
  refine PEi (pe_callB hc hg hm hv (pa_cons ha (pa_cons hb pa_nil he2) he) hn hdb he hpl) fun σ H Q h => ?_
  obtain ⟨F, ρ, ok, h⟩ := two_of h
  refine ⟨F, ρ, ok, h.imp fun rv F1 H1 ρ1 s1 ok1 h1 v r => ?_⟩
  obtain ⟨F', ρ', ok', h'⟩ := h1 v r
  exact ⟨F', ρ', ok', h'.imp fun rv2 F2 H2 ρ2 s2 ok2 h2 v2 r2 => ⟨_, _, rfl, h2 v2 r2⟩⟩

def unLen : UOp
  | .list ds => some (.v (.int ds.length))
  | .tuple ds => some (.v (.int ds.length))
  | .str x => if x.length ≤ sizeLine then some (.v (.int x.length)) else none
  | _ => none
theorem len1 (M : Mt X c) : CallR X (.builtin "len") (rC1 c unLen) := by
  rintro pins s σ H xs us Q I r ⟨x, rfl, F, σ', ρ, a, rv, ok, wa, e, q⟩
  cases a with
  | list ds =>
    cases e
    obtain ⟨p, vs, rfl, h, rr⟩ := wa.list ok.sub
    exact call_len_seq pins s σ H _ us Q I r ⟨p, vs, rfl, .inl (.inl h), by rw [rr.length]; exact q.val ok (.int _)⟩
  | tuple ds =>
    cases e
    obtain ⟨p, vs, rfl, h, rr⟩ := wa.tuple ok.sub
    exact call_len_seq pins s σ H _ us Q I r ⟨p, vs, rfl, .inr (by rw [M.K]; exact h), by rw [rr.length]; exact q.val ok (.int _)⟩
  | str z =>
    have e : (if z.length ≤ sizeLine then some (RV.v (.int z.length)) else none) = some rv := e
    split at e
    · rename_i hz
      cases e
      cases wa.str
      exact call_len_str pins s σ H _ us Q I r ⟨z, rfl, hz, q.val ok (.int _)⟩
    · cases e
  | _ => cases e
def unInt : UOp
  | .int i => some (.v (.int i))
  | .bool k => some (.v (.int (if k then 1 else 0)))
  | _ => none
theorem int1 (M : Mt X c) : CallR X (.type "int") (rC1 c unInt) := by
  rintro pins s σ H xs us Q I r ⟨x, rfl, F, σ', ρ, a, rv, ok, wa, e, q⟩
  cases a with
  | int i =>
    cases e
    cases wa.int
    exact call_int1 pins s σ H _ us Q I r (.inl ⟨i, rfl, q.val ok (.int _)⟩)
  | bool k =>
    cases e
    cases wa.bool
    exact call_int1 pins s σ H _ us Q I r (.inr ⟨k, rfl, q.val ok (.int _)⟩)
  | _ => cases e
def unAbs : UOp
  | .int i => some (.v (.int (if i < 0 then -i else i)))
  | _ => none
theorem abs1 (M : Mt X c) : CallR X (.builtin "abs") (rC1 c unAbs) := by
  rintro pins s σ H xs us Q I r ⟨x, rfl, F, σ', ρ, a, rv, ok, wa, e, q⟩
  cases a with
  | int i =>
    cases e
    cases wa.int
    exact call_abs pins s σ H _ us Q I r ⟨i, rfl, q.val ok (.int _)⟩
  | _ => cases e
def unStr : UOp
  | .int i => if i.natAbs.log2 < 1920 then some (.v (.str (toString i))) else none
  | _ => none
theorem str1 (M : Mt X c) : CallR X (.type "str") (rC1 c unStr) := by
  rintro pins s σ H xs us Q I r ⟨x, rfl, F, σ', ρ, a, rv, ok, wa, e, q⟩
  cases a with
  | int i =>
    have e : (if i.natAbs.log2 < 1920 then some (RV.v (.str (toString i))) else none) = some rv := e
    split at e
    · rename_i hz
      cases e
      cases wa.int
      exact call_str_int pins s σ H _ us Q I r ⟨i, rfl, hz, q.val ok (.str _)⟩
    · cases e
  | _ => cases e
def unTuple : UOp
  | .list ds => some (.v (.tuple ds))
  | .tuple ds => some (.v (.tuple ds))
  | _ => none
theorem tuple1 (M : Mt X c) : CallR X (.type "tuple") (rC1 c unTuple) := by
  rintro pins s σ H xs us Q I r ⟨x, rfl, F, σ', ρ, a, rv, ok, wa, e, q⟩
  cases a with
  | list ds =>
    cases e
    obtain ⟨p, vs, rfl, h, rr⟩ := wa.list ok.sub
    exact call_tuple_of pins s σ H _ us Q I r ⟨p, vs, rfl, .inl ⟨.inl h, fun l n => q.newT ok rr n⟩⟩
  | tuple ds =>
    cases e
    obtain ⟨p, vs, rfl, h, rr⟩ := wa.tuple ok.sub
    refine call_tuple_of pins s σ H _ us Q I r ⟨p, vs, rfl, .inr ⟨by rw [M.K]; exact h, ?_⟩⟩
    rcases wa with w | ⟨p', e', w⟩
    · exact q.val ok w
    · exact False.elim w
  | _ => cases e
def unList : UOp
  | .list ds => some (.f (.list ds))
  | .tuple ds => some (.f (.list ds))
  | _ => none
theorem list1 (M : Mt X c) : CallR X (.type "list") (rC1 c unList) := by
  rintro pins s σ H xs us Q I r ⟨x, rfl, F, σ', ρ, a, rv, ok, wa, e, q⟩
  cases a with
  | list ds =>
    cases e
    obtain ⟨p, vs, rfl, h, rr⟩ := wa.list ok.sub
    exact call_list_of pins s σ H _ us Q I r ⟨p, vs, rfl, .inl (.inl h), fun l n => q.newL ok rr n⟩
  | tuple ds =>
    cases e
    obtain ⟨p, vs, rfl, h, rr⟩ := wa.tuple ok.sub
    exact call_list_of pins s σ H _ us Q I r ⟨p, vs, rfl, .inr (by rw [M.K]; exact h), fun l n => q.newL ok rr n⟩
  | _ => cases e
def opMax : BOp
  | .int i, .int j => some (.v (.int (if j > i then j else i)))
  | _, _ => none
def opMin : BOp
  | .int i, .int j => some (.v (.int (if j < i then j else i)))
  | _, _ => none
theorem max2 (M : Mt X c) : CallR X (.builtin "max") (rC2 c opMax) := by
  rintro pins s σ H xs us Q I r ⟨x, y, rfl, F, σ', ρ, a, b, rv, ok, wa, wb, e, q⟩
  cases a with
  | int i =>
    cases b with
    | int j =>
      cases e
      cases wa.int
      cases wb.int
      exact call_max2 M.calm pins s σ H _ us Q I r ⟨i, j, rfl, q.val ok (.int _)⟩
    | _ => cases e
  | _ => cases b <;> cases e
theorem min2 (M : Mt X c) : CallR X (.builtin "min") (rC2 c opMin) := by
  rintro pins s σ H xs us Q I r ⟨x, y, rfl, F, σ', ρ, a, b, rv, ok, wa, wb, e, q⟩
  cases a with
  | int i =>
    cases b with
    | int j =>
      cases e
      cases wa.int
      cases wb.int
      exact call_min2 M.calm pins s σ H _ us Q I r ⟨i, j, rfl, q.val ok (.int _)⟩
    | _ => cases e
  | _ => cases b <;> cases e
end
end Vm
end

section
set_option maxRecDepth 100000
set_option maxHeartbeats 4000000
/-! Vm6: statements: blocks, stores, if, return, loops. -/
namespace Vm
open PySem PySem.Spec PyProof.Rows L2

structure Ms (X : Cx) (c : Fc) : Prop extends Mt X c where
  po : PassesOwn (model X.prog X.w) X.A X.env X.xe

/-- the end of a statement's plain function -/
def EnS (c : Fc) (F : Hp) (x : Option (SOut × Ev)) (De : Ends) : Prop := ∃ r ρ', x = some (r, ρ') ∧ match r with
  | .nx => ∀ σ' H' F', Same F F' → Ok c F' σ' H' ρ' → De.nx σ' H'
  | .bk => ∀ σ' H' F', Same F F' → Ok c F' σ' H' ρ' → De.bk σ' H'
  | .ct => ∀ σ' H' F', Same F F' → Ok c F' σ' H' ρ' → De.ct σ' H'
  | .rt rv => ∀ v σ' H' F', Same F F' → Ok c F' σ' H' ρ' → RvOk c F' σ' H' ρ' v rv → De.rt v H'
  | .ex x => ∀ σ', ErrOk c F σ' ρ' x
def bS {α : Type} (x : Option (Except Xn α × Ev)) (k : α → Ev → Option (SOut × Ev)) : Option (SOut × Ev) :=
  match x with
  | some (.ok a, ρ) => k a ρ
  | some (.error e, ρ) => some (.ex e, ρ)
  | none => none

section
variable {c : Fc} {F F2 : Hp} {σ : Sg} {H : Hp} {ρ : Ev} {De De' : Ends} {x : Option (SOut × Ev)}
theorem EnS.mono (s : Same F F2) (h : EnS c F x De) : EnS c F2 x De := by
  obtain ⟨r, ρ', e, q⟩ := h
  refine ⟨r, ρ', e, ?_⟩
  cases r with
  | nx => exact fun σ' H' F' s' ok' => q σ' H' F' (s.trans s') ok'
  | bk => exact fun σ' H' F' s' ok' => q σ' H' F' (s.trans s') ok'
  | ct => exact fun σ' H' F' s' ok' => q σ' H' F' (s.trans s') ok'
  | rt rv => exact fun v σ' H' F' s' ok' => q v σ' H' F' (s.trans s') ok'
  | ex y => exact fun σ' H' F' u a s' ok' xo => q σ' H' F' u a (s.trans s') ok' xo
theorem EnS.no {P : Prop} (h : EnS c F (none : Option (SOut × Ev)) De) : P := by
  obtain ⟨r, ρ', e, q⟩ := h
  cases e
theorem EnS.next (h : EnS c F (some (.nx, ρ)) De) (ok : Ok c F σ H ρ) : De.nx σ H := by
  obtain ⟨r, ρ', e, q⟩ := h
  cases e
  exact q σ H F (Same.refl _) ok
theorem EnS.bind {α : Type} {y : Option (Except Xn α × Ev)} {k : α → Ev → Option (SOut × Ev)} (h : EnS c F (bS y k) De) : En c F σ y (fun a F1 _ ρ1 => EnS c F1 (k a ρ1) De) := by
  obtain ⟨r, ρ', e, q⟩ := h
  unfold bS at e
  split at e
  · exact ⟨_, _, rfl, fun H1 F1 s1 ok1 => EnS.mono s1 ⟨r, ρ', e, q⟩⟩
  · cases e
    exact ⟨_, _, rfl, q σ⟩
  · cases e
theorem liftS_of {f : SF} (ok : Ok c F σ H ρ) (h : EnS c F (f ρ) De) : liftS c f De σ H := ⟨F, ρ, ok, h⟩
theorem liftS_to {f : SF} (h : liftS c f De σ H) : ∃ F ρ, Ok c F σ H ρ ∧ EnS c F (f ρ) De := h
end

def sNx : SF := fun ρ => some (.nx, ρ)
def seqD (x : Option (SOut × Ev)) (g : SF) : Option (SOut × Ev) :=
  match x with
  | some (.nx, ρ) => g ρ
  | y => y
def sSeq (f g : SF) : SF := fun ρ => seqD (f ρ) g
theorem EnS.seq {c : Fc} {F : Hp} {x : Option (SOut × Ev)} {g : SF} {De : Ends} (h : EnS c F (seqD x g) De) : EnS c F x { De with nx := liftS c g De } := by
  obtain ⟨r, ρ', e, q⟩ := h
  unfold seqD at e
  split at e
  · exact ⟨_, _, rfl, fun σ' H' F' s' ok' => liftS_of ok' (EnS.mono s' ⟨r, ρ', e, q⟩)⟩
  · rename_i hx
    refine ⟨r, ρ', e, ?_⟩
    cases r with
    | nx => exact absurd e (hx _)
    | _ => exact q

/-! ### stores -/
section
variable {c : Fc} {F F2 : Hp} {σ : Sg} {H : Hp} {ρ : Ev}
theorem Ok.setV (ok : Ok c F σ H ρ) {i : Nat} {v : V} {d : D} (r : Rp c.K F v d) (hf : freeB ρ[i]? = true) : Ok c F (σ.set i (some v)) H (ρ.set i (.val d)) := by
  refine ⟨ok.sub, ok.keep, by rw [List.length_set, List.length_set]; exact ok.len, fun j s hj => ?_, fun j k b b' e e' q h1 h2 h3 h4 => ?_, ok.old, ok.new, ok.sub0, ok.ioF, ok.io0, ok.there, lnt_set ok.lnt hf fun j hj => List.getElem?_set_ne (Ne.symm hj)⟩
  · by_cases e : j = i
    · subst e
      have hl : j < ρ.length := by
        have := (List.getElem?_eq_some_iff.mp hj).1
        rw [List.length_set] at this; exact this
      rw [List.getElem?_set_self hl] at hj
      cases hj
      exact ⟨v, List.getElem?_set_self (by rw [ok.len]; exact hl), r⟩
    · rw [List.getElem?_set_ne (Ne.symm e)] at hj
      have := ok.slot j s hj
      rw [List.getElem?_set_ne (Ne.symm e)]
      exact this
  · have ne : ∀ {m : Nat} {b : Md} {z : D}, (ρ.set i (.val d))[m]? = some (.own b z) → m ≠ i := fun {m b z} h e => by
      subst e
      have hl : m < ρ.length := by
        have := (List.getElem?_eq_some_iff.mp h).1
        rw [List.length_set] at this; exact this
      rw [List.getElem?_set_self hl] at h
      cases h
    have n1 := ne h1
    have n2 := ne h2
    rw [List.getElem?_set_ne (Ne.symm n1)] at h1 h3
    rw [List.getElem?_set_ne (Ne.symm n2)] at h2 h4
    exact ok.inj j k b b' e e' q h1 h2 h3 h4
theorem Ok.setF (ok : Ok c F σ H ρ) {i : Nat} {v : V} {d : D} (r : RvOk c F σ H ρ v (.f d)) (hf : freeB ρ[i]? = true) : Ok c F (σ.set i (some v)) H (ρ.set i (.own .mine d)) := by
  obtain ⟨p, rfl, n, n0, nio, w, no⟩ := r
  refine ⟨ok.sub, ok.keep, by rw [List.length_set, List.length_set]; exact ok.len, fun j s hj => ?_, fun j k b b' e e' q h1 h2 h3 h4 => ?_, ok.old, ok.new, ok.sub0, ok.ioF, ok.io0, ok.there, lnt_set ok.lnt hf fun j hj => List.getElem?_set_ne (Ne.symm hj)⟩
  · by_cases e : j = i
    · subst e
      have hl : j < ρ.length := by
        have := (List.getElem?_eq_some_iff.mp hj).1
        rw [List.length_set] at this; exact this
      rw [List.getElem?_set_self hl] at hj
      cases hj
      exact ⟨p, List.getElem?_set_self (by rw [ok.len]; exact hl), n, w, by rw [if_neg (by decide)]; exact n0⟩
    · rw [List.getElem?_set_ne (Ne.symm e)] at hj
      have := ok.slot j s hj
      rw [List.getElem?_set_ne (Ne.symm e)]
      exact this
  · by_cases n1 : j = i
    · by_cases n2 : k = i
      · exact n1.trans n2.symm
      · subst n1
        have hl : j < σ.length := by
          have := (List.getElem?_eq_some_iff.mp h3).1
          rw [List.length_set] at this; exact this
        rw [List.getElem?_set_self hl] at h3
        cases h3
        rw [List.getElem?_set_ne (Ne.symm n2)] at h2 h4
        exact absurd h4 (no k _ _ h2)
    · by_cases n2 : k = i
      · subst n2
        have hl : k < σ.length := by
          have := (List.getElem?_eq_some_iff.mp h4).1
          rw [List.length_set] at this; exact this
        rw [List.getElem?_set_self hl] at h4
        cases h4
        rw [List.getElem?_set_ne (Ne.symm n1)] at h1 h3
        exact absurd h3 (no j _ _ h1)
      · rw [List.getElem?_set_ne (Ne.symm n1)] at h1 h3
        rw [List.getElem?_set_ne (Ne.symm n2)] at h2 h4
        exact ok.inj j k b b' e e' q h1 h2 h3 h4
end
def ifS (p : Bool) (x : Option (SOut × Ev)) : Option (SOut × Ev) :=
  match p with
  | true => x
  | false => none
theorem ifS_of {c : Fc} {F : Hp} {p : Bool} {x : Option (SOut × Ev)} {De : Ends} (h : EnS c F (ifS p x) De) : p = true ∧ EnS c F x De := by
  cases p with
  | true => exact ⟨rfl, h⟩
  | false => exact h.no
def putD (i : Nat) : Option (D × Ev) → Option (SOut × Ev)
  | some (d, ρ) => ifS (freeB ρ[i]?) (some (.nx, ρ.set i (.val d)))
  | none => none
/-- slot i takes a result -/
def put (i : Nat) (r : RV) (ρ : Ev) : Option (SOut × Ev) :=
  match r with
  | .f d => ifS (freeB ρ[i]?) (some (.nx, ρ.set i (.own .mine d)))
  | r => putD i (stand r ρ)
theorem put_of {c : Fc} {F : Hp} {σ : Sg} {H : Hp} {ρ : Ev} {De : Ends} {i : Nat} {r : RV} {v : V} (h : EnS c F (put i r ρ) De) (ok : Ok c F σ H ρ) (rr : RvOk c F σ H ρ v r) : De.nx (σ.set i (some v)) H := by
  have go : EnS c F (putD i (stand r ρ)) De → De.nx (σ.set i (some v)) H := fun h => by
    cases e : stand r ρ with
    | none => rw [e] at h; exact h.no
    | some x =>
      obtain ⟨d, ρ'⟩ := x
      rw [e] at h
      obtain ⟨F', s', ok', rp⟩ := rr.stand ok e
      obtain ⟨hf, h⟩ := ifS_of (show EnS c F (ifS (freeB ρ'[i]?) (some (.nx, ρ'.set i (.val d)))) De from h)
      exact (EnS.mono s' h).next (ok'.setV rp hf)
  cases r with
  | f d =>
    obtain ⟨hf, h⟩ := ifS_of (show EnS c F (ifS (freeB ρ[i]?) (some (.nx, ρ.set i (.own .mine d)))) De from h)
    exact h.next (ok.setF rr hf)
  | v d => exact go h
  | s j => exact go h

section
variable {X : Cx} {c : Fc} {pos : Pos} {a b e : Expr} {fa fb fe : EF} {ta : TF} {st : Stmt} {sts rest : List Stmt} {f g : SF}

theorem lss_nil : PSs X [] (liftS c sNx) := PSsi pss_nil fun De σ H ⟨F, ρ, ok, h⟩ => EnS.next h ok
theorem lss_cons (h1 : PS X st (liftS c f)) (h2 : PSs X rest (liftS c g)) : PSs X (st :: rest) (liftS c (sSeq f g)) :=
  PSsi (pss_cons h1 h2) fun De σ H ⟨F, ρ, ok, h⟩ => liftS_of ok (EnS.seq h)
theorem lss_one (h1 : PS X st (liftS c f)) : PSs X [st] (liftS c f) := pss_one h1
theorem ls_pass : PS X (.Pass pos) (liftS c sNx) := PSi ps_pass fun De σ H ⟨F, ρ, ok, h⟩ => EnS.next h ok
def sBk : SF := fun ρ => some (.bk, ρ)
def sCt : SF := fun ρ => some (.ct, ρ)
theorem ls_break : PS X (.Break pos) (liftS c sBk) := PSi ps_break fun De σ H ⟨F, ρ, ok, h⟩ => by
  obtain ⟨r, ρ', e, q⟩ := h
  cases e
  exact q σ H F (Same.refl _) ok
theorem ls_continue : PS X (.Continue pos) (liftS c sCt) := PSi ps_continue fun De σ H ⟨F, ρ, ok, h⟩ => by
  obtain ⟨r, ρ', e, q⟩ := h
  cases e
  exact q σ H F (Same.refl _) ok
/-- an expression in a statement -/
theorem ls_then {De : Ends} {σ : Sg} {H : Hp} {F : Hp} {ρ : Ev} {k : RV → Ev → Option (SOut × Ev)} {Q' : VK} (ok : Ok c F σ H ρ) (h : EnS c F (bS (fe ρ) k) De)
    (i : ∀ F1 H1 ρ1 v rv, Ok c F1 σ H1 ρ1 → RvOk c F1 σ H1 ρ1 v rv → EnS c F1 (k rv ρ1) De → Q' v H1) : liftE c fe σ H Q' :=
  ⟨F, ρ, ok, h.bind.imp fun rv F1 H1 ρ1 s1 ok1 h1 v r => i F1 H1 ρ1 v rv ok1 r h1⟩
def sEx (fe : EF) : SF := fun ρ => bS (fe ρ) fun _ ρ1 => some (.nx, ρ1)
theorem ls_expr (he : PE X e (liftE c fe)) (hs : swapsWith e none pos.line X.env = pure false := by rfl) : PS X (.Expr e pos) (liftS c (sEx fe)) :=
  PSi (ps_expr he hs) fun De σ H ⟨F, ρ, ok, h⟩ => ls_then ok h fun F1 H1 ρ1 v rv ok1 r h1 => EnS.next h1 ok1
def sRt (fe : EF) : SF := fun ρ => bS (fe ρ) fun r ρ1 => some (.rt r, ρ1)
theorem ls_ret (he : PE X e (liftE c fe)) : PS X (.Return (some e) pos) (liftS c (sRt fe)) :=
  PSi (ps_ret he) fun De σ H ⟨F, ρ, ok, h⟩ => ls_then ok h fun F1 H1 ρ1 v rv ok1 r h1 => by
    obtain ⟨r', ρ', e, q⟩ := h1
    cases e
    exact q v σ H1 F1 (Same.refl _) ok1 r
def sRtN : SF := fun ρ => some (.rt (.v .none), ρ)
theorem ls_retN : PS X (.Return none pos) (liftS c sRtN) := PSi ps_retN fun De σ H ⟨F, ρ, ok, h⟩ => by
  obtain ⟨r', ρ', e, q⟩ := h
  cases e
  exact q .non σ H F (Same.refl _) ok .non
def sIf (t : TF) (f g : SF) : SF := fun ρ => bS (t ρ) fun b ρ1 => if b = true then f ρ1 else g ρ1
theorem ls_if (ht : PT X e (liftT c ta)) (ha : PSs X sts (liftS c f)) (hb : PSs X rest (liftS c g)) : PS X (.If e sts rest pos) (liftS c (sIf ta f g)) :=
  PSi (ps_if ht ha hb) fun De σ H ⟨F, ρ, ok, h⟩ => by
    refine ⟨F, ρ, ok, (EnS.bind h).imp fun b F1 H1 ρ1 s1 ok1 h1 => ?_⟩
    cases b with
    | true => exact liftS_of ok1 h1
    | false => exact liftS_of ok1 h1

/-! ### x = e -/
def sSet (i : Nat) (fe : EF) : SF := fun ρ => bS (fe ρ) fun r ρ1 => put i r ρ1
theorem ls_set {i : Nat} {x : Str} {pos' : Pos} (M : Mt X c) (he : PE X e (liftE c fe)) (hi : X.N[i]? = some x := by rfl) (hx : Loc X.env.scope x := by first | exact .inl rfl | exact .inr rfl) (hs : swapsWith e (some (.Name x pos')) pos.line X.env = pure false := by rfl)
    (hf : X.fn x = true ∨ X.env.scope.names.lookup x = some .local := by first | exact .inl rfl | exact .inr rfl | assumption) : PS X (.Assign [.Name x pos'] e pos) (liftS c (sSet i fe)) :=
  PSi (ps_set M.nd hi hx he hs hf) fun De σ H ⟨F, ρ, ok, h⟩ => ls_then ok h fun F1 H1 ρ1 v rv ok1 r h1 => put_of h1 ok1 r

/-! ### targets, by data -/
def ifG (p : Bool) (x : Option Ev) : Option Ev :=
  match p with
  | true => x
  | false => none
def gN (i : Nat) : GF := fun d ρ => ifG (freeB ρ[i]?) (some (ρ.set i (.val d)))
theorem ifG_of {p : Bool} {x : Option Ev} {y : Ev} (h : ifG p x = some y) : p = true ∧ x = some y := by
  cases p with
  | true => exact ⟨rfl, h⟩
  | false => cases h
theorem lg_name {i : Nat} {x : Str} (M : Mt X c) (hi : X.N[i]? = some x := by rfl) (hx : Loc X.env.scope x := by first | exact .inl rfl | exact .inr rfl) (hf : X.fn x = true ∨ X.env.scope.names.lookup x = some .local := by first | exact .inl rfl | exact .inr rfl | assumption) :
    PG X (.Name x pos) (liftG c (gN i)) :=
  PGi (pg_name M.nd hi hx hf) fun v σ H Q ⟨F, ρ, d, ok, r, ρ', e, q⟩ => by
    obtain ⟨e1, e2⟩ := ifG_of e
    cases e2
    exact q _ _ F (Same.refl _) (ok.setV r e1)
abbrev GFs := List D → Ev → Option Ev
def liftGs (c : Fc) (g : GFs) : TGs := fun vs σ H Q => ∃ F ρ ds, Ok c F σ H ρ ∧ RpA c.K F vs ds ∧ ∃ ρ', g ds ρ = some ρ' ∧ ∀ σ' H' F', Same F F' → Ok c F' σ' H' ρ' → Q σ' H'
theorem PGsi {X : Cx} {e : List Expr} {t t' : TGs} (h : PGs X e t) (i : ∀ v σ H Q, t' v σ H Q → t v σ H Q) : PGs X e t' := ⟨fun pins s σ H v u Q I r q => h.run pins s σ H v u Q I r (i v σ H Q q)⟩
def gNil : GFs := fun ds ρ => match ds with
  | [] => some ρ
  | _ => none
def gCons (i : Nat) (g : GFs) : GFs := fun ds ρ => match ds with
  | d :: r => ifG (freeB ρ[i]?) (g r (ρ.set i (.val d)))
  | _ => none
theorem lgs_nil : PGs X [] (liftGs c gNil) := PGsi pgs_nil fun vs σ H Q ⟨F, ρ, ds, ok, r, ρ', e, q⟩ => by
  cases r with
  | nil =>
    cases e
    exact ⟨rfl, q _ _ F (Same.refl _) ok⟩
  | cons _ _ => cases e
theorem lgs_cons {i : Nat} {x : Str} {p : Pos} {es : List Expr} {g : GFs} (M : Mt X c) (h2 : PGs X es (liftGs c g)) (hi : X.N[i]? = some x := by rfl) (hx : Loc X.env.scope x := by first | exact .inl rfl | exact .inr rfl) (hf : X.fn x = true ∨ X.env.scope.names.lookup x = some .local := by first | exact .inl rfl | exact .inr rfl | assumption)
    (hs : (assignEach (.Name x p :: es) X.env).map (·.2) = assign (.Name x p) X.env :: (assignEach es X.env).map (·.2) := by rfl) : PGs X (.Name x p :: es) (liftGs c (gCons i g)) :=
  PGsi (pgs_cons (pg_name M.nd hi hx hf) h2 hs) fun vs σ H Q ⟨F, ρ, ds, ok, r, ρ', e, q⟩ => by
    cases r with
    | nil => cases e
    | cons a t =>
      obtain ⟨e1, e2⟩ := ifG_of e
      exact ⟨_, _, rfl, F, _, _, ok.setV a e1, t, ρ', e2, q⟩
def gTupD (n : Nat) (g : GFs) : GF := fun d ρ => match d with
  | .tuple ds => if ds.length = n then g ds ρ else none
  | _ => none
theorem lg_tup {es : List Expr} {k : Nat} {g : GFs} {n : Nat} (M : Mt X c) (h : PGs X es (liftGs c g)) (hn : (assignEach es X.env).length = n := by rfl) (hst : (assignEach es X.env).findIdx? (·.1) = none := by rfl) : PG X (.Tuple es k pos) (liftG c (gTupD n g)) :=
  PGi (pg_tup M.calm h hn hst) fun v σ H Q ⟨F, ρ, d, ok, r, ρ', e, q⟩ => by
    cases r with
    | @tup a vs ds hq rr =>
      have e : (if ds.length = n then g ds ρ else none) = some ρ' := e
      split at e
      · rename_i hl
        exact ⟨a, vs, rfl, by rw [M.K]; exact ok.sub.sqt hq, by rw [rr.length]; exact hl, F, ρ, ds, ok, rr, ρ', e, q⟩
      · cases e
    | _ => cases e
def nxD : Option Ev → Option (SOut × Ev)
  | some ρ => some (.nx, ρ)
  | none => none
def standS (x : Option (D × Ev)) (k : D → Ev → Option (SOut × Ev)) : Option (SOut × Ev) :=
  match x with
  | some (d, ρ) => k d ρ
  | none => none
def sAsg (g : GF) (fe : EF) : SF := fun ρ => bS (fe ρ) fun r ρ1 => standS (stand r ρ1) fun d ρ2 => nxD (g d ρ2)
theorem ls_asg {tg : Expr} {g : GF} (he : PE X e (liftE c fe)) (hg : PG X tg (liftG c g)) (hs : swapsWithSole [tg] e pos.line X.env = pure false := by rfl) (hw : swappedStores [tg] e X.env = pure none := by rfl)
    (h1 : (assignEach [tg] X.env).map (·.2) = [assign tg X.env] := by rfl) : PS X (.Assign [tg] e pos) (liftS c (sAsg g fe)) :=
  PSi (ps_asg he hg hs hw h1) fun De σ H ⟨F, ρ, ok, h⟩ => ls_then ok h fun F1 H1 ρ1 v rv ok1 r h1 => by
    cases e1 : stand rv ρ1 with
    | none => rw [e1] at h1; exact h1.no
    | some x =>
      obtain ⟨d, ρ2⟩ := x
      rw [e1] at h1
      obtain ⟨F2, s2, ok2, rp⟩ := r.stand ok1 e1
      have h1 : EnS c F1 (nxD (g d ρ2)) De := h1
      cases e2 : g d ρ2 with
      | none => rw [e2] at h1; exact h1.no
      | some ρ3 =>
        rw [e2] at h1
        exact ⟨F2, ρ2, d, ok2, rp, ρ3, e2, fun σ' H' F' s' ok' => (EnS.mono (s2.trans s') h1).next ok'⟩
end
end Vm
end

section
set_option maxRecDepth 100000
set_option maxHeartbeats 4000000
/-! Vm7: objects changed in place; loops. -/
namespace Vm
open PySem PySem.Spec PyProof.Rows L2

section
variable {c : Fc} {F F2 : Hp} {σ : Sg} {H : Hp} {ρ : Ev}
/-- a slot's own object is written -/
theorem Ok.write (ok : Ok c F σ H ρ) {i : Nat} {b : Md} {d d' : D} {p : Addr} {o : HO} (hb : b.lent = false) (hs : ρ[i]? = some (.own b d)) (hp : σ[i]? = some (some (V.ref p))) (w' : Own c.K F (upd H p o) p d') : Ok c F σ (upd H p o) (ρ.set i (.own b d')) := by
  obtain ⟨p', a, n, w, r⟩ := ok.slot i _ hs
  rw [hp] at a
  cases a
  have hl : i < ρ.length := (List.getElem?_eq_some_iff.mp hs).1
  refine ⟨fun q x e => ?_, fun q x e nio => ?_, by rw [List.length_set]; exact ok.len, fun j s hj => ?_, fun j k b1 b2 e1 e2 q h1 h2 h3 h4 => ?_, ok.old, ok.new, ok.sub0, ok.ioF, ok.io0, fun q x e => ?_, lnt_set ok.lnt (by rw [hs]; show (!b.lent) = true; rw [hb]; rfl) fun _ _ => rfl⟩
  · have : q ≠ p := fun z => by subst z; rw [n] at e; cases e
    rw [upd_ne this]; exact ok.sub q x e
  · have : q ≠ p := fun z => by
      subst z
      cases hh : b.his with
      | true => rw [hh, if_pos rfl] at r; exact nio r
      | false => rw [hh, if_neg Bool.false_ne_true] at r; rw [r] at e; cases e
    rw [upd_ne this]; exact ok.keep q x e nio
  · by_cases e : j = i
    · subst e
      rw [List.getElem?_set_self hl] at hj
      cases hj
      exact ⟨p, hp, n, w', r⟩
    · rw [List.getElem?_set_ne (Ne.symm e)] at hj
      have := ok.slot j s hj
      cases s with
      | emp => trivial
      | val d => exact this
      | own b1 d1 =>
        obtain ⟨q, a1, n1, w1, r1⟩ := this
        have hq : q ≠ p := fun z => e (ok.inj j i b1 b d1 d p hj hs (z ▸ a1) hp)
        exact ⟨q, a1, n1, w1.mono (Same.refl _) (upd_ne hq), r1⟩
  · have ne : ∀ {m : Nat} {b1 : Md} {z : D}, (ρ.set i (.own b d'))[m]? = some (.own b1 z) → ∃ b2 z2, ρ[m]? = some (.own b2 z2) := fun {m b1 z} h => by
      by_cases e : m = i
      · subst e; exact ⟨b, d, hs⟩
      · rw [List.getElem?_set_ne (Ne.symm e)] at h; exact ⟨_, _, h⟩
    obtain ⟨_, _, g1⟩ := ne h1
    obtain ⟨_, _, g2⟩ := ne h2
    exact ok.inj j k _ _ _ _ q g1 g2 h3 h4
  · by_cases z : q = p
    · subst z; exact ⟨o, upd_same⟩
    · obtain ⟨o', e'⟩ := ok.there q x e
      exact ⟨o', by rw [upd_ne z]; exact e'⟩
end

def ownL : Option Sl → Option (Md × List D)
  | some (.own .mine (.list ds)) => some (.mine, ds)
  | some (.own .io (.list ds)) => some (.io, ds)
  | _ => none
def ifE {α : Type} (p : Bool) (x : Option (Except Xn α × Ev)) : Option (Except Xn α × Ev) := if p = true then x else none
def withL {α : Type} (i : Nat) (ρ : Ev) (k : Md → List D → Option (Except Xn α × Ev)) : Option (Except Xn α × Ev) :=
  match ownL ρ[i]? with
  | some (b, ds) => k b ds
  | none => none
theorem withL_of {α : Type} {c : Fc} {F : Hp} {σ : Sg} {H : Hp} {ρ : Ev} {i : Nat} {k : Md → List D → Option (Except Xn α × Ev)} {R : α → Hp → Hp → Ev → Prop} (h : En c F σ (withL i ρ k) R) (ok : Ok c F σ H ρ) :
    ∃ b ds p vs, b.lent = false ∧ ρ[i]? = some (.own b (.list ds)) ∧ σ[i]? = some (some (V.ref p)) ∧ H p = some (.lst vs) ∧ RpA c.K F vs ds ∧ En c F σ (k b ds) R := by
  unfold withL at h
  cases e : ρ[i]? with
  | none => rw [e] at h; exact h.no
  | some s =>
    rw [e] at h
    cases s with
    | own b d =>
      cases d with
      | list ds =>
        obtain ⟨p, a, n, w, r⟩ := ok.slot i _ e
        obtain ⟨vs, e1, e2⟩ := w
        cases b with
        | mine => exact ⟨.mine, ds, p, vs, rfl, rfl, a, e1, e2, h⟩
        | io => exact ⟨.io, ds, p, vs, rfl, rfl, a, e1, e2, h⟩
        | _ => exact h.no
      | _ => cases b <;> exact h.no
    | _ => exact h.no

section
variable {X : Cx} {c : Fc} {pos apos : Pos} {e : Expr} {fe : EF}
/-- x.append(e) -/
def eApp (i : Nat) (fe : EF) : EF := fun ρ => withL i ρ fun _ _ => bE (fe ρ) fun r ρ1 => standE (stand r ρ1) fun d ρ2 => withL i ρ2 fun b ds =>
  if ds.length < sizeLine then some (.ok (.v .none), ρ2.set i (.own b (.list (ds ++ [d])))) else none
theorem obj_then {Q : VK} {σ : Sg} {H : Hp} {F : Hp} {ρ : Ev} {i : Nat} {k : Md → List D → Option (Except Xn RV × Ev)} (ok : Ok c F σ H ρ) (h : En c F σ (withL i ρ k) (RE c σ Q)) (t : V → Hp → Prop)
    (g : ∀ b ds p vs, b.lent = false → ρ[i]? = some (.own b (.list ds)) → σ[i]? = some (some (V.ref p)) → H p = some (.lst vs) → RpA c.K F vs ds → En c F σ (k b ds) (RE c σ Q) → t (V.ref p) H) : tVar i σ H t := by
  obtain ⟨b, ds, p, vs, h0, h1, h2, h3, h4, h5⟩ := withL_of h ok
  exact ⟨_, h2, g b ds p vs h0 h1 h2 h3 h4 h5⟩
theorem le_app {i : Nat} {E : Expr} (he : PE X E (tBM X.K "list" rAppend (tVar i) (tCons (liftE c fe) tNil))) : PE X E (liftE c (eApp i fe)) := by
  refine PEi he fun σ H Q ⟨F, ρ, ok, h⟩ => ?_
  refine obj_then ok h _ fun b ds p vs h0 h1 h2 h3 h4 h5 => ⟨.inl ⟨rfl, vs, .inl (.inl h3)⟩, ?_⟩
  refine ⟨F, ρ, ok, (En.bind h5).imp fun rv F1 H1 ρ1 s1 ok1 h6 v r => ?_⟩
  obtain ⟨F2, d, ρ2, s2, ok2, rp, h7⟩ := standE_of h6 ok1 r
  obtain ⟨b', ds', p', vs', g0, g1, g2, g3, g4, g5⟩ := withL_of h7 ok2
  rw [h2] at g2
  cases g2
  split at g5
  · rename_i hz
    refine ⟨p, vs', v, rfl, rfl, g3, by rw [g4.length]; exact hz, ?_⟩
    exact g5.ret (ok2.write g0 g1 h2 ⟨_, upd_same, g4.append (.cons rp .nil)⟩) _ .non
  · exact g5.no
/-- x.pop() -/
def ePop (i : Nat) : EF := fun ρ => withL i ρ fun b ds => match ds.getLast? with
  | some d => some (.ok (.v d), ρ.set i (.own b (.list ds.dropLast)))
  | none => none
theorem le_pop {i : Nat} {E : Expr} (he : PE X E (tBM0 X.K "list" rPop (tVar i))) : PE X E (liftE c (ePop i)) := by
  refine PEi he fun σ H Q ⟨F, ρ, ok, h⟩ => ?_
  refine obj_then ok h _ fun b ds p vs h0 h1 h2 h3 h4 h5 => ⟨.inl ⟨rfl, vs, .inl (.inl h3)⟩, ?_⟩
  cases e : ds.getLast? with
  | none => simp only [e] at h5; exact h5.no
  | some d =>
    simp only [e] at h5
    have e' : ds[ds.length - 1]? = some d := by rw [← List.getLast?_eq_getElem?]; exact e
    obtain ⟨v, hv', rp⟩ := h4.get e'
    refine ⟨p, vs, v, rfl, rfl, h3, by rw [h4.length]; exact hv', ?_⟩
    have dl : RpA c.K F vs.dropLast ds.dropLast := by
      rw [List.dropLast_eq_take, List.dropLast_eq_take, h4.length]
      exact h4.take _
    exact h5.ret (ok.write h0 h1 h2 ⟨_, upd_same, dl⟩) _ rp
end
end Vm
end

section
set_option maxRecDepth 100000
set_option maxHeartbeats 4000000
/-! Vm8: loops. -/
namespace Vm
open PySem PySem.Spec PyProof.Rows L2

/-! ### while -/
def turnS (x : Option (SOut × Ev)) (again : SF) : Option (SOut × Ev) :=
  match x with
  | some (.nx, ρ) => again ρ
  | some (.ct, ρ) => again ρ
  | some (.bk, ρ) => some (.nx, ρ)
  | y => y
def whileL (t : TF) (body : SF) : Nat → SF
  | 0 => fun _ => none
  | n + 1 => fun ρ => bS (t ρ) fun b ρ1 => if b = true then turnS (body ρ1) (whileL t body n) else some (.nx, ρ1)
/-- more turns than any run takes -/
@[irreducible] def bigN : Nat := 2 ^ 60
def sWhile (t : TF) (body : SF) : SF := whileL t body bigN

theorem EnS.turn {c : Fc} {F : Hp} {x : Option (SOut × Ev)} {again : SF} {De : Ends} (h : EnS c F (turnS x again) De) :
    EnS c F x { De with nx := fun σ' H' => ∃ F' ρ', Same F F' ∧ Ok c F' σ' H' ρ' ∧ EnS c F' (again ρ') De, ct := fun σ' H' => ∃ F' ρ', Same F F' ∧ Ok c F' σ' H' ρ' ∧ EnS c F' (again ρ') De, bk := De.nx } := by
  obtain ⟨r, ρ', e, q⟩ := h
  unfold turnS at e
  split at e
  · exact ⟨_, _, rfl, fun σ' H' F' s' ok' => ⟨F', _, s', ok', EnS.mono s' ⟨r, ρ', e, q⟩⟩⟩
  · exact ⟨_, _, rfl, fun σ' H' F' s' ok' => ⟨F', _, s', ok', EnS.mono s' ⟨r, ρ', e, q⟩⟩⟩
  · cases e
    exact ⟨_, _, rfl, q⟩
  · rename_i h1 h2 h3
    refine ⟨r, ρ', e, ?_⟩
    cases r with
    | nx => exact absurd e (h1 _)
    | ct => exact absurd e (h2 _)
    | bk => exact absurd e (h3 _)
    | _ => exact q

section
variable {X : Cx} {c : Fc} {pos : Pos} {e : Expr} {tf : TF} {fb : SF} {body : List Stmt}
theorem ls_while (M : Ms X c) (ht : PT X e (liftT c tf)) (hb : PSs X body (liftS c fb)) : PS X (.While e body [] pos) (liftS c (sWhile tf fb)) := by
  refine PSi (ps_while M.po ht hb) fun De σ H ⟨F, ρ, ok, h⟩ => ?_
  refine ⟨fun m σ H => ∃ F' ρ', Ok c F' σ H ρ' ∧ EnS c F' (whileL tf fb m ρ') De, ⟨bigN, F, ρ, ok, h⟩, ?_⟩
  rintro m σ H ⟨F, ρ, ok, h⟩
  cases m with
  | zero => exact EnS.no h
  | succ n =>
    have h : EnS c F (bS (tf ρ) fun b ρ1 => if b = true then turnS (fb ρ1) (whileL tf fb n) else some (.nx, ρ1)) De := h
    refine ⟨F, ρ, ok, h.bind.imp fun b F1 H1 ρ1 s1 ok1 h1 => ?_⟩
    show if b = true then _ else _
    cases b with
    | true =>
      rw [if_pos rfl] at h1 ⊢
      refine ⟨_, ?_, liftS_of ok1 (EnS.turn h1)⟩
      rintro σ' H' ⟨F', ρ', s', ok', h'⟩
      exact ⟨n, Nat.lt_succ_self n, F', ρ', ok', h'⟩
    | false =>
      rw [if_neg Bool.false_ne_true] at h1 ⊢
      exact EnS.next h1 ok1
end

/-! ### what is walked -/
def gD (x : Option Ev) (k : SF) : Option (SOut × Ev) :=
  match x with
  | some ρ => k ρ
  | none => none
/-- over data -/
def forL (g : GF) (body : SF) : List D → SF
  | [] => fun ρ => some (.nx, ρ)
  | x :: r => fun ρ => gD (g x ρ) fun ρ1 => turnS (body ρ1) (forL g body r)
def itemsD : D → Option (List D)
  | .list ds => some ds
  | .tuple ds => some ds
  | _ => none
def forD (g : GF) (body : SF) (x : Option (List D)) (ρ : Ev) : Option (SOut × Ev) :=
  match x with
  | some ds => forL g body ds ρ
  | none => none
/-- a slot's list is lent while it is walked -/
def lendL : Option Sl → Option (Md × List D)
  | some (.own .mine (.list ds)) => some (.mine, ds)
  | some (.own .io (.list ds)) => some (.io, ds)
  | some (.own .lentMine (.list ds)) => some (.lentMine, ds)
  | some (.own .lentIo (.list ds)) => some (.lentIo, ds)
  | _ => none
def backS (i : Nat) (b : Md) (ds : List D) (x : Option (SOut × Ev)) : Option (SOut × Ev) :=
  match x with
  | some (o, ρ) => some (o, ρ.set i (.own b (.list ds)))
  | none => none
def forR (g : GF) (body : SF) (r : RV) (ρ : Ev) : Option (SOut × Ev) :=
  match r with
  | .s i => match lendL ρ[i]? with
    | some (b, ds) => backS i b ds (forL g body ds (ρ.set i (.own b.lend (.list ds))))
    | none => none
  | .v d => forD g body (itemsD d) ρ
  | .f d => forD g body (itemsD d) ρ
def sFor (g : GF) (body : SF) (fe : EF) : SF := fun ρ => bS (fe ρ) fun r ρ1 => forR g body (hold r) ρ1
def rangeD (lo hi : Int) : List D := (List.range (hi - lo).toNat).map fun k => .int (lo + (k : Nat))
def okR (i : Int) : Bool := decide (-(2 ^ 62) ≤ i) && decide (i < 2 ^ 62)
def rngOf : Option D → Option D → Option (Int × Int)
  | some (.int i), some (.int j) => if okR i && okR j then some (i, j) else none
  | _, _ => none
def forI (g : GF) (body : SF) (x : Option (Int × Int)) (ρ : Ev) : Option (SOut × Ev) :=
  match x with
  | some (i, j) => forL g body (rangeD i j) ρ
  | none => none
def sForR1 (g : GF) (body : SF) (fe : EF) : SF := fun ρ => bS (fe ρ) fun r ρ1 => forI g body (rngOf (some (.int 0)) (rd ρ1 r)) ρ1
def sForR2 (g : GF) (body : SF) (fa fb : EF) : SF := fun ρ => bS (fa ρ) fun ra ρ1 => bS (fb ρ1) fun rb ρ2 => forI g body (rngOf (rd ρ2 (hold ra)) (rd ρ2 rb)) ρ2

theorem gD_of {c : Fc} {F : Hp} {De : Ends} {x : Option Ev} {k : SF} (h : EnS c F (gD x k) De) : ∃ ρ1, x = some ρ1 ∧ EnS c F (k ρ1) De := by
  cases x with
  | none => exact h.no
  | some ρ1 => exact ⟨ρ1, rfl, h⟩

/-- a list or a tuple, walked -/
def iSeq (K : PySem.W.Frag) (tl : TE) : TI := fun σ H R => tl σ H fun x H1 => (∃ a xs, x = .ref a ∧ SqL K H1 a xs ∧ R (Itl K a) H1) ∨ (∃ a xs, x = .ref a ∧ SqT K H1 a xs ∧ R (Itt K a) H1)
theorem pi_seq {X : Cx} {tg l : Expr} {tl : TE} (hl : PE X l tl) : PI X tg l (iSeq X.K tl) := by
  refine ⟨fun pins s σ H R I h => ?_⟩
  refine thn (hl.run pins s σ H _ I h) fun v s1 ⟨x, H1, I1, r1, q1⟩ => ?_
  rcases q1 with ⟨a, xs, e, hq, q⟩ | ⟨a, xs, e, hq, q⟩
  · subst e
    cases r1
    obtain ⟨its, rv, p, hz⟩ := I1.list hq
    refine wpAny_pyIter_list p.isList ?_
    refine ⟨s1.heap.objs.size, [s1.heap.objs.size], _, _, H1, rfl, I1.kept (t' := s1.toks) fun b o e => Heap.get?_push_of_some _ e, turn_list a _, ⟨_, Heap.get?_push_size _ rfl, rfl, rfl⟩, fun b hb => ?_, q⟩
    have e : b = s1.heap.objs.size := by simpa using hb
    subst e
    exact I1.fpOk (Nat.le_refl _) (I1.hok.fresh (Nat.le_refl _))
  · subst e
    cases r1
    obtain ⟨its, rv, p, hz⟩ := I1.tuple hq
    refine wpAny_pyIter_tuple (show s1.heap.IsTuple a its.toArray from p) ?_
    refine ⟨s1.heap.objs.size, [s1.heap.objs.size], _, _, H1, rfl, I1.kept (t' := s1.toks) fun b o e => Heap.get?_push_of_some _ e, turn_tuple a _, ⟨_, Heap.get?_push_size _ rfl, rfl, rfl⟩, fun b hb => ?_, q⟩
    have e : b = s1.heap.objs.size := by simpa using hb
    subst e
    exact I1.fpOk (Nat.le_refl _) (I1.hok.fresh (Nat.le_refl _))

section
variable {X : Cx} {c : Fc} {pos : Pos} {tg iter : Expr} {fe fa fb : EF} {g : GF} {f : SF} {body : List Stmt}
/-- what a loop asks of what it walks -/
def ForW (J : It) (tg : TG) (tb : TS) (De : Ends) (σ : Sg) (H : Hp) : Prop := ∃ W : Nat → Nat → Sg → Hp → Prop, (∃ m, W 0 m σ H) ∧ ∀ i m σ H, W i m σ H →
      (J.stop i H ∧ De.nx σ H) ∨ (J.go i H ∧ ∃ N : Sg → Hp → Prop, (∀ σ' H', N σ' H' → ∃ m', m' < m ∧ W (i + 1) m' σ' H') ∧ ∀ x H', J.yld i H x H' → tg x σ H' fun σ2 H2 => tb { De with nx := N, ct := N, bk := De.nx } σ2 H2)
/-- the loop over what stands -/
theorem for_core {J : It} {De : Ends} {σ : Sg} {H : Hp} {F0 : Hp} {ρ0 : Ev} {n : Nat} (ds : List D) (hn : ds.length = n)
    (hgo : ∀ i F σ H ρ, Same F0 F → Ok c F σ H ρ → i < n → J.go i H) (hst : ∀ F σ H ρ, Same F0 F → Ok c F σ H ρ → J.stop n H)
    (hy : ∀ i F σ H ρ x H', Same F0 F → Ok c F σ H ρ → i < n → J.yld i H x H' → H' = H ∧ ∃ d, ds[i]? = some d ∧ Rp c.K F x d) (ok : Ok c F0 σ H ρ0) (h : EnS c F0 (forL g f ds ρ0) De) :
    ForW J (liftG c g) (liftS c f) De σ H := by
  refine ⟨fun i m σ H => m = n - i ∧ i ≤ n ∧ ∃ F ρ, Same F0 F ∧ Ok c F σ H ρ ∧ EnS c F (forL g f (ds.drop i) ρ) De, ⟨n, by simp, Nat.zero_le _, F0, ρ0, Same.refl _, ok, by simpa using h⟩, ?_⟩
  rintro i m σ H ⟨rfl, hi, F, ρ, sf, ok, h⟩
  by_cases hlt : i < n
  · refine .inr ⟨hgo i F σ H ρ sf ok hlt, fun σ' H' => ∃ F' ρ', Same F F' ∧ Ok c F' σ' H' ρ' ∧ EnS c F' (forL g f (ds.drop (i + 1)) ρ') De, fun σ' H' ⟨F', ρ', s', ok', h'⟩ => ⟨n - (i + 1), by omega, rfl, hlt, F', ρ', sf.trans s', ok', h'⟩, fun x H' y => ?_⟩
    obtain ⟨rfl, d, e, rp⟩ := hy i F σ H ρ x H' sf ok hlt y
    have hd : ds.drop i = d :: ds.drop (i + 1) := by
      obtain ⟨hl, e'⟩ := List.getElem?_eq_some_iff.mp e
      rw [List.drop_eq_getElem_cons hl, e']
    rw [hd] at h
    obtain ⟨ρ1, e1, h1⟩ := gD_of (show EnS c F (gD (g d ρ) fun ρ1 => turnS (f ρ1) (forL g f (ds.drop (i + 1)))) De from h)
    refine ⟨F, ρ, d, ok, rp, ρ1, e1, fun σ2 H2 F2 s2 ok2 => ?_⟩
    refine liftS_of ok2 ?_
    obtain ⟨r, ρ', e3, q⟩ := EnS.turn (EnS.mono s2 h1)
    refine ⟨r, ρ', e3, ?_⟩
    have sh : ∀ {σ' H' F'}, Same F2 F' → (∃ F'' ρ'', Same F2 F'' ∧ Ok c F'' σ' H' ρ'' ∧ EnS c F'' (forL g f (ds.drop (i + 1)) ρ'') De) → ∃ F'' ρ'', Same F F'' ∧ Ok c F'' σ' H' ρ'' ∧ EnS c F'' (forL g f (ds.drop (i + 1)) ρ'') De :=
      fun _ ⟨G, ρ4, s4, ok4, h4⟩ => ⟨G, ρ4, s2.trans s4, ok4, h4⟩
    cases r with
    | nx => exact fun σ' H' F' s' ok' => sh s' (q σ' H' F' s' ok')
    | ct => exact fun σ' H' F' s' ok' => sh s' (q σ' H' F' s' ok')
    | bk => exact q
    | rt rv => exact q
    | ex y => exact q
  · have e : i = n := by omega
    subst e
    rw [← hn, List.drop_length] at h
    exact .inl ⟨hst F σ H ρ sf ok, EnS.next h ok⟩

theorem for_data (M : Mt X c) {De : Ends} {σ : Sg} {H : Hp} {F : Hp} {ρ : Ev} {v : V} {d : D} (rp : Rp c.K F v d) (ok : Ok c F σ H ρ) (h : EnS c F (forD g f (itemsD d) ρ) De) :
    (∃ a xs, v = .ref a ∧ SqL X.K H a xs ∧ ForW (Itl X.K a) (liftG c g) (liftS c f) De σ H) ∨ (∃ a xs, v = .ref a ∧ SqT X.K H a xs ∧ ForW (Itt X.K a) (liftG c g) (liftS c f) De σ H) := by
  cases rp with
  | @lst a vs ds hq rr =>
    refine .inl ⟨a, vs, rfl, .inl (ok.sub.rd hq), ?_⟩
    have sq : ∀ {F' σ H ρ}, Same F F' → Ok c F' σ H ρ → SqL X.K H a vs := fun sf ok => .inl (ok.sub.rd (sf.rd hq))
    refine for_core ds (n := vs.length) rr.length.symm (fun i F σ H ρ sf ok hi => ⟨vs, vs[i], sq sf ok, by simp [hi]⟩) (fun F σ H ρ sf ok => ⟨vs, sq sf ok, Nat.le_refl _⟩) (fun i F σ H ρ x H' sf ok hi y => ?_) ok h
    obtain ⟨e, y⟩ := y
    subst e
    obtain ⟨d, e2, rp⟩ := rr.getV (y vs (sq sf ok))
    exact ⟨rfl, d, e2, rp.mono sf⟩
  | @tup a vs ds hq rr =>
    refine .inr ⟨a, vs, rfl, by rw [M.K]; exact ok.sub.sqt hq, ?_⟩
    have sq : ∀ {F' σ H ρ}, Same F F' → Ok c F' σ H ρ → SqT X.K H a vs := fun sf ok => by rw [M.K]; exact ok.sub.sqt (sf.sqt hq)
    refine for_core ds (n := vs.length) rr.length.symm (fun i F σ H ρ sf ok hi => ⟨vs, vs[i], sq sf ok, by simp [hi]⟩) (fun F σ H ρ sf ok => ⟨vs, sq sf ok, Nat.le_refl _⟩) (fun i F σ H ρ x H' sf ok hi y => ?_) ok h
    obtain ⟨e, y⟩ := y
    subst e
    obtain ⟨d, e2, rp⟩ := rr.getV (y vs (sq sf ok))
    exact ⟨rfl, d, e2, rp.mono sf⟩
  | _ => exact EnS.no h

/-! ### a slot's list, lent -/
theorem Ok.swapM {F : Hp} {σ : Sg} {H : Hp} {ρ : Ev} {c c' : Fc} (ok : Ok c F σ H ρ) {j : Nat} {p : Addr} {b b' : Md} {d : D} (h : ρ[j]? = some (.own b d)) (hp : σ[j]? = some (some (V.ref p))) (hb : b'.his = b.his)
    (e1 : c'.K = c.K) (e2 : c'.F0 = c.F0) (e3 : c'.H0 = c.H0) (e4 : c'.io = c.io) (l : ∀ q ∈ c'.lent, q.m.lent = true ∧ (ρ.set j (.own b' d))[q.i]? = some (.own q.m q.d) ∧ σ[q.i]? = some (some (V.ref q.p))) : Ok c' F σ H (ρ.set j (.own b' d)) := by
  have hl : j < ρ.length := (List.getElem?_eq_some_iff.mp h).1
  refine ⟨ok.sub, by rw [e3, e4]; exact ok.keep, by rw [List.length_set]; exact ok.len, fun i s hi => ?_, fun i k b1 b2 d1 d2 q h1 h2 h3 h4 => ?_, by rw [e2]; exact ok.old, by rw [e2, e3]; exact ok.new, by rw [e2, e3]; exact ok.sub0, by rw [e4]; exact ok.ioF, by rw [e3, e4]; exact ok.io0, by rw [e3]; exact ok.there, l⟩
  · by_cases e : i = j
    · subst e
      rw [List.getElem?_set_self hl] at hi
      cases hi
      obtain ⟨q, a, n, w, r⟩ := ok.slot i _ h
      exact ⟨q, a, n, by rw [e1]; exact w, by rw [hb, e3, e4]; exact r⟩
    · rw [List.getElem?_set_ne (Ne.symm e)] at hi
      have := ok.slot i s hi
      cases s with
      | emp => trivial
      | val d => obtain ⟨v, a, r⟩ := this; exact ⟨v, a, by rw [e1]; exact r⟩
      | own b d => obtain ⟨q, a, n, w, r⟩ := this; exact ⟨q, a, n, by rw [e1]; exact w, by rw [e3, e4]; exact r⟩
  · have ne : ∀ {m : Nat} {b1 : Md} {z : D}, (ρ.set j (.own b' d))[m]? = some (.own b1 z) → ∃ b2 z2, ρ[m]? = some (.own b2 z2) := fun {m b1 z} hm => by
      by_cases e : m = j
      · subst e; exact ⟨b, d, h⟩
      · rw [List.getElem?_set_ne (Ne.symm e)] at hm; exact ⟨_, _, hm⟩
    obtain ⟨_, _, g1⟩ := ne h1
    obtain ⟨_, _, g2⟩ := ne h2
    exact ok.inj i k _ _ _ _ q g1 g2 h3 h4

theorem lendL_of {x : Option Sl} {b : Md} {ds : List D} (h : lendL x = some (b, ds)) : x = some (.own b (.list ds)) := by
  cases x with
  | none => cases h
  | some s =>
    cases s with
    | own m d =>
      cases d with
      | list xs => cases m <;> (cases h; rfl)
      | _ => cases m <;> cases h
    | _ => cases h
/-- .. with a list lent -/
abbrev Fc.lend (c : Fc) (j : Nat) (p : Addr) (m : Md) (d : D) : Fc := { c with lent := ⟨j, p, m, d⟩ :: c.lent }
theorem Md.lend_lent (b : Md) : b.lend.lent = true := by cases b <;> rfl
theorem Md.lend_his (b : Md) : b.lend.his = b.his := by cases b <;> rfl
theorem Ok.lend {F : Hp} {σ : Sg} {H : Hp} {ρ : Ev} (ok : Ok c F σ H ρ) {j : Nat} {p : Addr} {b : Md} {d : D} (h : ρ[j]? = some (.own b d)) (hp : σ[j]? = some (some (V.ref p))) : Ok (c.lend j p b.lend d) F σ H (ρ.set j (.own b.lend d)) := by
  have hl : j < ρ.length := (List.getElem?_eq_some_iff.mp h).1
  refine ok.swapM h hp (Md.lend_his b) rfl rfl rfl rfl fun q hq => ?_
  rcases List.mem_cons.mp hq with rfl | hq
  · exact ⟨Md.lend_lent b, List.getElem?_set_self hl, hp⟩
  · obtain ⟨h1, h2, h3⟩ := ok.lnt q hq
    refine ⟨h1, ?_, h3⟩
    by_cases e : q.i = j
    · rw [e] at h2 h3 ⊢
      rw [h] at h2
      cases h2
      rw [List.getElem?_set_self hl]
      have : q.m.lend = q.m := by
        cases hm : q.m with
        | mine => rw [hm] at h1; cases h1
        | io => rw [hm] at h1; cases h1
        | _ => rfl
      rw [this]
    · rw [List.getElem?_set_ne (Ne.symm e)]; exact h2
theorem Ok.back {F F0 : Hp} {σ σ0 : Sg} {H H0 : Hp} {ρ ρ0 : Ev} {j : Nat} {p : Addr} {b : Md} {d : D} (ok0 : Ok c F0 σ0 H0 ρ0) (h0 : ρ0[j]? = some (.own b d)) (ok : Ok (c.lend j p b.lend d) F σ H ρ) : Ok c F σ H (ρ.set j (.own b d)) := by
  obtain ⟨h1, h2, h3⟩ := ok.lnt ⟨j, p, b.lend, d⟩ List.mem_cons_self
  have hl : j < ρ.length := (List.getElem?_eq_some_iff.mp h2).1
  refine ok.swapM h2 h3 (Md.lend_his b).symm rfl rfl rfl rfl fun q hq => ?_
  obtain ⟨g1, g2, g3⟩ := ok.lnt q (List.mem_cons_of_mem _ hq)
  refine ⟨g1, ?_, g3⟩
  by_cases e : q.i = j
  · -- it was lent before
    obtain ⟨k1, k2, k3⟩ := ok0.lnt q hq
    rw [e] at k2 ⊢
    rw [h0] at k2
    rw [List.getElem?_set_self hl]
    exact k2
  · rw [List.getElem?_set_ne (Ne.symm e)]; exact g2
end
end Vm
end

section
set_option maxRecDepth 100000
set_option maxHeartbeats 4000000
/-! Vm9: for. -/
namespace Vm
open PySem PySem.Spec PyProof.Rows L2

theorem Mt.lend {X : Cx} {c : Fc} (M : Mt X c) {j : Nat} {p : Addr} {m : Md} {d : D} : Mt X (c.lend j p m d) := ⟨M.K, M.mg, M.calm, M.nd, M.tk, M.hu⟩
theorem Ms.lend {X : Cx} {c : Fc} (M : Ms X c) {j : Nat} {p : Addr} {m : Md} {d : D} : Ms X (c.lend j p m d) := { M.toMt.lend with po := M.po }

section
variable {X : Cx} {c : Fc} {pos : Pos} {tg iter : Expr} {fe fa fb : EF} {g : GF} {f : SF} {body : List Stmt}

theorem ErrOk.back {F F0 : Hp} {σ σ0 : Sg} {H0 : Hp} {ρ ρ0 : Ev} {x : Xn} {j : Nat} {p : Addr} {b : Md} {d : D} (ok0 : Ok c F0 σ0 H0 ρ0) (h0 : ρ0[j]? = some (.own b d)) (h : ErrOk c F σ (ρ.set j (.own b d)) x) : ErrOk (c.lend j p b.lend d) F σ ρ x := fun H' F' u a s' ok' xo =>
  h H' F' u a s' (Ok.back ok0 h0 ok') xo

theorem backS_of {De : Ends} {σ0 : Sg} {H0 F0 F : Hp} {ρ0 : Ev} {j : Nat} {p : Addr} {b : Md} {ds : List D} {x : Option (SOut × Ev)} (ok0 : Ok c F0 σ0 H0 ρ0) (h0 : ρ0[j]? = some (.own b (.list ds)))
    (h : EnS c F (backS j b ds x) De) : EnS (c.lend j p b.lend (.list ds)) F x De := by
  obtain ⟨r, ρ', e, q⟩ := h
  unfold backS at e
  cases x with
  | none => cases e
  | some y =>
    obtain ⟨o, ρ⟩ := y
    cases e
    refine ⟨r, ρ, rfl, ?_⟩
    cases r with
    | nx => exact fun σ' H' F' s' ok' => q σ' H' F' s' (Ok.back ok0 h0 ok')
    | bk => exact fun σ' H' F' s' ok' => q σ' H' F' s' (Ok.back ok0 h0 ok')
    | ct => exact fun σ' H' F' s' ok' => q σ' H' F' s' (Ok.back ok0 h0 ok')
    | rt rv =>
      refine fun v σ' H' F' s' ok' rr => q v σ' H' F' s' (Ok.back ok0 h0 ok') ?_
      cases rv with
      | v d => exact rr
      | s i => exact rr
      | f d =>
        obtain ⟨p', e, n, n0, nio, w, no⟩ := rr
        refine ⟨p', e, n, n0, nio, w, fun i m e' hi => ?_⟩
        by_cases z : i = j
        · subst z
          obtain ⟨h1, h2, h3⟩ := ok'.lnt ⟨i, p, b.lend, .list ds⟩ List.mem_cons_self
          exact no i _ _ h2
        · rw [List.getElem?_set_ne (Ne.symm z)] at hi
          exact no i m e' hi
    | ex y => exact fun σ' => ErrOk.back ok0 h0 (q σ')

theorem ls_for (M : Ms X c) (he : PE X iter (liftE c fe)) (hg : ∀ c', Ms X c' → PG X tg (liftG c' g)) (hb : ∀ c', Ms X c' → PSs X body (liftS c' f)) (hs : ∀ x, foldedSetIterable iter X.env x = pure x := by intro _; rfl) :
    PS X (.For tg iter body [] pos) (liftS c (sFor g f fe)) := by
  refine ⟨fun pins s σ H De I hw => ?_⟩
  obtain ⟨F, ρ, ok, h⟩ := hw
  have h : EnS c F (bS (fe ρ) fun r ρ1 => forR g f (hold r) ρ1) De := h
  -- what stands
  have data : (∀ (i : Nat) ρ1, fe ρ ≠ some (.ok (.s i), ρ1)) → wpAny (model X.prog X.w) X.A (exec (.For tg iter body [] pos) X.env) (SP X pins De) X.xe s := fun no => by
    refine (ps_for M.po M.calm (pi_seq he) (hg c M) (hb c M) hs).run pins s σ H De I ?_
    refine ⟨F, ρ, ok, ?_⟩
    obtain ⟨r, ρ1, e, q⟩ := EnS.bind (σ := σ) h
    refine ⟨r, ρ1, e, ?_⟩
    cases r with
    | error x => exact q
    | ok rv =>
      intro H1 F1 s1 ok1 v r1
      have h1 := q H1 F1 s1 ok1
      obtain ⟨F2, s2, ok2, h2⟩ := r1.held ok1
      have h1 := EnS.mono s2 h1
      cases rv with
      | v d => exact for_data M.toMt h2 ok2 h1
      | f d => exact for_data M.toMt h2 ok2 h1
      | s j => exact absurd e (no j ρ1)
  cases e : fe ρ with
  | none => rw [e] at h; exact h.no
  | some x =>
    obtain ⟨r, ρ1⟩ := x
    cases r with
    | error x => exact data fun i ρ2 z => by rw [e] at z; cases z
    | ok rv =>
      cases rv with
      | v d => exact data fun i ρ2 z => by rw [e] at z; cases z
      | f d => exact data fun i ρ2 z => by rw [e] at z; cases z
      | s j =>
        -- a slot's list
        rw [e] at h
        have h : EnS c F (match lendL ρ1[j]? with
          | some (b, ds) => backS j b ds (forL g f ds (ρ1.set j (.own b.lend (.list ds))))
          | none => none) De := h
        cases el : lendL ρ1[j]? with
        | none => rw [el] at h; exact h.no
        | some bd =>
          obtain ⟨b, ds⟩ := bd
          rw [el] at h
          have h : EnS c F (backS j b ds (forL g f ds (ρ1.set j (.own b.lend (.list ds))))) De := h
          have ej := lendL_of el
          have go : ∀ p : Addr, (∀ q, σ[j]? = some (some (V.ref q)) → q = p) → wpAny (model X.prog X.w) X.A (exec (.For tg iter body [] pos) X.env) (SP X pins De) X.xe s := fun p hp => by
            refine (ps_for M.po M.calm (pi_seq he) (hg (c.lend j p b.lend (.list ds)) M.lend) (hb (c.lend j p b.lend (.list ds)) M.lend) hs).run pins s σ H De I ?_
            refine ⟨F, ρ, ok, .ok (.s j), ρ1, e, fun H1 F1 s1 ok1 v r1 => ?_⟩
            have r1 : σ[j]? = some (some v) := r1
            obtain ⟨p', a, n, w, r⟩ := ok1.slot j _ ej
            rw [r1] at a
            cases a
            obtain rfl := hp p' r1
            obtain ⟨vs, e1, rr⟩ := w
            refine .inl ⟨p', vs, rfl, .inl (.inl e1), ?_⟩
            show ForW (Itl X.K p') _ _ De σ H1
            have h2 : EnS (c.lend j p' b.lend (.list ds)) F1 (forL g f ds (ρ1.set j (.own b.lend (.list ds)))) De := backS_of ok1 ej (EnS.mono s1 h)
            -- at each turn
            have at_ : ∀ {F' σ' H' ρ'}, Same F1 F' → Ok (c.lend j p' b.lend (.list ds)) F' σ' H' ρ' → ∃ vs, H' p' = some (.lst vs) ∧ RpA c.K F' vs ds := fun {F' σ' H' ρ'} sf ok' => by
              obtain ⟨g1, g2, g3⟩ := ok'.lnt ⟨j, p', b.lend, .list ds⟩ List.mem_cons_self
              obtain ⟨p2, a2, n2, w2, _⟩ := ok'.slot j _ g2
              rw [g3] at a2
              cases a2
              exact w2
            refine for_core (c := c.lend j p' b.lend (.list ds)) ds (n := ds.length) rfl (fun i F' σ' H' ρ' sf ok' hi => ?_) (fun F' σ' H' ρ' sf ok' => ?_) (fun i F' σ' H' ρ' x H'' sf ok' hi y => ?_) (ok1.lend ej r1) h2
            · obtain ⟨vs, q1, q2⟩ := at_ sf ok'
              exact ⟨vs, vs[i]'(by rw [q2.length]; exact hi), .inl (.inl q1), by simp⟩
            · obtain ⟨vs, q1, q2⟩ := at_ sf ok'
              exact ⟨vs, .inl (.inl q1), by rw [q2.length]; exact Nat.le_refl _⟩
            · obtain ⟨vs, q1, q2⟩ := at_ sf ok'
              obtain ⟨e2, y⟩ := y
              subst e2
              obtain ⟨d, e3, rp⟩ := q2.getV (y vs (.inl (.inl q1)))
              exact ⟨rfl, d, e3, rp⟩
          cases hσ : σ[j]? with
          | none => exact go 0 fun v z => by rw [hσ] at z; cases z
          | some o =>
            cases o with
            | none => exact go 0 fun v z => by rw [hσ] at z; cases z
            | some v =>
              cases v with
              | ref p => exact go p fun v z => by rw [hσ] at z; cases z; rfl
              | _ => exact go 0 fun v z => by rw [hσ] at z; cases z
end
end Vm
end

section
set_option maxRecDepth 100000
set_option maxHeartbeats 4000000
/-! VmA: for over ranges; defs: what they promise, their calls. -/
namespace Vm
open PySem PySem.Spec PyProof.Rows L2

section
variable {X : Cx} {c : Fc} {pos : Pos} {tg iter : Expr} {fe fa fb : EF} {g : GF} {f : SF} {body : List Stmt}
theorem rangeD_get {lo hi : Int} {i : Nat} (h : i < (hi - lo).toNat) : (rangeD lo hi)[i]? = some (.int (lo + (i : Nat))) := by
  unfold rangeD
  rw [List.getElem?_map, List.getElem?_range h]
  rfl
theorem rangeD_len {lo hi : Int} : (rangeD lo hi).length = (hi - lo).toNat := by
  unfold rangeD
  rw [List.length_map, List.length_range]
theorem rngOf_of {x y : Option D} {i j : Int} (h : rngOf x y = some (i, j)) : x = some (.int i) ∧ y = some (.int j) ∧ okR i = true ∧ okR j = true := by
  cases x with
  | none => cases h
  | some a =>
    cases y with
    | none => cases a <;> cases h
    | some b =>
      cases a with
      | int i' =>
        cases b with
        | int j' =>
          have h : (if (okR i' && okR j') = true then some (i', j') else none) = some (i, j) := h
          split at h
          · rename_i hb
            rw [Bool.and_eq_true] at hb
            cases h
            exact ⟨rfl, rfl, hb.1, hb.2⟩
          · cases h
        | _ => cases h
      | _ => cases b <;> cases h
theorem okR_of {i : Int} (h : okR i = true) : -(2 ^ 62) ≤ i ∧ i < 2 ^ 62 := by
  unfold okR at h
  rw [Bool.and_eq_true, decide_eq_true_eq, decide_eq_true_eq] at h
  exact h
theorem for_range_w {De : Ends} {σ : Sg} {H : Hp} {F : Hp} {ρ : Ev} {lo hi : Int} (ok : Ok c F σ H ρ) (h : EnS c F (forL g f (rangeD lo hi) ρ) De) : ForW (Itr lo (hi - lo).toNat) (liftG c g) (liftS c f) De σ H := by
  refine for_core (rangeD lo hi) rangeD_len (fun i F σ H ρ sf ok hi => hi) (fun F σ H ρ sf ok => Nat.le_refl _) (fun i F σ H ρ x H' sf ok hi y => ?_) ok h
  obtain ⟨e, rfl⟩ := y
  exact ⟨e, _, rangeD_get hi, .int _⟩
theorem ls_forR1 (M : Ms X c) (hi : PI X tg iter (iRng1 (tCons (liftE c fa) tNil))) (hg : PG X tg (liftG c g)) (hb : PSs X body (liftS c f)) (hs : ∀ x, foldedSetIterable iter X.env x = pure x := by intro _; rfl) :
    PS X (.For tg iter body [] pos) (liftS c (sForR1 g f fa)) := by
  refine PSi (ps_for M.po M.calm hi hg hb hs) fun De σ H ⟨F, ρ, ok, h⟩ => ?_
  refine ls_then ok h fun F1 H1 ρ1 v rv ok1 r1 h1 => ?_
  cases e : rngOf (some (.int 0)) (rd ρ1 rv) with
  | none => rw [e] at h1; exact h1.no
  | some ij =>
    obtain ⟨i, j⟩ := ij
    rw [e] at h1
    obtain ⟨e1, e2, h3, h4⟩ := rngOf_of e
    cases e1
    cases (r1.vw ok1 e2).int
    obtain ⟨b1, b2⟩ := okR_of h4
    refine ⟨j, rfl, b1, b2, ?_⟩
    have := for_range_w ok1 (show EnS c F1 (forL g f (rangeD 0 j) ρ1) De from h1)
    rw [Int.sub_zero] at this
    exact this
theorem ls_forR2 (M : Ms X c) (hi : PI X tg iter (iRng2 (tCons (liftE c fa) (tCons (liftE c fb) tNil)))) (hg : PG X tg (liftG c g)) (hb : PSs X body (liftS c f)) (hs : ∀ x, foldedSetIterable iter X.env x = pure x := by intro _; rfl) :
    PS X (.For tg iter body [] pos) (liftS c (sForR2 g f fa fb)) := by
  refine PSi (ps_for M.po M.calm hi hg hb hs) fun De σ H ⟨F, ρ, ok, h⟩ => ?_
  refine ls_then ok h fun F1 H1 ρ1 v rv ok1 r1 h1 => ?_
  obtain ⟨F2, s2, ok2, h2⟩ := r1.held ok1
  refine ⟨F2, ρ1, ok2, (EnS.bind (EnS.mono s2 h1)).imp fun rw' F3 H3 ρ3 s3 ok3 h3 w r3 => ?_⟩
  cases e : rngOf (rd ρ3 (hold rv)) (rd ρ3 rw') with
  | none => rw [e] at h3; exact h3.no
  | some ij =>
    obtain ⟨i, j⟩ := ij
    rw [e] at h3
    obtain ⟨e1, e2, g3, g4⟩ := rngOf_of e
    cases ((h2.mono s3).ok.vw ok3 e1).int
    cases (r3.vw ok3 e2).int
    obtain ⟨b1, b2⟩ := okR_of g3
    obtain ⟨b3, b4⟩ := okR_of g4
    exact ⟨i, j, rfl, ⟨b1, b2, b3, b4⟩, for_range_w ok3 h3⟩
end

/-! ### defs -/
/-- a def's plain function: the arguments to the result (new, or not) or an exception, and what the changed argument is behind it; io: the place of the argument that is changed -/
structure FnS where
  io : Option Nat
  sem : List D → Option (Except Xn (Bool × D) × D)

/-- the arguments -/
structure ArgsOk (K : PySem.W.Frag) (F H : Hp) (io : Option Nat) (vs : List V) (ds : List D) : Prop where
  len : vs.length = ds.length
  val : ∀ (i : Nat) v d, io ≠ some i → vs[i]? = some v → ds[i]? = some d → Rp K F v d
  iov : ∀ (i : Nat) v d, io = some i → vs[i]? = some v → ds[i]? = some d → ∃ p, v = V.ref p ∧ F p = none ∧ Own K F H p d
/-- behind a call -/
structure Aft (K : PySem.W.Frag) (F H F' H' : Hp) (io : Option Nat) (vs : List V) (out : D) : Prop where
  sf : Same F F'
  sub : Same F' H'
  keep : ∀ a o, H a = some o → (∀ i, io = some i → vs[i]? ≠ some (V.ref a)) → H' a = some o
  there : ∀ a o, H a = some o → ∃ o', H' a = some o'
  new : ∀ a o, F' a = some o → F a = none → H a = none
  out : ∀ (i : Nat) p, io = some i → vs[i]? = some (V.ref p) → Own K F' H' p out
def ResOk (K : PySem.W.Frag) (H F' H' : Hp) (v : V) : Bool × D → Prop
  | (true, d) => ∃ p, v = V.ref p ∧ H p = none ∧ F' p = none ∧ Own K F' H' p d
  | (false, d) => Rp K F' v d
def XnOkM (K : PySem.W.Frag) (mg : Str → Option Value) (F H : Hp) (x : Xn) (u : Value) (a : Option Addr) : Prop :=
  mg x.cls = some u ∧ match x.pay with
    | none => a = none
    | some (f, d) => ∃ q v, a = some q ∧ H q = some (.xd [(f, v)]) ∧ Rp K F v d
/-- a def's promise, from its plain function -/
def spF (K : PySem.W.Frag) (mg : Str → Option Value) (np : Nat) (fs : FnS) : Sp := fun vs H Q E => vs.length = np ∧ ∃ F ds, Same F H ∧ ArgsOk K F H fs.io vs ds ∧ ∃ r out, fs.sem ds = some (r, out) ∧ match r with
  | .ok bd => ∀ v F' H', Aft K F H F' H' fs.io vs out → ResOk K H F' H' v bd → Q v H'
  | .error x => ∀ F' H' u a, Aft K F H F' H' fs.io vs out → XnOkM K mg F' H' x u a → E u a H'

/-! ### calls -/
/-- arguments as data; none: the object of slot j, that is changed -/
inductive ArA (c : Fc) (F : Hp) (σ : Sg) (j : Nat) : List V → List (Option D) → Prop
  | nil : ArA c F σ j [] []
  | val {v : V} {vs : List V} {d : D} {as : List (Option D)} : Rp c.K F v d → ArA c F σ j vs as → ArA c F σ j (v :: vs) (some d :: as)
  | io {v : V} {vs : List V} {as : List (Option D)} : σ[j]? = some (some v) → ArA c F σ j vs as → ArA c F σ j (v :: vs) (none :: as)
abbrev ArF := Ev → Option (Except Xn (List (Option D)) × Ev)
def liftAr (c : Fc) (j : Nat) (f : ArF) : TA := fun σ H Q => ∃ F ρ, Ok c F σ H ρ ∧ En c F σ (f ρ) (fun as F' H' _ => ∀ vs, ArA c F' σ j vs as → Q vs H')
def rNil : ArF := fun ρ => some (.ok [], ρ)
def rCons (fa : EF) (fr : ArF) : ArF := fun ρ => bE (fa ρ) fun ra ρ1 => standE (stand ra ρ1) fun d ρ2 => bE (fr ρ2) fun ds ρ3 => some (.ok (some d :: ds), ρ3)
def rIo (j : Nat) (fr : ArF) : ArF := fun ρ => withL j ρ fun _ _ => bE (fr ρ) fun ds ρ3 => some (.ok (none :: ds), ρ3)
section
variable {X : Cx} {c : Fc} {fa : EF} {fr : ArF} {e : Expr} {es : List Expr} {σ : Sg} {j : Nat}
theorem lr_nil : PA X [] (liftAr c j rNil) := PAi pa_nil fun σ H Q ⟨F, ρ, ok, h⟩ => h.ret ok _ .nil
theorem lr_cons (ha : PE X e (liftE c fa)) (hr : PA X es (liftAr c j fr)) (hs : starEach (e :: es) X.env = (false, eval e X.env) :: starEach es X.env := by rfl) : PA X (e :: es) (liftAr c j (rCons fa fr)) := by
  refine PAi (pa_cons ha hr hs) fun σ H Q ⟨F, ρ, ok, h⟩ => ?_
  refine ⟨F, ρ, ok, (En.bind (k := fun ra ρ1 => standE (stand ra ρ1) fun d ρ2 => bE (fr ρ2) fun ds ρ3 => some (.ok (some d :: ds), ρ3)) h).imp fun rv F1 H1 ρ1 s1 ok1 h1 v r => ?_⟩
  obtain ⟨F2, d, ρ2, s2, ok2, rp, h2⟩ := standE_of h1 ok1 r
  exact ⟨F2, ρ2, ok2, h2.bind.imp fun ds F3 H3 ρ3 s3 ok3 h3 vs rs => h3.ret ok3 _ (.val (rp.mono s3) rs)⟩
theorem lr_io {x : Str} {pos : Pos} (hr : PA X es (liftAr c j fr)) (hN : X.N[j]? = some x := by rfl) (hv : Vis X.env.scope x := by first | exact Or.inl rfl | exact Or.inr (Or.inl rfl) | exact Or.inr (Or.inr rfl)) (hd : (x == ("__debug__" : Str)) = false := by decide)
    (hcd : (x == ("__classdict__" : Str)) = false := by decide) (hs : starEach (.Name x pos :: es) X.env = (false, eval (.Name x pos) X.env) :: starEach es X.env := by rfl) : PA X (.Name x pos :: es) (liftAr c j (rIo j fr)) := by
  refine PAi (pa_cons (pe_var hN hv hd hcd) hr hs) fun σ H Q ⟨F, ρ, ok, h⟩ => ?_
  obtain ⟨b, ds, p, vs, h0, h1, h2, h3, h4, h5⟩ := withL_of (k := fun _ _ => bE (fr ρ) fun ds ρ3 => some (.ok (none :: ds), ρ3)) h ok
  exact ⟨_, h2, F, ρ, ok, h5.bind.imp fun as F3 H3 ρ3 s3 ok3 h6 ws rs => h6.ret ok3 _ (.io h2 rs)⟩
end

/-- the arguments' data: the changed one's as it stands -/
def argD (x : D) (as : List (Option D)) : List D := as.map fun o => o.getD x
def resE (x : Option (Except Xn (Bool × D) × D)) (k : D → Option Ev) : Option (Except Xn RV × Ev) :=
  match x with
  | some (.ok (true, d), out) => match k out with
    | some ρ => some (.ok (.f d), ρ)
    | none => none
  | some (.ok (false, d), out) => match k out with
    | some ρ => some (.ok (.v d), ρ)
    | none => none
  | some (.error x, out) => match k out with
    | some ρ => some (.error x, ρ)
    | none => none
  | none => none
/-- a call that changes nothing of the caller's -/
def eCall (fs : FnS) (fr : ArF) : EF := fun ρ => bE (fr ρ) fun as ρ1 => if as.all Option.isSome = true then resE (fs.sem (argD .none as)) fun _ => some ρ1 else none
/-- a call that changes the object of slot j, the k-th argument -/
def maskOk (k : Nat) (as : List (Option D)) : Bool := decide (k < as.length) && (List.range as.length).all fun i => (as.getD i none).isNone == decide (i = k)
def eCallIo (fs : FnS) (k j : Nat) (fr : ArF) : EF := fun ρ => bE (fr ρ) fun as ρ1 => if maskOk k as = true then withL j ρ1 fun b ds => resE (fs.sem (argD (.list ds) as)) fun out => some (ρ1.set j (.own b out)) else none

section
variable {c : Fc} {F : Hp} {σ : Sg} {H : Hp} {ρ : Ev}
theorem ArA.len {j : Nat} {vs : List V} {as : List (Option D)} (h : ArA c F σ j vs as) : vs.length = as.length := by
  induction h with
  | nil => rfl
  | val _ _ ih => simp [ih]
  | io _ _ ih => simp [ih]
theorem ArA.get {j : Nat} {vs : List V} {as : List (Option D)} (h : ArA c F σ j vs as) : ∀ (i : Nat) v o, vs[i]? = some v → as[i]? = some o → match o with
    | some d => Rp c.K F v d
    | none => σ[j]? = some (some v) := by
  induction h with
  | nil => intro i v o h; simp at h
  | val r _ ih =>
    intro i v o h1 h2
    cases i with
    | zero => simp at h1 h2; subst h1 h2; exact r
    | succ i => exact ih i v o (by simpa using h1) (by simpa using h2)
  | io r _ ih =>
    intro i v o h1 h2
    cases i with
    | zero => simp at h1 h2; subst h1 h2; exact r
    | succ i => exact ih i v o (by simpa using h1) (by simpa using h2)

/-- behind a call: the caller's state -/
theorem Ok.after (ok : Ok c F σ H ρ) {F' H' : Hp} {vs : List V} {out : D} (a : Aft c.K F H F' H' none vs out) : Ok c F' σ H' ρ := by
  refine ⟨a.sub, fun q o e n => a.keep q o (ok.keep q o e n) (fun _ z => nomatch z), ok.len, fun i s h => ?_, ok.inj, ok.old.trans a.sf, fun q o e n => ?_, ok.sub0, fun q hq => ?_, ok.io0, fun q o e => ?_, ok.lnt⟩
  · have := ok.slot i s h
    cases s with
    | emp => trivial
    | val d => obtain ⟨v, b, r⟩ := this; exact ⟨v, b, r.mono a.sf⟩
    | own b d =>
      obtain ⟨p, e, n, w, r⟩ := this
      obtain ⟨o, ho, _⟩ := w.some
      refine ⟨p, e, ?_, w.mono a.sf ((a.keep p o ho fun _ z => nomatch z).trans ho.symm), r⟩
      cases q : F' p with
      | none => rfl
      | some o' => have := a.new p o' q n; rw [ho] at this; cases this
  · cases q2 : F q with
    | some o' => exact ok.new q o' q2 n
    | none =>
      have h1 := a.new q o e q2
      cases q3 : c.H0 q with
      | none => rfl
      | some o' => obtain ⟨o2, e2⟩ := ok.there q o' q3; rw [h1] at e2; cases e2
  · cases q2 : F' q with
    | none => rfl
    | some o =>
      have h1 := a.new q o q2 (ok.ioF q hq)
      obtain ⟨o', e'⟩ := ok.io0 q hq
      obtain ⟨o2, e2⟩ := ok.there q o' e'
      rw [h1] at e2; cases e2
  · obtain ⟨o', e'⟩ := ok.there q o e
    exact a.there q o' e'
end
end Vm
end

section
set_option maxRecDepth 100000
set_option maxHeartbeats 4000000
/-! VmB: calls; a def keeps what its plain function says. -/
namespace Vm
open PySem PySem.Spec PyProof.Rows L2

section
variable {X : Cx} {c : Fc} {fr : ArF} {σ : Sg} {H : Hp} {Q : VK} {fs : FnS} {np : Nat} {F : Hp} {ρ : Ev}

theorem getD_none {as : List (Option D)} {x : D} {i : Nat} {d : D} (h : (argD x as)[i]? = some d) : ∃ o, as[i]? = some o ∧ d = o.getD x := by
  unfold argD at h
  rw [List.getElem?_map] at h
  obtain ⟨o, e1, e2⟩ := Option.map_eq_some_iff.mp h
  exact ⟨o, e1, e2.symm⟩

/-- the promise at a call that changes nothing of the caller's -/
theorem call_sp (hK : X.K = c.K) (hmg : X.mg = c.mg) (hio : fs.io = none) {vs : List V} {as : List (Option D)} (hnp : as.length = np) (ok : Ok c F σ H ρ) (ra : ArA c F σ 0 vs as)
    (h : En c F σ (if as.all Option.isSome = true then resE (fs.sem (argD .none as)) (fun _ => some ρ) else none) (RE c σ Q)) : spF X.K X.mg np fs vs H Q (WE c.W σ) := by
  split at h
  · rename_i hall
    refine ⟨by rw [ra.len]; exact hnp, F, argD .none as, ok.sub, ⟨by rw [ra.len]; unfold argD; rw [List.length_map], fun i v d _ h1 h2 => ?_, fun i v d h1 => by rw [hio] at h1; cases h1⟩, ?_⟩
    · obtain ⟨o, e1, e2⟩ := getD_none h2
      have ho : o.isSome = true := (List.all_eq_true.mp hall) o (List.mem_of_getElem? e1)
      have := ra.get i v o h1 e1
      cases o with
      | none => cases ho
      | some d' => subst e2; rw [hK]; exact this
    · cases e : fs.sem (argD .none as) with
      | none => rw [e] at h; exact h.no
      | some ro =>
        obtain ⟨r, out⟩ := ro
        rw [e] at h
        refine ⟨r, out, rfl, ?_⟩
        cases r with
        | ok bd =>
          obtain ⟨b, d⟩ := bd
          intro v F' H' af rs
          rw [hio, hK] at af
          have ok' := ok.after af
          cases b with
          | true =>
            obtain ⟨p, e1, n, n', w⟩ := rs
            obtain ⟨n1, n2, n3, n4⟩ := ok.newN n
            have h : En c F σ (some (.ok (.f d), ρ)) (RE c σ Q) := h
            refine (h.mono af.sf).ret ok' v ⟨p, e1, n', n2, n3, by rw [← hK]; exact w, n4⟩
          | false =>
            have h : En c F σ (some (.ok (.v d), ρ)) (RE c σ Q) := h
            refine (h.mono af.sf).ret ok' v ?_
            show Rp c.K F' v d
            rw [← hK]
            exact rs
        | error x =>
          intro F' H' u a af xo
          rw [hio, hK] at af
          have ok' := ok.after af
          have h : En c F σ (some (.error x, ρ)) (RE c σ Q) := h
          obtain ⟨r', ρ', e', q⟩ := h
          cases e'
          exact q H' F' u a af.sf ok' (by unfold XnOk; rw [← hmg, ← hK]; exact xo)
  · exact h.no

theorem maskOk_of {k : Nat} {as : List (Option D)} (h : maskOk k as = true) : k < as.length ∧ ∀ i o, as[i]? = some o → (o.isNone = decide (i = k)) := by
  unfold maskOk at h
  rw [Bool.and_eq_true, decide_eq_true_eq] at h
  refine ⟨h.1, fun i o e => ?_⟩
  have hi : i < as.length := (List.getElem?_eq_some_iff.mp e).1
  have := (List.all_eq_true.mp h.2) i (List.mem_range.mpr hi)
  rw [beq_iff_eq, List.getD_eq_getElem?_getD, e] at this
  exact this

/-- behind a call that changed the object of slot j -/
theorem Ok.afterIo (ok : Ok c F σ H ρ) {F' H' : Hp} {vs : List V} {out : D} {k j : Nat} {p : Addr} {b : Md} {d : D} (hb : b.lent = false) (h1 : ρ[j]? = some (.own b d)) (h2 : σ[j]? = some (some (V.ref p))) (hv : vs[k]? = some (V.ref p)) (a : Aft c.K F H F' H' (some k) vs out) :
    Ok c F' σ H' (ρ.set j (.own b out)) := by
  have hl : j < ρ.length := (List.getElem?_eq_some_iff.mp h1).1
  have kp : ∀ q o, H q = some o → q ≠ p → H' q = some o := fun q o e ne => a.keep q o e fun i hi z => by
    cases hi
    rw [hv] at z
    cases z
    exact ne rfl
  obtain ⟨p', a1, n1, w1, r1⟩ := ok.slot j _ h1
  rw [h2] at a1
  cases a1
  have nF : ∀ q o, H q = some o → F q = none → F' q = none := fun q o e n => by
    cases z : F' q with
    | none => rfl
    | some o' => have := a.new q o' z n; rw [e] at this; cases this
  refine ⟨a.sub, fun q o e nio => ?_, by rw [List.length_set]; exact ok.len, fun i s hi => ?_, fun i i' b1 b2 e1 e2 q g1 g2 g3 g4 => ?_, ok.old.trans a.sf, fun q o e n => ?_, ok.sub0, fun q hq => ?_, ok.io0, fun q o e => ?_, lnt_set ok.lnt (by rw [h1]; show (!b.lent) = true; rw [hb]; rfl) fun _ _ => rfl⟩
  · refine kp q o (ok.keep q o e nio) fun z => ?_
    subst z
    cases hh : b.his with
    | true => rw [hh, if_pos rfl] at r1; exact nio r1
    | false => rw [hh, if_neg Bool.false_ne_true] at r1; rw [r1] at e; cases e
  · by_cases z : i = j
    · subst z
      rw [List.getElem?_set_self hl] at hi
      cases hi
      obtain ⟨o, ho, _⟩ := w1.some
      exact ⟨p, h2, nF p o ho n1, a.out k p rfl hv, r1⟩
    · rw [List.getElem?_set_ne (Ne.symm z)] at hi
      have := ok.slot i s hi
      cases s with
      | emp => trivial
      | val d => obtain ⟨v, x, r⟩ := this; exact ⟨v, x, r.mono a.sf⟩
      | own b' d' =>
        obtain ⟨q, e, n, w, r⟩ := this
        obtain ⟨o, ho, _⟩ := w.some
        have hq : q ≠ p := fun y => z (ok.inj i j b' b d' d p hi h1 (y ▸ e) h2)
        exact ⟨q, e, nF q o ho n, w.mono a.sf ((kp q o ho hq).trans ho.symm), r⟩
  · have ne : ∀ {m : Nat} {b1 : Md} {z : D}, (ρ.set j (.own b out))[m]? = some (.own b1 z) → ∃ b2 z2, ρ[m]? = some (.own b2 z2) := fun {m b1 z} hm => by
      by_cases e : m = j
      · subst e; exact ⟨b, d, h1⟩
      · rw [List.getElem?_set_ne (Ne.symm e)] at hm; exact ⟨_, _, hm⟩
    obtain ⟨_, _, k1⟩ := ne g1
    obtain ⟨_, _, k2⟩ := ne g2
    exact ok.inj i i' _ _ _ _ q k1 k2 g3 g4
  · cases q2 : F q with
    | some o' => exact ok.new q o' q2 n
    | none =>
      have x1 := a.new q o e q2
      cases q3 : c.H0 q with
      | none => rfl
      | some o' => obtain ⟨o2, e2⟩ := ok.there q o' q3; rw [x1] at e2; cases e2
  · obtain ⟨o', e'⟩ := ok.io0 q hq
    obtain ⟨o2, e2⟩ := ok.there q o' e'
    exact nF q o2 e2 (ok.ioF q hq)
  · obtain ⟨o', e'⟩ := ok.there q o e
    exact a.there q o' e'

/-- .. that changes the object of slot j -/
theorem call_sp_io (hK : X.K = c.K) (hmg : X.mg = c.mg) {k j : Nat} (hio : fs.io = some k) {vs : List V} {as : List (Option D)} (hnp : as.length = np) (ok : Ok c F σ H ρ) (ra : ArA c F σ j vs as)
    (h : En c F σ (if maskOk k as = true then withL j ρ fun b ds => resE (fs.sem (argD (.list ds) as)) fun out => some (ρ.set j (.own b out)) else none) (RE c σ Q)) : spF X.K X.mg np fs vs H Q (WE c.W σ) := by
  split at h
  · rename_i hm
    obtain ⟨hk, hmask⟩ := maskOk_of hm
    obtain ⟨b, ds, p, ws, h0, h1, h2, h3, h4, h5⟩ := withL_of h ok
    have hlen := ra.len
    have noneAt : ∀ i v, vs[i]? = some v → as[i]? = some none → v = V.ref p := fun i v e1 e2 => by
      have g : σ[j]? = some (some v) := ra.get i v none e1 e2
      rw [h2] at g
      cases g
      rfl
    have ask : as[k]? = some none := by
      have e2 := List.getElem?_eq_getElem hk
      have q := hmask k _ e2
      rw [decide_eq_true rfl] at q
      rw [e2]
      cases ho : as[k] with
      | some d => rw [ho] at q; cases q
      | none => rfl
    have hvk : vs[k]? = some (V.ref p) := by
      have hl : k < vs.length := by rw [hlen]; exact hk
      have e1 := List.getElem?_eq_getElem hl
      rw [e1, noneAt k _ e1 ask]
    refine ⟨by rw [hlen]; exact hnp, F, argD (.list ds) as, ok.sub, ⟨by rw [hlen]; unfold argD; rw [List.length_map], fun i v d hi e1 e2 => ?_, fun i v d hi e1 e2 => ?_⟩, ?_⟩
    · obtain ⟨o, e3, e4⟩ := getD_none e2
      have q := hmask i o e3
      have hik : i ≠ k := fun z => hi (by rw [hio, z])
      rw [decide_eq_false hik] at q
      have := ra.get i v o e1 e3
      cases o with
      | none => cases q
      | some d' => subst e4; rw [hK]; exact this
    · rw [hio] at hi
      cases hi
      obtain ⟨o, e3, e4⟩ := getD_none e2
      rw [ask] at e3
      cases e3
      subst e4
      rw [hvk] at e1
      cases e1
      obtain ⟨p', a1, n1, w1, _⟩ := ok.slot j _ h1
      rw [h2] at a1
      cases a1
      exact ⟨p, rfl, n1, by rw [hK]; exact w1⟩
    · cases e : fs.sem (argD (.list ds) as) with
      | none => rw [e] at h5; exact h5.no
      | some ro =>
        obtain ⟨r, out⟩ := ro
        rw [e] at h5
        refine ⟨r, out, rfl, ?_⟩
        cases r with
        | ok bd =>
          obtain ⟨t, d⟩ := bd
          intro v F' H' af rs
          rw [hio, hK] at af
          have ok' := ok.afterIo h0 h1 h2 hvk af
          cases t with
          | true =>
            obtain ⟨q, e1, n, n', w⟩ := rs
            obtain ⟨n1, n2, n3, n4⟩ := ok.newN n
            have h : En c F σ (some (.ok (.f d), ρ.set j (.own b out))) (RE c σ Q) := h5
            refine (h.mono af.sf).ret ok' v ⟨q, e1, n', n2, n3, by rw [← hK]; exact w, fun i m z hi => ?_⟩
            by_cases y : i = j
            · subst y; exact n4 i _ _ h1
            · rw [List.getElem?_set_ne (Ne.symm y)] at hi; exact n4 i m z hi
          | false =>
            have h : En c F σ (some (.ok (.v d), ρ.set j (.own b out))) (RE c σ Q) := h5
            refine (h.mono af.sf).ret ok' v ?_
            show Rp c.K F' v d
            rw [← hK]
            exact rs
        | error x =>
          intro F' H' u a af xo
          rw [hio, hK] at af
          have ok' := ok.afterIo h0 h1 h2 hvk af
          have h : En c F σ (some (.error x, ρ.set j (.own b out))) (RE c σ Q) := h5
          obtain ⟨r', ρ', e', q⟩ := h
          cases e'
          exact q H' F' u a af.sf ok' (by unfold XnOk; rw [← hmg, ← hK]; exact xo)
  · exact h.no
end

section
variable {X : Cx} {c : Fc} {fr : ArF} {fs : FnS} {np k lv : Nat} {f : Addr} {fd : FuncData} {ps : List Str} {x : Str} {p pos : Pos} {e : Expr} {es : List Expr}
def npOk (np : Nat) (fr : ArF) : ArF := fun ρ => bE (fr ρ) fun as ρ1 => if as.length = np then some (.ok as, ρ1) else none
/-- f(..) -/
theorem le_call (M : Mt X c) (G : FnOk X.prog X.w X.K X.mg X.base (L2.CX X.prog X.w) lv f fd ps (spF X.K X.mg np fs)) (hr : Room lv X.A) (hg : Gl X x) (hm : X.mg x = some (.ref f)) (hk : PySem.W.keepIn X.K (.ref f) = true) (hb : Binds X.K fd ps []) (hio : fs.io = none)
    (ha : PA X (e :: es) (liftAr c 0 fr)) (hdb : (x == ("__debug__" : Str)) = false := by decide) (he : starEach (e :: es) X.env = (false, eval e X.env) :: starEach es X.env := by rfl) (hpl : (backTo pos (starEach es X.env)).any (·.1) = false := by rfl) :
    PE X (.Call (.Name x p) (e :: es) [] pos) (liftE c (eCall fs (npOk np fr))) := by
  refine PEi (pe_callS G hr hg hm hk hb (fun σ => passAt M.tk σ) ha hdb he hpl) fun σ H Q ⟨F, ρ, ok, h⟩ => ?_
  have h := (En.bind (k := fun as ρ1 => if as.all Option.isSome = true then resE (fs.sem (argD .none as)) (fun _ => some ρ1) else none) h)
  have h := (En.bind (k := fun (as : List (Option D)) ρ1 => if as.length = np then some (Except.ok as, ρ1) else none) h)
  refine ⟨F, ρ, ok, h.imp fun as F1 H1 ρ1 s1 ok1 h1 vs ra => ?_⟩
  split at h1
  · rename_i hnp
    exact call_sp M.K M.mg hio hnp ok1 ra (h1.ret ok1)
  · exact h1.no
theorem le_callIo {j kk : Nat} (M : Mt X c) (G : FnOk X.prog X.w X.K X.mg X.base (L2.CX X.prog X.w) lv f fd ps (spF X.K X.mg np fs)) (hr : Room lv X.A) (hg : Gl X x) (hm : X.mg x = some (.ref f)) (hk : PySem.W.keepIn X.K (.ref f) = true) (hb : Binds X.K fd ps []) (hio : fs.io = some kk)
    (ha : PA X (e :: es) (liftAr c j fr)) (hdb : (x == ("__debug__" : Str)) = false := by decide) (he : starEach (e :: es) X.env = (false, eval e X.env) :: starEach es X.env := by rfl) (hpl : (backTo pos (starEach es X.env)).any (·.1) = false := by rfl) :
    PE X (.Call (.Name x p) (e :: es) [] pos) (liftE c (eCallIo fs kk j (npOk np fr))) := by
  refine PEi (pe_callS G hr hg hm hk hb (fun σ => passAt M.tk σ) ha hdb he hpl) fun σ H Q ⟨F, ρ, ok, h⟩ => ?_
  have h := (En.bind (k := fun as ρ1 => if maskOk kk as = true then withL j ρ1 fun b ds => resE (fs.sem (argD (.list ds) as)) fun out => some (ρ1.set j (.own b out)) else none) h)
  have h := (En.bind (k := fun (as : List (Option D)) ρ1 => if as.length = np then some (Except.ok as, ρ1) else none) h)
  refine ⟨F, ρ, ok, h.imp fun as F1 H1 ρ1 s1 ok1 h1 vs ra => ?_⟩
  split at h1
  · rename_i hnp
    exact call_sp_io M.K M.mg hio hnp ok1 ra (h1.ret ok1)
  · exact h1.no
end
end Vm
end

section
set_option maxRecDepth 100000
set_option maxHeartbeats 4000000
/-! VmC: a def keeps what its plain function says. -/
namespace Vm
open PySem PySem.Spec PyProof.Rows L2

/-- the slots at the entry -/
def slots0 (n : Nat) (io : Option Nat) (ds : List D) : Ev := (List.range ds.length).zipWith (fun i d => if io = some i then Sl.own .io d else Sl.val d) ds ++ List.replicate (n - ds.length) .emp
def outOf (io : Option Nat) (ρ : Ev) : Option D :=
  match io with
  | none => some .none
  | some i => match ρ[i]? with
    | some (.own .io d) => some d
    | _ => none
def retD (ρ : Ev) (r : RV) : Option (Bool × D) :=
  match r with
  | .v d => some (false, d)
  | .f d => some (true, d)
  | .s i => match ρ[i]? with
    | some (.own .mine d) => some (true, d)
    | some (.val d) => some (false, d)
    | _ => none
def endR (io : Option Nat) (ρ : Ev) (r : Option (Except Xn (Bool × D))) : Option (Except Xn (Bool × D) × D) :=
  match r, outOf io ρ with
  | some x, some o => some (x, o)
  | _, _ => none
def endF (io : Option Nat) : Option (SOut × Ev) → Option (Except Xn (Bool × D) × D)
  | some (.nx, ρ) => endR io ρ (some (.ok (false, .none)))
  | some (.rt r, ρ) => endR io ρ ((retD ρ r).map .ok)
  | some (.ex x, ρ) => endR io ρ (some (.error x))
  | _ => none
/-- the plain function of a def: n slots, np of them parameters -/
def fnS (n np : Nat) (io : Option Nat) (body : SF) : FnS := ⟨io, fun ds => if ds.length = np then endF io (body (slots0 n io ds)) else none⟩

def ioAddr (io : Option Nat) (vs : List V) : List Addr :=
  match io with
  | none => []
  | some i => match vs[i]? with
    | some (.ref p) => [p]
    | _ => []
theorem mem_ioAddr {io : Option Nat} {vs : List V} {a : Addr} (h : a ∈ ioAddr io vs) : ∃ i, io = some i ∧ vs[i]? = some (V.ref a) := by
  unfold ioAddr at h
  cases io with
  | none => cases h
  | some i =>
    refine ⟨i, rfl, ?_⟩
    cases e : vs[i]? with
    | none => simp only [e] at h; cases h
    | some v =>
      simp only [e] at h
      cases v with
      | ref p => rw [List.mem_singleton] at h; rw [h]
      | _ => cases h
theorem ioAddr_mem {io : Option Nat} {vs : List V} {a : Addr} {i : Nat} (h : io = some i) (e : vs[i]? = some (V.ref a)) : a ∈ ioAddr io vs := by
  unfold ioAddr
  subst h
  simp only [e]
  exact List.mem_singleton.mpr rfl

theorem slots0_get {n : Nat} {io : Option Nat} {ds : List D} {i : Nat} {s : Sl} (h : (slots0 n io ds)[i]? = some s) : (∃ d, ds[i]? = some d ∧ s = if io = some i then Sl.own .io d else Sl.val d) ∨ (ds.length ≤ i ∧ s = .emp) := by
  unfold slots0 at h
  by_cases hi : i < ds.length
  · left
    rw [List.getElem?_append_left (by simp; omega)] at h
    rw [List.getElem?_zipWith, List.getElem?_range hi, List.getElem?_eq_getElem hi] at h
    refine ⟨ds[i], List.getElem?_eq_getElem hi, ?_⟩
    simp only [Option.map_some] at h
    exact (Option.some.inj h).symm
  · right
    refine ⟨by omega, ?_⟩
    rw [List.getElem?_append_right (by simp; omega)] at h
    rw [List.getElem?_replicate] at h
    split at h
    · exact (Option.some.inj h).symm
    · cases h

section
variable {P : Program} {w : World} {K : PySem.W.Frag} {mg : Str → Option Value} {base : Heap}
/-- what is fixed for a call -/
abbrev fcOf (K : PySem.W.Frag) (mg : Str → Option Value) (F H : Hp) (io : Option Nat) (vs : List V) (E : XK) : Fc :=
  { K := K, F0 := F, H0 := H, io := ioAddr io vs, lent := [], W := fun cls d _ H' => E cls d H', mg := mg }

theorem start_ok {F H : Hp} {io : Option Nat} {vs : List V} {ds : List D} {E : XK} {N : List Str} (sub : Same F H) (a : ArgsOk K F H io vs ds) (hN : vs.length ≤ N.length) : Ok (fcOf K mg F H io vs E) F (L2.start N vs) H (slots0 N.length io ds) := by
  have hl := a.len
  have sv : ∀ (i : Nat) v, vs[i]? = some v → (L2.start N vs)[i]? = some (some v) := fun i v e => by
    unfold L2.start
    have hi : i < vs.length := (List.getElem?_eq_some_iff.mp e).1
    rw [List.getElem?_append_left (by simpa using hi), List.getElem?_map, e]
    rfl
  refine ⟨sub, fun _ _ e _ => e, ?_, fun i s h => ?_, fun i j b b' d d' p h1 h2 h3 h4 => ?_, Same.refl _, fun q o e n => ?_, sub, fun q hq => ?_, fun q hq => ?_, fun q o e => ⟨o, e⟩, fun q hq => ?_⟩
  · unfold L2.start slots0
    simp only [List.length_append, List.length_map, List.length_replicate, List.length_zipWith, List.length_range]
    omega
  · rcases slots0_get h with ⟨d, e, rfl⟩ | ⟨_, rfl⟩
    · have hi : i < vs.length := by rw [hl]; exact (List.getElem?_eq_some_iff.mp e).1
      have ev := List.getElem?_eq_getElem hi
      by_cases hio : io = some i
      · rw [if_pos hio]
        obtain ⟨p, e1, n, ow⟩ := a.iov i _ d hio ev e
        refine ⟨p, by rw [sv i _ ev, e1], n, ow, ?_⟩
        rw [if_pos (show Md.io.his = true from rfl)]
        exact ioAddr_mem hio (by rw [ev, e1])
      · rw [if_neg hio]
        exact ⟨_, sv i _ ev, a.val i _ d hio ev e⟩
    · trivial
  · rcases slots0_get h1 with ⟨d1, e1, g1⟩ | ⟨_, g1⟩
    · rcases slots0_get h2 with ⟨d2, e2, g2⟩ | ⟨_, g2⟩
      · by_cases k1 : io = some i
        · by_cases k2 : io = some j
          · rw [k1] at k2; exact Option.some.inj k2
          · rw [if_neg k2] at g2; cases g2
        · rw [if_neg k1] at g1; cases g1
      · cases g2
    · cases g1
  · have q' : F q = some o := e
    have n' : F q = none := n
    rw [q'] at n'; cases n'
  · obtain ⟨i, h1, h2⟩ := mem_ioAddr hq
    have hi : i < ds.length := by rw [← hl]; exact (List.getElem?_eq_some_iff.mp h2).1
    obtain ⟨p, e1, n, _⟩ := a.iov i _ _ h1 h2 (List.getElem?_eq_getElem hi)
    cases e1
    exact n
  · obtain ⟨i, h1, h2⟩ := mem_ioAddr hq
    have hi : i < ds.length := by rw [← hl]; exact (List.getElem?_eq_some_iff.mp h2).1
    obtain ⟨p, e1, n, ow⟩ := a.iov i _ _ h1 h2 (List.getElem?_eq_getElem hi)
    cases e1
    obtain ⟨o, ho, _⟩ := ow.some
    exact ⟨o, ho⟩
  · cases hq

/-- at the end of a body -/
theorem aft_of {F H : Hp} {io : Option Nat} {vs : List V} {E : XK} {F' H' : Hp} {σ' : Sg} {ρ' : Ev} {out : D} (ok : Ok (fcOf K mg F H io vs E) F' σ' H' ρ') (e : outOf io ρ' = some out) : Aft K F H F' H' io vs out := by
  refine ⟨ok.old, ok.sub, fun q o h n => ok.keep q o h fun z => ?_, ok.there, ok.new, fun i p h1 h2 => ?_⟩
  · obtain ⟨i, h1, h2⟩ := mem_ioAddr z
    exact n i h1 h2
  · subst h1
    unfold outOf at e
    cases e1 : ρ'[i]? with
    | none => simp only [e1] at e; cases e
    | some s =>
      simp only [e1] at e
      cases s with
      | own b d =>
        cases b with
        | io =>
          cases e
          obtain ⟨q, a, n, w, r⟩ := ok.slot i _ e1
          rw [if_pos (show Md.io.his = true from rfl)] at r
          obtain ⟨i', k1, k2⟩ := mem_ioAddr (show q ∈ ioAddr (some i) vs from r)
          cases k1
          rw [h2] at k2
          cases k2
          exact w
        | _ => cases e
      | _ => cases e
theorem endR_of {io : Option Nat} {ρ : Ev} {x : Option (Except Xn (Bool × D))} {r : Except Xn (Bool × D)} {out : D} (h : endR io ρ x = some (r, out)) : x = some r ∧ outOf io ρ = some out := by
  unfold endR at h
  cases x with
  | none => cases h
  | some y =>
    cases e : outOf io ρ with
    | none => rw [e] at h; cases h
    | some o => rw [e] at h; cases h; exact ⟨rfl, rfl⟩
theorem retD_ok {c : Fc} {F : Hp} {σ : Sg} {H : Hp} {ρ : Ev} {r : RV} {v : V} {bd : Bool × D} (ok : Ok c F σ H ρ) (rr : RvOk c F σ H ρ v r) (e : retD ρ r = some bd) : ResOk c.K c.H0 F H v bd := by
  cases r with
  | v d => cases e; exact rr
  | f d =>
    cases e
    obtain ⟨p, e1, n, n0, _, w, _⟩ := rr
    exact ⟨p, e1, n0, n, w⟩
  | s i =>
    have rr : σ[i]? = some (some v) := rr
    unfold retD at e
    cases e1 : ρ[i]? with
    | none => simp only [e1] at e; cases e
    | some s =>
      simp only [e1] at e
      have sl := ok.slot i _ e1
      cases s with
      | emp => cases e
      | val d =>
        cases e
        obtain ⟨v', a, r⟩ := sl
        rw [rr] at a; cases a
        exact r
      | own b d =>
        cases b with
        | mine =>
          cases e
          obtain ⟨p, a, n, w, r⟩ := sl
          rw [rr] at a; cases a
          rw [if_neg (by decide)] at r
          exact ⟨p, rfl, r, n, w⟩
        | _ => cases e

/-- a def's body does what its plain function says: the promise -/
theorem fn_ok {x qual : Str} {st : Stmt} {f : Addr} {fd : FuncData} {N ps : List Str} {k np : Nat} {io : Option Nat} {body : SF} (G : L2.Fun K x qual st f fd) (S : FnScope N ps (defScope st)) (hnp : ps.length = np)
    (hb : ∀ (X : Cx) (c : Fc), Ms X c → X.prog = P → X.w = w → X.K = K → X.mg = mg → X.base = base → X.N = N → X.env.scope = defScope st → X.fn = (fun _ => true) → X.stack = X.env :: X.outer → X.env.frame = some X.env.locals → Room k X.A → PSs X (defBody st) (liftS c body)) :
    FnOk P w K mg base (L2.CX P w) (k + 1) f fd ps (spF K mg np (fnS N.length np io body)) := by
  have hpl : ps.length ≤ N.length := by have := congrArg List.length S.pre; rw [List.length_take] at this; omega
  refine G.okX S (fun vs H Q E h => h.1.trans hnp.symm) fun cdv A outer s H vs Q E hr h => ?_
  obtain ⟨hv, F, ds, sub, a, r, out, e, q⟩ := h
  have hds : ds.length = np := by rw [← a.len]; exact hv
  have e : (if ds.length = np then endF io (body (slots0 N.length io ds)) else none) = some (r, out) := e
  rw [if_pos hds] at e
  let X : Cx := cxOf (L2.CX P w) P w K mg base N qual (defScope st) f cdv A outer s H E
  let c : Fc := fcOf K mg F H io vs E
  have hu := hr.un
  have M : Ms X c := { K := rfl, mg := rfl, calm := rfl, nd := S.nd, tk := takes_of rfl rfl rfl rfl, hu := by show X.A.units + 100 < cLine; have : X.A.units + 16 * k + 200 < cLine := hu; omega, po := passes_of rfl }
  refine ⟨liftS c body, hb X c M rfl rfl rfl rfl rfl rfl rfl rfl rfl rfl hr, F, slots0 N.length io ds, start_ok sub a (by rw [hv, ← hnp]; exact hpl), ?_⟩
  cases eb : body (slots0 N.length io ds) with
  | none => rw [eb] at e; cases e
  | some y =>
    obtain ⟨o, ρ'⟩ := y
    rw [eb] at e
    refine ⟨o, ρ', rfl, ?_⟩
    cases o with
    | nx =>
      obtain ⟨e1, e2⟩ := endR_of (show endR io ρ' (some (.ok (false, .none))) = some (r, out) from e)
      cases e1
      exact fun σ' H' F' s' ok' => q .non F' H' (aft_of ok' e2) .non
    | bk => cases e
    | ct => cases e
    | rt rv =>
      obtain ⟨e1, e2⟩ := endR_of (show endR io ρ' ((retD ρ' rv).map .ok) = some (r, out) from e)
      cases er : retD ρ' rv with
      | none => rw [er] at e1; cases e1
      | some bd =>
        rw [er] at e1
        cases e1
        exact fun v σ' H' F' s' ok' rr => q v F' H' (aft_of ok' e2) (retD_ok ok' rr er)
    | ex x =>
      obtain ⟨e1, e2⟩ := endR_of (show endR io ρ' (some (.error x)) = some (r, out) from e)
      cases e1
      exact fun σ' H' F' u d s' ok' xo => q F' H' u d (aft_of ok' e2) xo
end
end Vm
end

section
set_option maxRecDepth 100000
set_option maxHeartbeats 4000000
/-! VmD: what is walked, of any kind; for over it; list comprehensions. -/
namespace Vm
open PySem PySem.Spec PyProof.Rows L2

abbrev Ln := Option (Nat × Md × D)
abbrev IF := Ev → Option (Except Xn (List D × Ln) × Ev)
def lentL (σ : Sg) : Ln → List Lt
  | none => []
  | some (j, b, d) => match σ[j]? with
    | some (some (.ref p)) => [⟨j, p, b.lend, d⟩]
    | _ => []
def lentE (l : Ln) (ρ : Ev) : Ev :=
  match l with
  | none => ρ
  | some (j, b, d) => ρ.set j (.own b.lend d)
def backE (l : Ln) (ρ : Ev) : Ev :=
  match l with
  | none => ρ
  | some (j, b, d) => ρ.set j (.own b d)
def LnOk (ρ : Ev) : Ln → Prop
  | none => True
  | some (j, b, d) => ρ[j]? = some (.own b d)
abbrev lentC (c : Fc) (σ : Sg) (l : Ln) : Fc := { c with lent := lentL σ l ++ c.lent }

theorem lent_cases {c : Fc} {F : Hp} {σ : Sg} {H : Hp} {ρ : Ev} {l : Ln} (ok : Ok c F σ H ρ) (hl : LnOk ρ l) : (l = none) ∨ ∃ j b d p, l = some (j, b, d) ∧ ρ[j]? = some (.own b d) ∧ σ[j]? = some (some (V.ref p)) ∧ lentL σ l = [⟨j, p, b.lend, d⟩] := by
  cases l with
  | none => exact .inl rfl
  | some x =>
    obtain ⟨j, b, d⟩ := x
    have hl : ρ[j]? = some (.own b d) := hl
    obtain ⟨p, a, _⟩ := ok.slot j _ hl
    refine .inr ⟨j, b, d, p, rfl, hl, a, ?_⟩
    unfold lentL
    simp only [a]
theorem Ok.lendO {c : Fc} {F : Hp} {σ : Sg} {H : Hp} {ρ : Ev} {l : Ln} (ok : Ok c F σ H ρ) (hl : LnOk ρ l) : Ok (lentC c σ l) F σ H (lentE l ρ) := by
  rcases lent_cases ok hl with rfl | ⟨j, b, d, p, rfl, h1, h2, h3⟩
  · exact ok
  · show Ok { c with lent := lentL σ (some (j, b, d)) ++ c.lent } F σ H _
    rw [h3]
    exact ok.lend h1 h2
theorem Ok.backO {c : Fc} {F F0 : Hp} {σ σ0 : Sg} {H H0 : Hp} {ρ ρ0 : Ev} {l : Ln} (ok0 : Ok c F0 σ0 H0 ρ0) (hl : LnOk ρ0 l) (ok : Ok (lentC c σ0 l) F σ H ρ) : Ok c F σ H (Vm.backE l ρ) := by
  rcases lent_cases ok0 hl with rfl | ⟨j, b, d, p, rfl, h1, h2, h3⟩
  · exact ok
  · have ok : Ok { c with lent := lentL σ0 (some (j, b, d)) ++ c.lent } F σ H ρ := ok
    rw [h3] at ok
    exact Ok.back ok0 h1 ok
theorem RvOk.backO {c : Fc} {F F0 : Hp} {σ σ0 : Sg} {H H0 : Hp} {ρ ρ0 : Ev} {l : Ln} {v : V} {rv : RV} (ok0 : Ok c F0 σ0 H0 ρ0) (hl : LnOk ρ0 l) (ok : Ok (lentC c σ0 l) F σ H ρ) (rr : RvOk c F σ H (Vm.backE l ρ) v rv) : RvOk (lentC c σ0 l) F σ H ρ v rv := by
  rcases lent_cases ok0 hl with rfl | ⟨j, b, d, p, rfl, h1, h2, h3⟩
  · exact rr
  · cases rv with
    | v _ => exact rr
    | s _ => exact rr
    | f e =>
      obtain ⟨q, e1, n, n0, nio, w, no⟩ := rr
      refine ⟨q, e1, n, n0, nio, w, fun i m e' hi => ?_⟩
      by_cases z : i = j
      · subst z
        have hl : i < ρ.length := (List.getElem?_eq_some_iff.mp hi).1
        exact no i b d (List.getElem?_set_self hl)
      · exact no i m e' (by show (ρ.set j _)[i]? = _; rw [List.getElem?_set_ne (Ne.symm z)]; exact hi)
theorem RvOk.backO' {c : Fc} {F F0 : Hp} {σ σ0 : Sg} {H H0 : Hp} {ρ ρ0 : Ev} {l : Ln} {v : V} {rv : RV} (ok0 : Ok c F0 σ0 H0 ρ0) (hl : LnOk ρ0 l) (ok : Ok (lentC c σ0 l) F σ H ρ) (rr : RvOk (lentC c σ0 l) F σ H ρ v rv) : RvOk c F σ H (Vm.backE l ρ) v rv := by
  rcases lent_cases ok0 hl with rfl | ⟨j, b, d, p, rfl, h1, h2, h3⟩
  · exact rr
  · cases rv with
    | v _ => exact rr
    | s _ => exact rr
    | f e =>
      obtain ⟨q, e1, n, n0, nio, w, no⟩ := rr
      have ok : Ok { c with lent := lentL σ0 (some (j, b, d)) ++ c.lent } F σ H ρ := ok
      rw [h3] at ok
      refine ⟨q, e1, n, n0, nio, w, fun i m e' hi => ?_⟩
      by_cases z : i = j
      · subst z
        obtain ⟨g1, g2, g3⟩ := ok.lnt ⟨i, p, b.lend, d⟩ List.mem_cons_self
        exact no i _ _ g2
      · have hi : (ρ.set j (Sl.own b d))[i]? = _ := hi
        rw [List.getElem?_set_ne (Ne.symm z)] at hi
        exact no i m e' hi

/-- what is walked, at any state -/
structure Src (K : PySem.W.Frag) (L : List Lt) (F1 : Hp) (J : It) (ds : List D) : Prop where
  len : ds.length ≤ sizeLine
  go : ∀ (c : Fc) F σ H ρ (i : Nat), c.K = K → (∀ q ∈ L, q ∈ c.lent) → Same F1 F → Ok c F σ H ρ → i < ds.length → J.go i H
  stop : ∀ (c : Fc) F σ H ρ, c.K = K → (∀ q ∈ L, q ∈ c.lent) → Same F1 F → Ok c F σ H ρ → J.stop ds.length H
  yld : ∀ (c : Fc) F σ H ρ (i : Nat) x H', c.K = K → (∀ q ∈ L, q ∈ c.lent) → Same F1 F → Ok c F σ H ρ → i < ds.length → J.yld i H x H' → ∃ F' d, Same F F' ∧ Ok c F' σ H' ρ ∧ ds[i]? = some d ∧ Rp c.K F' x d
def liftI (c : Fc) (fi : IF) : TI := fun σ H R => ∃ F ρ, Ok c F σ H ρ ∧ En c F σ (fi ρ) (fun x F1 H1 ρ1 => LnOk ρ1 x.2 → ∀ J, Src c.K (lentL σ x.2) F1 J x.1 → R J H1)
theorem PIi {X : Cx} {tg e : Expr} {t t' : TI} (h : PI X tg e t) (i : ∀ σ H Q, t' σ H Q → t σ H Q) : PI X tg e t' := ⟨fun pins s σ H R I q => h.run pins s σ H R I (i σ H R q)⟩

section
variable {X : Cx} {c : Fc} {pos : Pos} {tg iter e₀ : Expr} {fe fa fb : EF} {fi : IF} {g : GF} {f : SF} {body : List Stmt}

/-! ### for -/
def backO (l : Ln) (x : Option (SOut × Ev)) : Option (SOut × Ev) :=
  match x with
  | some (o, ρ) => some (o, backE l ρ)
  | none => none
def sForI (g : GF) (body : SF) (fi : IF) : SF := fun ρ => bS (fi ρ) fun x ρ1 => backO x.2 (forL g body x.1 (lentE x.2 ρ1))

theorem for_src {J : It} {De : Ends} {σ : Sg} {H : Hp} {F0 : Hp} {ρ0 : Ev} {L : List Lt} {ds : List D} (hL : ∀ q ∈ L, q ∈ c.lent) (S : Src c.K L F0 J ds) (ok : Ok c F0 σ H ρ0) (h : EnS c F0 (forL g f ds ρ0) De) :
    ForW J (liftG c g) (liftS c f) De σ H := by
  refine ⟨fun i m σ H => m = ds.length - i ∧ i ≤ ds.length ∧ ∃ F ρ, Same F0 F ∧ Ok c F σ H ρ ∧ EnS c F (forL g f (ds.drop i) ρ) De, ⟨ds.length, by simp, Nat.zero_le _, F0, ρ0, Same.refl _, ok, by simpa using h⟩, ?_⟩
  rintro i m σ H ⟨rfl, hi, F, ρ, sf, ok, h⟩
  by_cases hlt : i < ds.length
  · refine .inr ⟨S.go c F σ H ρ i rfl hL sf ok hlt, fun σ' H' => ∃ F' ρ', Same F F' ∧ Ok c F' σ' H' ρ' ∧ EnS c F' (forL g f (ds.drop (i + 1)) ρ') De, fun σ' H' ⟨F', ρ', s', ok', h'⟩ => ⟨ds.length - (i + 1), by omega, rfl, hlt, F', ρ', sf.trans s', ok', h'⟩, fun x H' y => ?_⟩
    obtain ⟨Fy, d, sy, oky, e, rp⟩ := S.yld c F σ H ρ i x H' rfl hL sf ok hlt y
    have hd : ds.drop i = d :: ds.drop (i + 1) := by
      obtain ⟨hl, e'⟩ := List.getElem?_eq_some_iff.mp e
      rw [List.drop_eq_getElem_cons hl, e']
    rw [hd] at h
    obtain ⟨ρ1, e1, h1⟩ := gD_of (show EnS c F (gD (g d ρ) fun ρ1 => turnS (f ρ1) (forL g f (ds.drop (i + 1)))) De from h)
    refine ⟨Fy, ρ, d, oky, rp, ρ1, e1, fun σ2 H2 F2 s2 ok2 => ?_⟩
    refine liftS_of ok2 ?_
    obtain ⟨r, ρ', e3, q⟩ := EnS.turn (EnS.mono (sy.trans s2) h1)
    refine ⟨r, ρ', e3, ?_⟩
    have sh : ∀ {σ' H' F'}, Same F2 F' → (∃ F'' ρ'', Same F2 F'' ∧ Ok c F'' σ' H' ρ'' ∧ EnS c F'' (forL g f (ds.drop (i + 1)) ρ'') De) → ∃ F'' ρ'', Same F F'' ∧ Ok c F'' σ' H' ρ'' ∧ EnS c F'' (forL g f (ds.drop (i + 1)) ρ'') De :=
      fun _ ⟨G, ρ4, s4, ok4, h4⟩ => ⟨G, ρ4, (sy.trans s2).trans s4, ok4, h4⟩
    cases r with
    | nx => exact fun σ' H' F' s' ok' => sh s' (q σ' H' F' s' ok')
    | ct => exact fun σ' H' F' s' ok' => sh s' (q σ' H' F' s' ok')
    | bk => exact q
    | rt rv => exact q
    | ex y => exact q
  · have e : i = ds.length := by omega
    subst e
    rw [List.drop_length] at h
    exact .inl ⟨S.stop c F σ H ρ rfl hL sf ok, EnS.next h ok⟩

theorem Mt.lendO {X : Cx} {c : Fc} (M : Mt X c) {σ : Sg} {l : Ln} : Mt X (lentC c σ l) := ⟨M.K, M.mg, M.calm, M.nd, M.tk, M.hu⟩
theorem Ms.lendO {X : Cx} {c : Fc} (M : Ms X c) {σ : Sg} {l : Ln} : Ms X (lentC c σ l) := { M.toMt.lendO with po := M.po }
theorem backO_of {De : Ends} {σ0 : Sg} {H0 F0 F : Hp} {ρ0 : Ev} {l : Ln} {x : Option (SOut × Ev)} (ok0 : Ok c F0 σ0 H0 ρ0) (h0 : LnOk ρ0 l) (h : EnS c F (backO l x) De) : EnS (lentC c σ0 l) F x De := by
  obtain ⟨r, ρ', e, q⟩ := h
  unfold backO at e
  cases x with
  | none => cases e
  | some y =>
    obtain ⟨o, ρ⟩ := y
    cases e
    refine ⟨r, ρ, rfl, ?_⟩
    cases r with
    | nx => exact fun σ' H' F' s' ok' => q σ' H' F' s' (Ok.backO ok0 h0 ok')
    | bk => exact fun σ' H' F' s' ok' => q σ' H' F' s' (Ok.backO ok0 h0 ok')
    | ct => exact fun σ' H' F' s' ok' => q σ' H' F' s' (Ok.backO ok0 h0 ok')
    | rt rv => exact fun v σ' H' F' s' ok' rr => q v σ' H' F' s' (Ok.backO ok0 h0 ok') (RvOk.backO' ok0 h0 ok' rr)
    | ex y => exact fun σ' H' F' u a s' ok' xo => q σ' H' F' u a s' (Ok.backO ok0 h0 ok') xo
theorem ls_forI (M : Ms X c) (he : PI X tg iter (liftI c fi)) (hg : ∀ c', Ms X c' → PG X tg (liftG c' g)) (hb : ∀ c', Ms X c' → PSs X body (liftS c' f)) (hs : ∀ x, foldedSetIterable iter X.env x = pure x := by intro _; rfl) :
    PS X (.For tg iter body [] pos) (liftS c (sForI g f fi)) := by
  refine ⟨fun pins s σ H De I hw => ?_⟩
  obtain ⟨F, ρ, ok, h⟩ := hw
  have h : EnS c F (bS (fi ρ) fun x ρ1 => backO x.2 (forL g f x.1 (lentE x.2 ρ1))) De := h
  have go : ∀ l : Ln, (∀ x ρ1, fi ρ = some (.ok x, ρ1) → x.2 = l) → wpAny (model X.prog X.w) X.A (exec (.For tg iter body [] pos) X.env) (SP X pins De) X.xe s := fun l hl => by
    refine (ps_for M.po M.calm he (hg (lentC c σ l) M.lendO) (hb (lentC c σ l) M.lendO) hs).run pins s σ H De I ?_
    obtain ⟨r, ρ1, e, q⟩ := EnS.bind (σ := σ) h
    refine ⟨F, ρ, ok, r, ρ1, e, ?_⟩
    cases r with
    | error x => exact q
    | ok x =>
      obtain rfl := hl x ρ1 e
      intro H1 F1 s1 ok1 ln J S
      exact for_src (fun q hq => List.mem_append_left _ hq) S (ok1.lendO ln) (backO_of ok1 ln (q H1 F1 s1 ok1))
  cases e : fi ρ with
  | none => exact go none fun x ρ1 z => by rw [e] at z; cases z
  | some x =>
    obtain ⟨r, ρ1⟩ := x
    cases r with
    | error x => exact go none fun x ρ1 z => by rw [e] at z; cases z
    | ok x => exact go x.2 fun y ρ2 z => by rw [e] at z; cases z; rfl

/-! ### sources -/
def itemsS : D → Option (List D)
  | .str x => if x.cps.size ≤ sizeLine then some (x.cps.toList.map fun k => .str ⟨#[k]⟩) else none
  | d => itemsD d
def sqO (ρ : Ev) : RV → Option (List D × Ln)
  | .s j => match lendL ρ[j]? with
    | some (b, ds) => some (ds, some (j, b, .list ds))
    | none => none
  | .v d => (itemsS d).map fun ds => (ds, none)
  | .f d => (itemsS d).map fun ds => (ds, none)
def optI (x : Option (List D × Ln)) (ρ : Ev) : Option (Except Xn (List D × Ln) × Ev) :=
  match x with
  | some y => some (.ok y, ρ)
  | none => none
/-- a list, a tuple -/
def iSq (fe : EF) : IF := fun ρ => bE (fe ρ) fun r ρ1 => optI (sqO ρ1 (hold r)) ρ1

theorem Src.list {K : PySem.W.Frag} {F1 : Hp} {a : Addr} {vs : List V} {ds : List D} (hq : Rd F1 a (.lst vs)) (rr : RpA K F1 vs ds) (hz : vs.length ≤ sizeLine) : Src K [] F1 (Itl K a) ds := by
  have hl := rr.length
  have sq : ∀ {c : Fc} {F σ H ρ}, Same F1 F → Ok c F σ H ρ → SqL K H a vs := fun sf ok => .inl (ok.sub.rd (sf.rd hq))
  refine ⟨by omega, fun c F σ H ρ i e _ sf ok hi => ⟨vs, vs[i], sq sf ok, by simp [hl, hi]⟩, fun c F σ H ρ e _ sf ok => ⟨vs, sq sf ok, by omega⟩, fun c F σ H ρ i x H' e _ sf ok hi y => ?_⟩
  obtain ⟨e1, y⟩ := y
  subst e1 e
  obtain ⟨d, e2, rp⟩ := rr.getV (y vs (sq sf ok))
  exact ⟨F, d, Same.refl _, ok, e2, rp.mono sf⟩
theorem Src.tuple {K : PySem.W.Frag} {F1 : Hp} {a : Addr} {vs : List V} {ds : List D} (hq : SqT K F1 a vs) (rr : RpA K F1 vs ds) (hz : vs.length ≤ sizeLine) : Src K [] F1 (Itt K a) ds := by
  have hl := rr.length
  have sq : ∀ {c : Fc} {F σ H ρ}, Same F1 F → Ok c F σ H ρ → SqT K H a vs := fun sf ok => ok.sub.sqt (sf.sqt hq)
  refine ⟨by omega, fun c F σ H ρ i e _ sf ok hi => ⟨vs, vs[i], sq sf ok, by simp [hl, hi]⟩, fun c F σ H ρ e _ sf ok => ⟨vs, sq sf ok, by omega⟩, fun c F σ H ρ i x H' e _ sf ok hi y => ?_⟩
  obtain ⟨e1, y⟩ := y
  subst e1 e
  obtain ⟨d, e2, rp⟩ := rr.getV (y vs (sq sf ok))
  exact ⟨F, d, Same.refl _, ok, e2, rp.mono sf⟩
/-- an object that is lent -/
theorem lent_at {L : List Lt} {q : Lt} (hq : q ∈ L) {F : Hp} {σ : Sg} {H : Hp} {ρ : Ev} (hL : ∀ q ∈ L, q ∈ c.lent) (ok : Ok c F σ H ρ) : Own c.K F H q.p q.d := by
  obtain ⟨g1, g2, g3⟩ := ok.lnt q (hL q hq)
  obtain ⟨p2, a2, n2, w2, _⟩ := ok.slot q.i _ g2
  rw [g3] at a2
  cases a2
  exact w2
theorem Src.slot {K : PySem.W.Frag} {F1 : Hp} {q : Lt} {L : List Lt} {ds : List D} (hq : q ∈ L) (hd : q.d = .list ds) (hz : ds.length ≤ sizeLine) : Src K L F1 (Itl K q.p) ds := by
  have at_ : ∀ {c : Fc} {F σ H ρ}, c.K = K → (∀ q ∈ L, q ∈ c.lent) → Ok c F σ H ρ → ∃ vs, H q.p = some (.lst vs) ∧ RpA K F vs ds := fun {c F σ H ρ} e hL ok => by
    have := lent_at hq hL ok
    rw [hd] at this
    obtain ⟨vs, e1, r⟩ := this
    exact ⟨vs, e1, e ▸ r⟩
  refine ⟨hz, fun c F σ H ρ i e hL sf ok hi => ?_, fun c F σ H ρ e hL sf ok => ?_, fun c F σ H ρ i x H' e hL sf ok hi y => ?_⟩
  · obtain ⟨vs, q1, q2⟩ := at_ e hL ok
    exact ⟨vs, vs[i]'(by rw [q2.length]; exact hi), .inl (.inl q1), by simp⟩
  · obtain ⟨vs, q1, q2⟩ := at_ e hL ok
    exact ⟨vs, .inl (.inl q1), by rw [q2.length]; exact Nat.le_refl _⟩
  · obtain ⟨vs, q1, q2⟩ := at_ e hL ok
    obtain ⟨e1, y⟩ := y
    subst e1
    obtain ⟨d, e3, rp⟩ := q2.getV (y vs (.inl (.inl q1)))
    exact ⟨F, d, Same.refl _, ok, e3, e ▸ rp⟩

theorem Src.str {K : PySem.W.Frag} {F1 : Hp} {x : Str} (hz : x.cps.size ≤ sizeLine) : Src K [] F1 (Its x) (x.cps.toList.map fun k => PyData.str ⟨#[k]⟩) := by
  refine ⟨by simpa using hz, fun c F σ H ρ i e _ sf ok hi => (by simpa using hi : i < x.cps.size), fun c F σ H ρ e _ sf ok => by simp [Its], fun c F σ H ρ i v H' e _ sf ok hi y => ?_⟩
  obtain ⟨e1, k, hk, rfl⟩ := y
  subst e1
  refine ⟨F, _, Same.refl _, ok, ?_, .str _⟩
  rw [List.getElem?_map, Array.getElem?_toList, hk]
  rfl
/-- .. their sizes known -/
def iSeqZ (K : PySem.W.Frag) (tl : TE) : TI := fun σ H R => tl σ H fun x H1 => (∃ a xs, x = .ref a ∧ SqL K H1 a xs ∧ (xs.length ≤ sizeLine → R (Itl K a) H1)) ∨ (∃ a xs, x = .ref a ∧ SqT K H1 a xs ∧ (xs.length ≤ sizeLine → R (Itt K a) H1)) ∨ (∃ y, x = .str y ∧ R (Its y) H1)
theorem pi_seqZ {X : Cx} {tg l : Expr} {tl : TE} (hl : PE X l tl) : PI X tg l (iSeqZ X.K tl) := by
  refine ⟨fun pins s σ H R I h => ?_⟩
  refine thn (hl.run pins s σ H _ I h) fun v s1 ⟨x, H1, I1, r1, q1⟩ => ?_
  rcases q1 with ⟨a, xs, e, hq, q⟩ | ⟨a, xs, e, hq, q⟩ | ⟨x, ex, q⟩
  rotate_left 2
  · subst ex
    obtain ⟨t, rfl⟩ := r1
    cases ha : x.cps.all (· < 128)
    · exact wpAny_pyIter_wide ha (pi_one (tk := s1.toks) I1 _ (turn_str _ x t "str_iterator" (.inr rfl)) ⟨_, Heap.get?_push_size _ rfl, rfl, rfl⟩ q)
    · exact wpAny_pyIter_ascii ha (pi_one (tk := s1.toks) I1 _ (turn_str _ x t "str_ascii_iterator" (.inl rfl)) ⟨_, Heap.get?_push_size _ rfl, rfl, rfl⟩ q)
  · subst e
    cases r1
    obtain ⟨its, rv, p, hz⟩ := I1.list hq
    refine wpAny_pyIter_list p.isList ?_
    refine ⟨s1.heap.objs.size, [s1.heap.objs.size], _, _, H1, rfl, I1.kept (t' := s1.toks) fun b o e => Heap.get?_push_of_some _ e, turn_list a _, ⟨_, Heap.get?_push_size _ rfl, rfl, rfl⟩, fun b hb => ?_, q hz⟩
    have e : b = s1.heap.objs.size := by simpa using hb
    subst e
    exact I1.fpOk (Nat.le_refl _) (I1.hok.fresh (Nat.le_refl _))
  · subst e
    cases r1
    obtain ⟨its, rv, p, hz⟩ := I1.tuple hq
    refine wpAny_pyIter_tuple (show s1.heap.IsTuple a its.toArray from p) ?_
    refine ⟨s1.heap.objs.size, [s1.heap.objs.size], _, _, H1, rfl, I1.kept (t' := s1.toks) fun b o e => Heap.get?_push_of_some _ e, turn_tuple a _, ⟨_, Heap.get?_push_size _ rfl, rfl, rfl⟩, fun b hb => ?_, q hz⟩
    have e : b = s1.heap.objs.size := by simpa using hb
    subst e
    exact I1.fpOk (Nat.le_refl _) (I1.hok.fresh (Nat.le_refl _))
theorem li_seq (M : Mt X c) (he : PE X iter (liftE c fe)) : PI X tg iter (liftI c (iSq fe)) := by
  refine PIi (pi_seqZ he) fun σ H R ⟨F, ρ, ok, h⟩ => ?_
  refine ⟨F, ρ, ok, (En.bind (k := fun r ρ1 => optI (sqO ρ1 (hold r)) ρ1) h).imp fun rv F1 H1 ρ1 s1 ok1 h1 v r1 => ?_⟩
  have dat : ∀ d, rd ρ1 rv = some d → (∀ i, rv ≠ .s i) → En c F1 σ (optI ((itemsS d).map fun ds => (ds, (none : Ln))) ρ1) (fun x F1 H1 ρ1 => LnOk ρ1 x.2 → ∀ J, Src c.K (lentL σ x.2) F1 J x.1 → R J H1) →
      (∃ a xs, v = .ref a ∧ SqL X.K H1 a xs ∧ (xs.length ≤ sizeLine → R (Itl X.K a) H1)) ∨ (∃ a xs, v = .ref a ∧ SqT X.K H1 a xs ∧ (xs.length ≤ sizeLine → R (Itt X.K a) H1)) ∨ (∃ y, v = .str y ∧ R (Its y) H1) := fun d e ns h2 => by
    obtain ⟨F2, s2, ok2, h3⟩ := r1.held ok1
    have rp : Rp c.K F2 v d := by
      cases rv with
      | v k => cases e; exact h3
      | f k => cases e; exact h3
      | s i => exact absurd rfl (ns i)
    have h2 := h2.mono s2
    cases rp with
    | @lst a vs ds hq rr =>
      exact .inl ⟨a, vs, rfl, .inl (ok2.sub.rd hq), fun hz => (h2.ret (ρ := ρ1) ok2) trivial _ (by rw [M.K]; exact Src.list hq rr hz)⟩
    | @tup a vs ds hq rr =>
      exact .inr (.inl ⟨a, vs, rfl, by rw [M.K]; exact ok2.sub.sqt hq, fun hz => (h2.ret (ρ := ρ1) ok2) trivial _ (by rw [M.K]; exact Src.tuple hq rr hz)⟩)
    | str x =>
      have h2 : En c F2 σ (optI ((if x.cps.size ≤ sizeLine then some (x.cps.toList.map fun k => PyData.str ⟨#[k]⟩) else none).map fun ds => (ds, (none : Ln))) ρ1) _ := h2
      by_cases hz : x.cps.size ≤ sizeLine
      · rw [if_pos hz] at h2
        exact .inr (.inr ⟨x, rfl, (h2.ret (ρ := ρ1) ok2) trivial _ (Src.str hz)⟩)
      · rw [if_neg hz] at h2
        exact h2.no
    | _ => exact h2.no
  cases rv with
  | v d => exact dat d rfl (fun i z => nomatch z) h1
  | f d => exact dat d rfl (fun i z => nomatch z) h1
  | s j =>
    have h1 : En c F1 σ (optI (match lendL ρ1[j]? with
      | some (b, ds) => some (ds, some (j, b, PyData.list ds))
      | none => none) ρ1) _ := h1
    cases el : lendL ρ1[j]? with
    | none => rw [el] at h1; exact h1.no
    | some bd =>
      obtain ⟨b, ds⟩ := bd
      rw [el] at h1
      have ej := lendL_of el
      obtain ⟨p, a, n, w, r⟩ := ok1.slot j _ ej
      have r1 : σ[j]? = some (some v) := r1
      rw [r1] at a
      cases a
      obtain ⟨vs, e1, rr⟩ := w
      refine .inl ⟨p, vs, rfl, .inl (.inl e1), fun hz => ?_⟩
      have h1 : En c F1 σ (some (Except.ok (ds, some (j, b, PyData.list ds)), ρ1)) _ := h1
      refine h1.ret ok1 ej _ ?_
      have e2 : lentL σ (some (j, b, PyData.list ds)) = [⟨j, p, b.lend, PyData.list ds⟩] := by
        unfold lentL
        simp only [r1]
      rw [M.K]
      show Src c.K (lentL σ (some (j, b, PyData.list ds))) F1 (Itl c.K p) ds
      rw [e2]
      exact Src.slot (q := ⟨j, p, b.lend, PyData.list ds⟩) List.mem_cons_self rfl (by rw [← rr.length]; exact hz)

/-! ### ranges -/
def rngI (x : Option (Int × Int)) (ρ : Ev) : Option (Except Xn (List D × Ln) × Ev) :=
  match x with
  | some (i, j) => if j - i ≤ (sizeLine : Nat) then some (.ok (rangeD i j, none), ρ) else none
  | none => none
def iR1 (fe : EF) : IF := fun ρ => bE (fe ρ) fun r ρ1 => rngI (rngOf (some (.int 0)) (rd ρ1 r)) ρ1
def iR2 (fa fb : EF) : IF := fun ρ => bE (fa ρ) fun ra ρ1 => bE (fb ρ1) fun rb ρ2 => rngI (rngOf (rd ρ2 (hold ra)) (rd ρ2 rb)) ρ2
theorem Src.range {K : PySem.W.Frag} {F1 : Hp} {lo hi : Int} (hz : hi - lo ≤ (sizeLine : Nat)) : Src K [] F1 (Itr lo (hi - lo).toNat) (rangeD lo hi) := by
  refine ⟨by rw [rangeD_len]; omega, fun c F σ H ρ i e _ sf ok hi => by rw [rangeD_len] at hi; exact hi, fun c F σ H ρ e _ sf ok => by rw [rangeD_len]; exact Nat.le_refl _, fun c F σ H ρ i x H' e _ sf ok hi y => ?_⟩
  rw [rangeD_len] at hi
  obtain ⟨e1, rfl⟩ := y
  subst e1
  exact ⟨F, _, Same.refl _, ok, rangeD_get hi, .int _⟩
theorem rngI_of {σ : Sg} {F : Hp} {ρ : Ev} {x : Option (Int × Int)} {R : List D × Ln → Hp → Hp → Ev → Prop} (h : En c F σ (rngI x ρ) R) : ∃ i j, x = some (i, j) ∧ j - i ≤ (sizeLine : Nat) ∧ En c F σ (some (.ok (rangeD i j, none), ρ)) R := by
  cases x with
  | none => exact h.no
  | some ij =>
    obtain ⟨i, j⟩ := ij
    have h : En c F σ (if j - i ≤ (sizeLine : Nat) then some (.ok (rangeD i j, none), ρ) else none) R := h
    split at h
    · rename_i hz
      exact ⟨i, j, rfl, hz, h⟩
    · exact h.no
theorem li_r1 (hi : ∀ ta, PA X [iter] ta → PI X tg e₀ (iRng1 ta)) (ha : PE X iter (liftE c fa)) (hs : starEach [iter] X.env = (false, eval iter X.env) :: starEach [] X.env := by rfl) : PI X tg e₀ (liftI c (iR1 fa)) := by
  refine PIi (hi _ (pa_cons ha pa_nil hs)) fun σ H R ⟨F, ρ, ok, h⟩ => ?_
  refine ⟨F, ρ, ok, (En.bind (k := fun r ρ1 => rngI (rngOf (some (.int 0)) (rd ρ1 r)) ρ1) h).imp fun rv F1 H1 ρ1 s1 ok1 h1 v r1 => ?_⟩
  obtain ⟨i, j, e, hz, h2⟩ := rngI_of h1
  obtain ⟨e1, e2, h3, h4⟩ := rngOf_of e
  cases e1
  cases (r1.vw ok1 e2).int
  obtain ⟨b1, b2⟩ := okR_of h4
  refine ⟨j, rfl, b1, b2, ?_⟩
  have := Src.range (K := c.K) (F1 := F1) hz
  rw [Int.sub_zero] at this
  exact h2.ret ok1 trivial _ this
theorem li_r2 {ea eb : Expr} (hi : ∀ ta, PA X [ea, eb] ta → PI X tg e₀ (iRng2 ta)) (ha : PE X ea (liftE c fa)) (hb : PE X eb (liftE c fb)) (hs : starEach [ea, eb] X.env = (false, eval ea X.env) :: starEach [eb] X.env := by rfl) (hs' : starEach [eb] X.env = (false, eval eb X.env) :: starEach [] X.env := by rfl) : PI X tg e₀ (liftI c (iR2 fa fb)) := by
  refine PIi (hi _ (pa_cons ha (pa_cons hb pa_nil hs') hs)) fun σ H R ⟨F, ρ, ok, h⟩ => ?_
  refine ⟨F, ρ, ok, (En.bind (k := fun ra ρ1 => bE (fb ρ1) fun rb ρ2 => rngI (rngOf (rd ρ2 (hold ra)) (rd ρ2 rb)) ρ2) h).imp fun rv F1 H1 ρ1 s1 ok1 h1 v r1 => ?_⟩
  obtain ⟨F2, s2, ok2, h2⟩ := r1.held ok1
  refine ⟨F2, ρ1, ok2, (En.bind (h1.mono s2)).imp fun rw' F3 H3 ρ3 s3 ok3 h3 w r3 => ?_⟩
  obtain ⟨i, j, e, hz, h5⟩ := rngI_of h3
  obtain ⟨e1, e2, g3, g4⟩ := rngOf_of e
  cases ((h2.mono s3).ok.vw ok3 e1).int
  cases (r3.vw ok3 e2).int
  obtain ⟨b1, b2⟩ := okR_of g3
  obtain ⟨b3, b4⟩ := okR_of g4
  exact ⟨i, j, rfl, ⟨b1, b2, b3, b4⟩, h5.ret ok3 trivial _ (Src.range hz)⟩
/-! ### the signs of a text -/
def iStrF (fe : EF) : IF := fun ρ => bE (fe ρ) fun r ρ1 => match rd ρ1 r with
  | some (.str x) => if x.cps.size ≤ sizeLine then some (.ok (x.cps.toList.map fun k => .str ⟨#[k]⟩, none), ρ1) else none
  | _ => none
theorem li_str (he : PE X iter (liftE c fe)) : PI X tg iter (liftI c (iStrF fe)) := by
  refine PIi (pi_str he) fun σ H R ⟨F, ρ, ok, h⟩ => ?_
  refine ⟨F, ρ, ok, (En.bind (k := fun r ρ1 => match rd ρ1 r with
    | some (.str x) => if x.cps.size ≤ sizeLine then some (Except.ok (x.cps.toList.map (fun k => PyData.str ⟨#[k]⟩), (none : Ln)), ρ1) else none
    | _ => none) h).imp fun rv F1 H1 ρ1 s1 ok1 h1 v r1 => ?_⟩
  cases e : rd ρ1 rv with
  | none => simp only [e] at h1; exact h1.no
  | some d =>
    cases d with
    | str x =>
      simp only [e] at h1
      split at h1
      · rename_i hz
        cases (r1.vw ok1 e).str
        exact ⟨x, rfl, h1.ret ok1 trivial _ (Src.str hz)⟩
      · exact h1.no
    | _ => simp only [e] at h1; exact h1.no
end
end Vm
end

section
set_option maxRecDepth 100000
set_option maxHeartbeats 4000000
/-! VmE: list comprehensions. -/
namespace Vm
open PySem PySem.Spec PyProof.Rows L2

def W0 : WX := fun _ _ _ _ => False
/-- a list under way at L -/
abbrev Fc.lay (c : Fc) (L : Addr) (acc : List V) : Fc := { c with H0 := upd c.H0 L (.lst acc), W := W0 }
def notOwn : Option Sl → Bool
  | some (.own _ _) => false
  | _ => true
def canWipe (vs : List Nat) (ρ : Ev) : Bool := vs.all fun v => notOwn ρ[v]?
def wipeE (ρ : Ev) : List Nat → Ev
  | [] => ρ
  | v :: vs => (wipeE ρ vs).set v .emp
def restE (ρ0 : Ev) (ρ : Ev) : List Nat → Ev
  | [] => ρ
  | v :: vs => (restE ρ0 ρ vs).set v (ρ0.getD v .emp)

theorem wipeE_len {ρ : Ev} : ∀ vs : List Nat, (wipeE ρ vs).length = ρ.length
  | [] => rfl
  | v :: vs => by unfold wipeE; rw [List.length_set, wipeE_len vs]
theorem restE_len {ρ0 ρ : Ev} : ∀ vs : List Nat, (restE ρ0 ρ vs).length = ρ.length
  | [] => rfl
  | v :: vs => by unfold restE; rw [List.length_set, restE_len vs]
theorem wipeE_in {ρ : Ev} {i : Nat} (hl : i < ρ.length) : ∀ {vs : List Nat}, i ∈ vs → (wipeE ρ vs)[i]? = some .emp
  | v :: vs, h => by
    unfold wipeE
    by_cases e : v = i
    · subst e; rw [List.getElem?_set_self (by rw [wipeE_len]; exact hl)]
    · rw [List.getElem?_set_ne e]
      rcases List.mem_cons.mp h with h | h
      · exact absurd h.symm e
      · exact wipeE_in hl h
theorem wipeE_out {ρ : Ev} {i : Nat} : ∀ {vs : List Nat}, i ∉ vs → (wipeE ρ vs)[i]? = ρ[i]?
  | [], _ => rfl
  | v :: vs, h => by
    unfold wipeE
    rw [List.getElem?_set_ne fun e => h (by rw [e]; exact List.mem_cons_self)]
    exact wipeE_out fun m => h (List.mem_cons_of_mem _ m)
theorem restE_in {ρ0 ρ : Ev} {i : Nat} (hl : i < ρ.length) : ∀ {vs : List Nat}, i ∈ vs → (restE ρ0 ρ vs)[i]? = some (ρ0.getD i .emp)
  | v :: vs, h => by
    unfold restE
    by_cases e : v = i
    · subst e; rw [List.getElem?_set_self (by rw [restE_len]; exact hl)]
    · rw [List.getElem?_set_ne e]
      rcases List.mem_cons.mp h with h | h
      · exact absurd h.symm e
      · exact restE_in hl h
theorem restE_out {ρ0 ρ : Ev} {i : Nat} : ∀ {vs : List Nat}, i ∉ vs → (restE ρ0 ρ vs)[i]? = ρ[i]?
  | [], _ => rfl
  | v :: vs, h => by
    unfold restE
    rw [List.getElem?_set_ne fun e => h (by rw [e]; exact List.mem_cons_self)]
    exact restE_out fun m => h (List.mem_cons_of_mem _ m)
theorem wipe_out' {σ : Sg} {i : Nat} : ∀ {vs : List Nat}, i ∉ vs → (wipe σ vs)[i]? = σ[i]?
  | [], _ => rfl
  | v :: vs, h => by
    unfold wipe
    rw [List.getElem?_set_ne fun e => h (by rw [e]; exact List.mem_cons_self)]
    exact wipe_out' fun m => h (List.mem_cons_of_mem _ m)
theorem wipe_in {σ : Sg} {i : Nat} (hl : i < σ.length) : ∀ {vs : List Nat}, i ∈ vs → (wipe σ vs)[i]? = some none
  | v :: vs, h => by
    unfold wipe
    by_cases e : v = i
    · subst e; rw [List.getElem?_set_self (by rw [wipe_length]; exact hl)]
    · rw [List.getElem?_set_ne e]
      rcases List.mem_cons.mp h with h | h
      · exact absurd h.symm e
      · exact wipe_in hl h
theorem wipe_set {σ : Sg} {i : Nat} {x : Option V} {vs : List Nat} (h : i ∈ vs) : wipe (σ.set i x) vs = wipe σ vs := by
  apply List.ext_getElem?
  intro j
  by_cases hj : j ∈ vs
  · by_cases hl : j < σ.length
    · rw [wipe_in (by rw [List.length_set]; exact hl) hj, wipe_in hl hj]
    · rw [List.getElem?_eq_none (by rw [wipe_length, List.length_set]; omega), List.getElem?_eq_none (by rw [wipe_length]; omega)]
  · rw [wipe_out' hj, wipe_out' hj, List.getElem?_set_ne fun e => hj (by rw [← e]; exact h)]
theorem canWipe_at {vs : List Nat} {ρ : Ev} (h : canWipe vs ρ = true) {i : Nat} (hi : i ∈ vs) : notOwn ρ[i]? = true := by
  unfold canWipe at h
  rw [List.all_eq_true] at h
  exact h i hi
theorem notOwn_no {b : Md} {d : D} (h : notOwn (some (.own b d)) = true) : False := by cases h

section
variable {c : Fc} {F : Hp} {σ : Sg} {H : Hp} {ρ : Ev}
theorem Ok.wipe {vs : List Nat} (ok : Ok c F σ H ρ) (h : canWipe vs ρ = true) : Ok c F (L2.wipe σ vs) H (wipeE ρ vs) := by
  have ne : ∀ {i : Nat} {b : Md} {d : D}, (wipeE ρ vs)[i]? = some (.own b d) → i ∉ vs ∧ ρ[i]? = some (.own b d) := fun {i b d} e => by
    by_cases hi : i ∈ vs
    · have hl : i < ρ.length := by
        have := (List.getElem?_eq_some_iff.mp e).1
        rw [wipeE_len] at this; exact this
      rw [wipeE_in hl hi] at e; cases e
    · exact ⟨hi, by rw [wipeE_out hi] at e; exact e⟩
  refine ⟨ok.sub, ok.keep, by rw [wipe_length, wipeE_len]; exact ok.len, fun i s hs => ?_, fun i j b b' d d' p h1 h2 h3 h4 => ?_, ok.old, ok.new, ok.sub0, ok.ioF, ok.io0, ok.there, fun q hq => ?_⟩
  · by_cases hi : i ∈ vs
    · have hl : i < ρ.length := by
        have := (List.getElem?_eq_some_iff.mp hs).1
        rw [wipeE_len] at this; exact this
      rw [wipeE_in hl hi] at hs
      cases hs
      trivial
    · rw [wipeE_out hi] at hs
      rw [wipe_out' hi]
      exact ok.slot i s hs
  · obtain ⟨n1, g1⟩ := ne h1
    obtain ⟨n2, g2⟩ := ne h2
    rw [wipe_out' n1] at h3
    rw [wipe_out' n2] at h4
    exact ok.inj i j b b' d d' p g1 g2 h3 h4
  · obtain ⟨g1, g2, g3⟩ := ok.lnt q hq
    have n : q.i ∉ vs := fun hi => notOwn_no (by have := canWipe_at h hi; rw [g2] at this; exact this)
    exact ⟨g1, by rw [wipeE_out n]; exact g2, by rw [wipe_out' n]; exact g3⟩
theorem Ok.rest {F0 : Hp} {H0 : Hp} {ρ0 : Ev} {vs : List Nat} (ok0 : Ok c F0 σ H0 ρ0) (h : canWipe vs ρ0 = true) (s : Same F0 F) (ok : Ok c F (L2.wipe σ vs) H ρ) : Ok c F σ H (restE ρ0 ρ vs) := by
  have hlen : ρ.length = ρ0.length := by
    have e1 := ok.len
    have e2 := ok0.len
    rw [wipe_length] at e1
    omega
  have at_ : ∀ {i : Nat} {x : Sl}, i ∈ vs → (restE ρ0 ρ vs)[i]? = some x → ρ0[i]? = some x := fun {i x} hi e => by
    have hl : i < ρ.length := by
      have := (List.getElem?_eq_some_iff.mp e).1
      rw [restE_len] at this; exact this
    rw [restE_in hl hi] at e
    cases e
    rw [List.getD_eq_getElem?_getD, List.getElem?_eq_getElem (by omega)]
    rfl
  have ne : ∀ {i : Nat} {b : Md} {d : D}, (restE ρ0 ρ vs)[i]? = some (.own b d) → i ∉ vs ∧ ρ[i]? = some (.own b d) := fun {i b d} e => by
    by_cases hi : i ∈ vs
    · have := canWipe_at h hi
      rw [at_ hi e] at this
      exact (notOwn_no this).elim
    · exact ⟨hi, by rw [restE_out hi] at e; exact e⟩
  refine ⟨ok.sub, ok.keep, by rw [restE_len, ← ok.len, wipe_length], fun i s' hs => ?_, fun i j b b' d d' p h1 h2 h3 h4 => ?_, ok.old, ok.new, ok.sub0, ok.ioF, ok.io0, ok.there, fun q hq => ?_⟩
  · by_cases hi : i ∈ vs
    · have e := at_ hi hs
      have := ok0.slot i s' e
      cases s' with
      | emp => trivial
      | val d => obtain ⟨v, a, r⟩ := this; exact ⟨v, a, r.mono s⟩
      | own b d =>
        have := canWipe_at h hi
        rw [e] at this
        exact (notOwn_no this).elim
    · rw [restE_out hi] at hs
      have := ok.slot i s' hs
      rw [wipe_out' hi] at this
      exact this
  · obtain ⟨n1, g1⟩ := ne h1
    obtain ⟨n2, g2⟩ := ne h2
    exact ok.inj i j b b' d d' p g1 g2 (by rw [wipe_out' n1]; exact h3) (by rw [wipe_out' n2]; exact h4)
  · obtain ⟨g1, g2, g3⟩ := ok.lnt q hq
    obtain ⟨g4, n⟩ := wipe_some g3
    exact ⟨g1, by rw [restE_out n]; exact g2, g4⟩

/-- what is known of the new list's place -/
structure AtL (c : Fc) (L : Addr) : Prop where
  h0 : c.H0 L = none
  f0 : c.F0 L = none
  io : L ∉ c.io
theorem Ok.atL (ok : Ok c F σ H ρ) {L : Addr} (n : H L = none) : AtL c L := by
  have h0 : c.H0 L = none := by
    cases e : c.H0 L with
    | none => rfl
    | some o => obtain ⟨o', e'⟩ := ok.there L o e; rw [n] at e'; cases e'
  refine ⟨h0, ?_, fun hi => ?_⟩
  · cases e : c.F0 L with
    | none => rfl
    | some o => rw [ok.sub0 L o e] at h0; cases h0
  · obtain ⟨o, e⟩ := ok.io0 L hi
    rw [h0] at e; cases e
theorem Ok.laid0 {L : Addr} (ok : Ok c F σ H ρ) (n : H L = none) : Ok (c.lay L []) F σ (upd H L (.lst [])) ρ := by
  have A := ok.atL n
  have ne : ∀ {p : Addr} {o : HO}, H p = some o → p ≠ L := fun {p o} e z => by rw [z, n] at e; cases e
  refine ⟨fun a o e => ?_, fun a o e hn => ?_, ok.len, fun i s hs => ?_, ok.inj, ok.old, fun a o e f => ?_, fun a o e => ?_, ok.ioF, fun a ha => ?_, fun a o e => ?_, ok.lnt⟩
  · have := ok.sub a o e
    rw [upd_ne (ne this)]; exact this
  · by_cases z : a = L
    · subst z
      have e : upd c.H0 a (.lst []) a = some o := e
      rw [upd_same] at e ⊢; exact e
    · have e : upd c.H0 L (.lst []) a = some o := e
      rw [upd_ne z] at e ⊢
      exact ok.keep a o e hn
  · have := ok.slot i s hs
    cases s with
    | emp => trivial
    | val d => exact this
    | own b d =>
      obtain ⟨p, a, f, w, r⟩ := this
      obtain ⟨o, ho, _⟩ := w.some
      refine ⟨p, a, f, w.mono (Same.refl _) (upd_ne (ne ho)), ?_⟩
      by_cases hb : b.his = true
      · rw [if_pos hb] at r ⊢; exact r
      · rw [if_neg hb] at r ⊢
        show upd c.H0 L _ p = none
        rw [upd_ne (ne ho)]; exact r
  · show upd c.H0 L _ a = none
    rw [upd_ne (ne (ok.sub a o e))]
    exact ok.new a o e f
  · show upd c.H0 L _ a = some o
    have := ok.sub0 a o e
    rw [upd_ne fun z => by rw [z, A.h0] at this; cases this]
    exact this
  · obtain ⟨o, e⟩ := ok.io0 a ha
    exact ⟨o, by show upd c.H0 L _ a = _; rw [upd_ne fun z => by rw [z, A.h0] at e; cases e]; exact e⟩
  · by_cases z : a = L
    · subst z; exact ⟨_, upd_same⟩
    · have e : upd c.H0 L (.lst []) a = some o := e
      rw [upd_ne z] at e ⊢
      exact ok.there a o e
theorem Ok.layAt {L : Addr} {acc : List V} (A : AtL c L) (ok : Ok (c.lay L acc) F σ H ρ) : H L = some (.lst acc) := ok.keep L _ upd_same A.io
theorem Ok.laidS {L : Addr} {acc acc' : List V} (A : AtL c L) (ok : Ok (c.lay L acc) F σ H ρ) : Ok (c.lay L acc') F σ (upd H L (.lst acc')) ρ := by
  have hL := ok.layAt A
  have fL : F L = none := by
    cases e : F L with
    | none => rfl
    | some o =>
      have := ok.new L o e A.f0
      have this : upd c.H0 L (.lst acc) L = none := this
      rw [upd_same] at this; cases this
  refine ⟨fun a o e => ?_, fun a o e hn => ?_, ok.len, fun i s hs => ?_, ok.inj, ok.old, fun a o e f => ?_, fun a o e => ?_, ok.ioF, fun a ha => ?_, fun a o e => ?_, ok.lnt⟩
  · rw [upd_ne fun z => by rw [z, fL] at e; cases e]; exact ok.sub a o e
  · by_cases z : a = L
    · subst z
      have e : upd c.H0 a (.lst acc') a = some o := e
      rw [upd_same] at e ⊢; exact e
    · have e : upd c.H0 L (.lst acc') a = some o := e
      rw [upd_ne z] at e ⊢
      exact ok.keep a o (by show upd c.H0 L (.lst acc) a = _; rw [upd_ne z]; exact e) hn
  · have := ok.slot i s hs
    cases s with
    | emp => trivial
    | val d => exact this
    | own b d =>
      obtain ⟨p, a, f, w, r⟩ := this
      have np : p ≠ L := fun z => by
        by_cases hb : b.his = true
        · rw [if_pos hb, z] at r; exact A.io r
        · rw [if_neg hb, z] at r
          have r : upd c.H0 L (.lst acc) L = none := r
          rw [upd_same] at r; cases r
      refine ⟨p, a, f, w.mono (Same.refl _) (upd_ne np), ?_⟩
      by_cases hb : b.his = true
      · rw [if_pos hb] at r ⊢; exact r
      · rw [if_neg hb] at r ⊢
        have r : upd c.H0 L (.lst acc) p = none := r
        show upd c.H0 L _ p = none
        rw [upd_ne np] at r ⊢; exact r
  · have nL : a ≠ L := fun z => by rw [z, fL] at e; cases e
    have := ok.new a o e f
    have this : upd c.H0 L (.lst acc) a = none := this
    show upd c.H0 L _ a = none
    rw [upd_ne nL] at this ⊢
    exact this
  · have := ok.sub0 a o e
    have this : upd c.H0 L (.lst acc) a = some o := this
    have nL : a ≠ L := fun z => by rw [z, A.f0] at e; cases e
    show upd c.H0 L _ a = some o
    rw [upd_ne nL] at this ⊢
    exact this
  · have nL : a ≠ L := fun z => A.io (z ▸ ha)
    obtain ⟨o, e⟩ := ok.io0 a ha
    have e : upd c.H0 L (.lst acc) a = some o := e
    rw [upd_ne nL] at e
    exact ⟨o, by show upd c.H0 L _ a = _; rw [upd_ne nL]; exact e⟩
  · by_cases z : a = L
    · subst z; exact ⟨_, upd_same⟩
    · have e : upd c.H0 L (.lst acc') a = some o := e
      rw [upd_ne z] at e
      obtain ⟨o', e'⟩ := ok.there a o (by show upd c.H0 L (.lst acc) a = _; rw [upd_ne z]; exact e)
      exact ⟨o', by rw [upd_ne z]; exact e'⟩
theorem Ok.unlay {L : Addr} {acc : List V} (A : AtL c L) (ok : Ok (c.lay L acc) F σ H ρ) : Ok c F σ H ρ ∧ ∀ ds, RpA c.K F acc ds → RvOk c F σ H ρ (.ref L) (.f (.list ds)) := by
  have hL := ok.layAt A
  have fL : F L = none := by
    cases e : F L with
    | none => rfl
    | some o =>
      have := ok.new L o e A.f0
      have this : upd c.H0 L (.lst acc) L = none := this
      rw [upd_same] at this; cases this
  have up : ∀ {a : Addr} {o : HO}, c.H0 a = some o → upd c.H0 L (.lst acc) a = some o := fun {a o} e => by
    rw [upd_ne fun z => by rw [z, A.h0] at e; cases e]; exact e
  have np : ∀ {i : Nat} {b : Md} {d : D}, ρ[i]? = some (.own b d) → σ[i]? ≠ some (some (V.ref L)) := fun {i b d} hs z => by
    obtain ⟨p, a, f, w, r⟩ := ok.slot i _ hs
    rw [z] at a
    cases a
    by_cases hb : b.his = true
    · rw [if_pos hb] at r; exact A.io r
    · rw [if_neg hb] at r
      have r : upd c.H0 L (.lst acc) L = none := r
      rw [upd_same] at r; cases r
  refine ⟨⟨ok.sub, fun a o e hn => ok.keep a o (up e) hn, ok.len, fun i s hs => ?_, ok.inj, ok.old, fun a o e f => ?_, fun a o e => ?_, ok.ioF, fun a ha => ?_, fun a o e => ok.there a o (up e), ok.lnt⟩, fun ds r => ⟨L, rfl, fL, A.h0, A.io, ⟨acc, hL, r⟩, fun i b e hs => np hs⟩⟩
  · have := ok.slot i s hs
    cases s with
    | emp => trivial
    | val d => exact this
    | own b d =>
      have n := np hs
      obtain ⟨p, a, f, w, r⟩ := this
      refine ⟨p, a, f, w, ?_⟩
      by_cases hb : b.his = true
      · rw [if_pos hb] at r ⊢; exact r
      · rw [if_neg hb] at r ⊢
        have r : upd c.H0 L (.lst acc) p = none := r
        rw [upd_ne fun z => n (by rw [z] at a; exact a)] at r
        exact r
  · have := ok.new a o e f
    have this : upd c.H0 L (.lst acc) a = none := this
    rw [upd_ne fun z => by rw [z, fL] at e; cases e] at this
    exact this
  · have := ok.sub0 a o e
    have this : upd c.H0 L (.lst acc) a = some o := this
    rw [upd_ne fun z => by rw [z, A.f0] at e; cases e] at this
    exact this
  · obtain ⟨o, e⟩ := ok.io0 a ha
    have e : upd c.H0 L (.lst acc) a = some o := e
    rw [upd_ne fun z => A.io (by rw [← z]; exact ha)] at e
    exact ⟨o, e⟩
end

/-! ### the plain function -/
def compL (vs : List Nat) (g : GF) (ft : TF) (fe : EF) : List D → List D → Ev → Option (List D × Ev)
  | [], acc, ρ => some (acc, ρ)
  | d :: r, acc, ρ => match g d ρ with
    | none => none
    | some ρ1 => match ft ρ1 with
      | some (.ok true, ρ2) => match fe ρ2 with
        | some (.ok rv, ρ3) => match stand rv ρ3 with
          | some (y, ρ4) => if canWipe vs ρ4 = true then compL vs g ft fe r (acc ++ [y]) (wipeE ρ4 vs) else none
          | none => none
        | _ => none
      | some (.ok false, ρ2) => if canWipe vs ρ2 = true then compL vs g ft fe r acc (wipeE ρ2 vs) else none
      | _ => none
def compE (l : Ln) (vs : List Nat) (ρ1 : Ev) (x : Option (List D × Ev)) : Option (Except Xn RV × Ev) :=
  match x with
  | some (ds, ρ2) => some (.ok (.f (.list ds)), restE ρ1 (backE l ρ2) vs)
  | none => none
def eLc (vs : List Nat) (g : GF) (ft : TF) (fe : EF) (fi : IF) : EF := fun ρ => bE (fi ρ) fun x ρ1 => if canWipe vs ρ1 = true then compE x.2 vs ρ1 (compL vs g ft fe x.1 [] (lentE x.2 (wipeE ρ1 vs))) else none
def tYesF : TF := fun ρ => some (.ok true, ρ)

/-! ### targets of a block -/
def liftGw (c : Fc) (vs : List Nat) (g : GF) : TG := fun v σ H Q => ∃ F ρ d, Ok c F σ H ρ ∧ Rp c.K F v d ∧ ∃ ρ', g d ρ = some ρ' ∧ ∀ σ' H' F', Same F F' → Ok c F' σ' H' ρ' → wipe σ' vs = wipe σ vs → Q σ' H'
def liftGws (c : Fc) (vs : List Nat) (g : GFs) : TGs := fun us σ H Q => ∃ F ρ ds, Ok c F σ H ρ ∧ RpA c.K F us ds ∧ ∃ ρ', g ds ρ = some ρ' ∧ ∀ σ' H' F', Same F F' → Ok c F' σ' H' ρ' → wipe σ' vs = wipe σ vs → Q σ' H'
section
variable {X : Cx} {c : Fc} {pos : Pos} {vs : List Nat}
theorem lgw_name {i : Nat} {x : Str} (M : Mt X c) (hm : i ∈ vs) (hi : X.N[i]? = some x) (hx : Loc X.env.scope x) (hf : X.fn x = true ∨ X.env.scope.names.lookup x = some .local) :
    PG X (.Name x pos) (liftGw c vs (gN i)) :=
  PGi (pg_name M.nd hi hx hf) fun v σ H Q ⟨F, ρ, d, ok, r, ρ', e, q⟩ => by
    obtain ⟨e1, e2⟩ := ifG_of e
    cases e2
    exact q _ _ F (Same.refl _) (ok.setV r e1) (wipe_set hm)
theorem lgws_nil : PGs X [] (liftGws c vs gNil) := PGsi pgs_nil fun us σ H Q ⟨F, ρ, ds, ok, r, ρ', e, q⟩ => by
  cases r with
  | nil =>
    cases e
    exact ⟨rfl, q _ _ F (Same.refl _) ok rfl⟩
  | cons _ _ => cases e
/-- any targets in a row -/
def gCons' (g : GF) (gs : GFs) : GFs := fun ds ρ => match ds with
  | d :: r => match g d ρ with
    | some ρ1 => gs r ρ1
    | none => none
  | _ => none
theorem lgws_cons {t : Expr} {es : List Expr} {g : GF} {gs : GFs} (h1 : PG X t (liftGw c vs g)) (h2 : PGs X es (liftGws c vs gs))
    (hs : (assignEach (t :: es) X.env).map (·.2) = assign t X.env :: (assignEach es X.env).map (·.2) := by rfl) : PGs X (t :: es) (liftGws c vs (gCons' g gs)) :=
  PGsi (pgs_cons h1 h2 hs) fun us σ H Q ⟨F, ρ, ds, ok, r, ρ', e, q⟩ => by
    cases r with
    | nil => cases e
    | @cons v us d ds a t =>
      have e : (match g d ρ with
        | some ρ1 => gs ds ρ1
        | none => none) = some ρ' := e
      cases e1 : g d ρ with
      | none => rw [e1] at e; cases e
      | some ρ1 =>
        rw [e1] at e
        exact ⟨_, _, rfl, F, ρ, d, ok, a, ρ1, e1, fun σ1 H1 F1 s1 ok1 w1 => ⟨F1, ρ1, ds, ok1, t.mono s1, ρ', e, fun σ' H' F' s' ok' w' => q σ' H' F' (s1.trans s') ok' (w'.trans w1)⟩⟩
theorem lgw_tup {es : List Expr} {k : Nat} {g : GFs} {n : Nat} (M : Mt X c) (h : PGs X es (liftGws c vs g)) (hn : (assignEach es X.env).length = n := by rfl) (hst : (assignEach es X.env).findIdx? (·.1) = none := by rfl) : PG X (.Tuple es k pos) (liftGw c vs (gTupD n g)) :=
  PGi (pg_tup M.calm h hn hst) fun v σ H Q ⟨F, ρ, d, ok, r, ρ', e, q⟩ => by
    cases r with
    | @tup a vs ds hq rr =>
      have e : (if ds.length = n then g ds ρ else none) = some ρ' := e
      split at e
      · rename_i hl
        exact ⟨a, vs, rfl, by rw [M.K]; exact ok.sub.sqt hq, by rw [rr.length]; exact hl, F, ρ, ds, ok, rr, ρ', e, q⟩
      · cases e
    | _ => cases e

/-! ### the rule -/
def Bc (c c' : Fc) : Prop := c'.K = c.K ∧ c'.mg = c.mg ∧ c'.W = W0
def xG (c : Fc) (vs : List Nat) (g : GF) : TG := fun v σ H Q => ∃ c', Bc c c' ∧ liftGw c' vs g v σ H Q
def xT (c : Fc) (ft : TF) : TT := fun σ H Q => ∃ c', Bc c c' ∧ liftT c' ft σ H Q
def xE (c : Fc) (fe : EF) : TE := fun σ H Q => ∃ c', Bc c c' ∧ liftE c' fe σ H Q
theorem Mt.blk (M : Mt X c) {c' : Fc} (b : Bc c c') {s : Shared} {H : Hp} {scope : Scope} {cenv : Env} {fp : List Addr} : Mt (X.blk s H scope cenv fp) c' :=
  ⟨M.K.trans b.1.symm, M.mg.trans b.2.1.symm, M.calm, M.nd, by rw [b.2.2]; exact takes0, M.hu⟩

theorem lc_wish {fi : IF} {g : GF} {ft : TF} {fe : EF} {σ : Sg} {H : Hp} {Q : VK} (h : liftE c (eLc vs g ft fe fi) σ H Q) : tLc (liftI c fi) (xG c vs g) (xT c ft) (xE c fe) vs σ H Q := by
  obtain ⟨F, ρ, ok, h⟩ := h
  refine ⟨F, ρ, ok, (En.bind (k := fun x ρ1 => if canWipe vs ρ1 = true then compE x.2 vs ρ1 (compL vs g ft fe x.1 [] (lentE x.2 (wipeE ρ1 vs))) else none) h).imp fun x F1 H1 ρ1 s1 ok1 h1 ln J S => ?_⟩
  intro L nL
  split at h1
  · rename_i cw
    obtain ⟨ds, l⟩ := x
    have ln : LnOk ρ1 l := ln
    have S : Src c.K (lentL σ l) F1 J ds := S
    have h1 : En c F1 σ (compE l vs ρ1 (compL vs g ft fe ds [] (lentE l (wipeE ρ1 vs)))) (RE c σ Q) := h1
    cases ec : compL vs g ft fe ds [] (lentE l (wipeE ρ1 vs)) with
    | none => rw [ec] at h1; exact h1.no
    | some y =>
      obtain ⟨dE, ρE⟩ := y
      rw [ec] at h1
      have A := ok1.atL nL
      have A' : AtL (lentC c σ l) L := ⟨A.h0, A.f0, A.io⟩
      -- the start
      have lnW : LnOk (wipeE ρ1 vs) l := by
        cases l with
        | none => trivial
        | some q =>
          obtain ⟨j, b, d⟩ := q
          have ln : ρ1[j]? = some (.own b d) := ln
          show (wipeE ρ1 vs)[j]? = _
          rw [wipeE_out fun hj => notOwn_no (by have := canWipe_at cw hj; rw [ln] at this; exact this)]
          exact ln
      have lL : lentL (wipe σ vs) l = lentL σ l := by
        cases l with
        | none => rfl
        | some q =>
          obtain ⟨j, b, d⟩ := q
          have ln : ρ1[j]? = some (.own b d) := ln
          unfold lentL
          simp only [wipe_out' (σ := σ) (i := j) (vs := vs) fun hj => notOwn_no (by have := canWipe_at cw hj; rw [ln] at this; exact this)]
      have okW := ok1.wipe cw
      have okS : Ok (lentC c σ l) F1 (wipe σ vs) H1 (lentE l (wipeE ρ1 vs)) := by
        have := okW.lendO lnW
        unfold lentC at this ⊢
        rw [lL] at this
        exact this
      refine ⟨fun i m H => m = ds.length - i ∧ i ≤ ds.length ∧ ∃ acc da F ρ, Same F1 F ∧ Ok ((lentC c σ l).lay L acc) F (wipe σ vs) H ρ ∧ RpA c.K F acc da ∧ acc.length ≤ i ∧ compL vs g ft fe (ds.drop i) da ρ = some (dE, ρE),
        ⟨ds.length, by simp, Nat.zero_le _, [], [], F1, _, Same.refl _, okS.laid0 nL, .nil, Nat.le_refl _, by simpa using ec⟩, ?_⟩
      rintro i m H2 ⟨rfl, hi, acc, da, F2, ρ2, sf, ok2, ra, hal, e2⟩
      have hLs : ∀ q ∈ lentL σ l, q ∈ ((lentC c σ l).lay L acc).lent := fun q hq => List.mem_append_left _ hq
      have bc : Bc c ((lentC c σ l).lay L acc) := ⟨rfl, rfl, rfl⟩
      by_cases hlt : i < ds.length
      · refine .inr ⟨S.go ((lentC c σ l).lay L acc) F2 (wipe σ vs) H2 ρ2 i rfl hLs sf ok2 hlt, fun H' => ∃ acc da F ρ, Same F1 F ∧ Ok ((lentC c σ l).lay L acc) F (wipe σ vs) H' ρ ∧ RpA c.K F acc da ∧ acc.length ≤ i + 1 ∧ compL vs g ft fe (ds.drop (i + 1)) da ρ = some (dE, ρE), fun H' z => ⟨ds.length - (i + 1), by omega, rfl, hlt, z⟩, fun x H' y => ?_⟩
        obtain ⟨F3, d, s3, ok3, ed, rp⟩ := S.yld ((lentC c σ l).lay L acc) F2 (wipe σ vs) H2 ρ2 i x H' rfl hLs sf ok2 hlt y
        have hd : ds.drop i = d :: ds.drop (i + 1) := by
          obtain ⟨hl, e'⟩ := List.getElem?_eq_some_iff.mp ed
          rw [List.drop_eq_getElem_cons hl, e']
        rw [hd] at e2
        unfold compL at e2
        cases eg : g d ρ2 with
        | none => simp only [eg] at e2; cases e2
        | some ρ3 =>
          simp only [eg] at e2
          refine ⟨(lentC c σ l).lay L acc, bc, F3, ρ2, d, ok3, rp, ρ3, eg, fun σ2 H3 F4 s4 ok4 hw => ?_⟩
          have hw2 : wipe σ2 vs = wipe σ vs := by
            rw [hw]
            apply List.ext_getElem?
            intro j
            by_cases hj : j ∈ vs
            · by_cases hl : j < σ.length
              · rw [wipe_in (by rw [wipe_length]; exact hl) hj, wipe_in hl hj]
              · rw [List.getElem?_eq_none (by rw [wipe_length, wipe_length]; omega), List.getElem?_eq_none (by rw [wipe_length]; omega)]
            · rw [wipe_out' hj]
          refine ⟨by rw [hw2], ?_⟩
          cases et : ft ρ3 with
          | none => simp only [et] at e2; cases e2
          | some z =>
            obtain ⟨tr, ρ4⟩ := z
            refine ⟨(lentC c σ l).lay L acc, bc, F4, ρ3, ok4, tr, ρ4, et, ?_⟩
            cases tr with
            | error _ => simp only [et] at e2; cases e2
            | ok b =>
              intro H4 F5 s5 ok5
              cases b with
              | false =>
                simp only [et] at e2
                split at e2
                · rename_i cw2
                  simp only [Bool.false_eq_true, if_false]
                  refine ⟨acc, da, F5, wipeE ρ4 vs, (sf.trans (s3.trans s4)).trans s5, ?_, ra.mono ((s3.trans s4).trans s5), Nat.le_succ_of_le hal, e2⟩
                  have := ok5.wipe cw2
                  rw [hw2] at this
                  exact this
                · cases e2
              | true =>
                simp only [et] at e2
                simp only [if_true]
                cases ee : fe ρ4 with
                | none => simp only [ee] at e2; cases e2
                | some z =>
                  obtain ⟨er, ρ5⟩ := z
                  refine ⟨(lentC c σ l).lay L acc, bc, F5, ρ4, ok5, er, ρ5, ee, ?_⟩
                  cases er with
                  | error _ => simp only [ee] at e2; cases e2
                  | ok rv =>
                    intro H5 F6 s6 ok6 v rr
                    simp only [ee] at e2
                    cases es : stand rv ρ5 with
                    | none => simp only [es] at e2; cases e2
                    | some z =>
                      obtain ⟨yd, ρ6⟩ := z
                      simp only [es] at e2
                      split at e2
                      · rename_i cw3
                        obtain ⟨F7, s7, ok7, rp7⟩ := rr.stand ok6 es
                        have sAll : Same F2 F7 := (((s3.trans s4).trans s5).trans s6).trans s7
                        refine ⟨acc, ok7.layAt A', by have := S.len; omega, acc ++ [v], da ++ [yd], F7, wipeE ρ6 vs, sf.trans sAll, ?_, (ra.mono sAll).append (.cons rp7 .nil), by simp; omega, e2⟩
                        have := (ok7.laidS (acc' := acc ++ [v]) A').wipe cw3
                        rw [hw2] at this
                        exact this
                      · cases e2
      · have e : i = ds.length := by omega
        subst e
        rw [List.drop_length] at e2
        unfold compL at e2
        cases e2
        refine .inl ⟨S.stop ((lentC c σ l).lay L acc) F2 (wipe σ vs) H2 ρE rfl hLs sf ok2, ?_⟩
        obtain ⟨ok3, rv⟩ := ok2.unlay A'
        have rv := rv dE ra
        -- the list is given back
        have ok3' : Ok (lentC c (wipe σ vs) l) F2 (wipe σ vs) H2 ρE := by
          unfold lentC at ok3 ⊢
          rw [lL]; exact ok3
        have ok4 := Ok.backO okW lnW ok3'
        have rv4 : RvOk c F2 (wipe σ vs) H2 (Vm.backE l ρE) (.ref L) (.f (.list dE)) := RvOk.backO' okW lnW ok3' rv
        have ok5 := Ok.rest ok1 cw sf ok4
        have h1 : En c F1 σ (some (Except.ok (RV.f (.list dE)), restE ρ1 (Vm.backE l ρE) vs)) (RE c σ Q) := h1
        refine (h1.mono sf).ret ok5 _ ?_
        obtain ⟨p, e1, n, n0, nio, w, no⟩ := rv4
        refine ⟨p, e1, n, n0, nio, w, fun i b e hs z => ?_⟩
        by_cases hi : i ∈ vs
        · have hl : i < ρE.length := by
            have := (List.getElem?_eq_some_iff.mp hs).1
            rw [restE_len] at this
            have e2 := ok4.len
            have e3 := ok3.len
            omega
          rw [restE_in (by have e2 := ok4.len; have e3 := ok3.len; omega) hi] at hs
          have e1 : ρ1[i]? = some (.own b e) := by
            rw [List.getD_eq_getElem?_getD] at hs
            cases e9 : ρ1[i]? with
            | none => rw [e9] at hs; cases hs
            | some q => rw [e9] at hs; exact hs
          have := canWipe_at cw hi
          rw [e1] at this
          exact notOwn_no this
        · rw [restE_out hi] at hs
          exact no i b e hs (by rw [wipe_out' hi]; exact z)
  · exact h1.no
end
end Vm
end

section
set_option maxRecDepth 100000
set_option maxHeartbeats 4000000
/-! VmF: comprehensions as expressions; all any sum max min of lists; isinstance; slices. -/
namespace Vm
open PySem PySem.Spec PyProof.Rows L2

/-- a block of X -/
def Blk (X : Cx) (scope : Scope) (X' : Cx) : Prop := ∃ (s : Shared) (H : Hp) (C : Addr) (cl : List (Str × Addr)) (fp : List Addr), X' = X.blk s H scope (compEnvC scope cl C X.env) fp
section
variable {X : Cx} {c : Fc} {pos : Pos} {vs : List Nat} {elt tg iter : Expr} {ifs : List Expr} {scope : Scope} {own : List (Str × Nat)} {fi : IF} {g : GF} {ft : TF} {fe : EF}
theorem PGx {X' : Cx} {t : Expr} (h : ∀ c', Bc c c' → PG X' t (liftGw c' vs g)) : PG X' t (xG c vs g) := ⟨fun pins s σ H v u Q I r ⟨c', b, q⟩ => (h c' b).run pins s σ H v u Q I r q⟩
theorem PTsx {X' : Cx} {t : List Expr} (h : ∀ c', Bc c c' → PTs X' t (liftT c' ft)) : PTs X' t (xT c ft) := ⟨fun pins s σ H Q I ⟨c', b, q⟩ => (h c' b).run pins s σ H Q I q⟩
theorem PEx {X' : Cx} {e : Expr} (h : ∀ c', Bc c c' → PE X' e (liftE c' fe)) : PE X' e (xE c fe) := ⟨fun pins s σ H Q I ⟨c', b, q⟩ => (h c' b).run pins s σ H Q I q⟩
theorem lts_nil : PTs X [] (liftT c tYesF) := ⟨fun pins s σ H Q I ⟨F, ρ, ok, h⟩ => pts_nil.run pins s σ H Q I (h.ret (a := true) ok)⟩
theorem lts_one {e : Expr} (h : PT X e (liftT c ft)) : PTs X [e] (liftT c ft) := pts_one h
theorem le_lc (M : Mt X c) (hi : PI X tg iter (liftI c fi)) (bk : BlkOk X.N X.env.scope scope own) (hv : own.map (·.2) = vs) (hg : ∀ X' c', Blk X scope X' → Mt X' c' → PG X' tg (liftGw c' vs g)) (ht : ∀ X' c', Blk X scope X' → Mt X' c' → PTs X' ifs (liftT c' ft))
    (he : ∀ X' c', Blk X scope X' → Mt X' c' → PE X' elt (liftE c' fe)) (hs : ∀ x, foldedSetIterable iter X.env x = pure x := by intro _; rfl) : PE X (.ListComp elt [⟨tg, iter, ifs, 0⟩] scope pos) (liftE c (eLc vs g ft fe fi)) :=
  PEi (pe_lc M.calm M.nd hi bk (fun s H C cl fp => PGx fun c' b => hg _ c' ⟨s, H, C, cl, fp, rfl⟩ (M.blk b)) (fun s H C cl fp => PTsx fun c' b => ht _ c' ⟨s, H, C, cl, fp, rfl⟩ (M.blk b)) (fun s H C cl fp => PEx fun c' b => he _ c' ⟨s, H, C, cl, fp, rfl⟩ (M.blk b)) hs)
    fun σ H Q h => by rw [hv]; exact lc_wish h
theorem ls_setLc {i : Nat} {y : Str} {py spos : Pos} (M : Mt X c) (hy : X.N[i]? = some y) (hyl : X.env.scope.names.lookup y = some .local) (hsw : swapsWith (.ListComp elt [⟨tg, iter, ifs, 0⟩] scope pos) (some (.Name y py)) spos.line X.env = pure true)
    (hi : PI X tg iter (liftI c fi)) (bk : BlkOk X.N X.env.scope scope own) (hv : own.map (·.2) = vs) (hg : ∀ X' c', Blk X scope X' → Mt X' c' → PG X' tg (liftGw c' vs g)) (ht : ∀ X' c', Blk X scope X' → Mt X' c' → PTs X' ifs (liftT c' ft))
    (he : ∀ X' c', Blk X scope X' → Mt X' c' → PE X' elt (liftE c' fe)) (hs : ∀ x, foldedSetIterable iter X.env x = pure x := by intro _; rfl) : PS X (.Assign [.Name y py] (.ListComp elt [⟨tg, iter, ifs, 0⟩] scope pos) spos) (liftS c (sSet i (eLc vs g ft fe fi))) :=
  PSi (ps_setLc M.calm M.nd hy hyl hsw hi bk (fun s H C cl fp => PGx fun c' b => hg _ c' ⟨s, H, C, cl, fp, rfl⟩ (M.blk b)) (fun s H C cl fp => PTsx fun c' b => ht _ c' ⟨s, H, C, cl, fp, rfl⟩ (M.blk b)) (fun s H C cl fp => PEx fun c' b => he _ c' ⟨s, H, C, cl, fp, rfl⟩ (M.blk b)) hs)
    fun De σ H ⟨F, ρ, ok, h⟩ => by
      rw [hv]
      exact lc_wish (ls_then ok h fun F1 H1 ρ1 v rv ok1 r h1 => put_of h1 ok1 r)
end

/-! ### built-ins of lists -/
def intsOf : List D → Option (List Int)
  | [] => some []
  | .int i :: r => (intsOf r).map (i :: ·)
  | _ :: _ => none
def boolsOf : List D → Option (List Bool)
  | [] => some []
  | .bool i :: r => (boolsOf r).map (i :: ·)
  | _ :: _ => none
theorem intsOf_eq : ∀ {ds : List D} {ns : List Int}, intsOf ds = some ns → ds = ns.map .int
  | [], _, h => by cases h; rfl
  | d :: r, ns, h => by
    cases d with
    | int i =>
      have h : (intsOf r).map (i :: ·) = some ns := h
      cases e : intsOf r with
      | none => rw [e] at h; cases h
      | some m =>
        rw [e] at h
        cases h
        rw [intsOf_eq e]; rfl
    | _ => cases h
theorem boolsOf_eq : ∀ {ds : List D} {ns : List Bool}, boolsOf ds = some ns → ds = ns.map .bool
  | [], _, h => by cases h; rfl
  | d :: r, ns, h => by
    cases d with
    | bool i =>
      have h : (boolsOf r).map (i :: ·) = some ns := h
      cases e : boolsOf r with
      | none => rw [e] at h; cases h
      | some m =>
        rw [e] at h
        cases h
        rw [boolsOf_eq e]; rfl
    | _ => cases h
theorem RpA.bools {K : PySem.W.Frag} {F : Hp} : ∀ {ns : List Bool} {vs : List V}, RpA K F vs (ns.map .bool) → vs = ns.map V.bl
  | [], _, .nil => rfl
  | n :: r, _, .cons a t => by
    cases a
    rw [RpA.bools t]; rfl
section
variable {X : Cx} {c : Fc}
def unAll : UOp
  | .list ds => (boolsOf ds).map fun bs => .v (.bool (bs.all id))
  | _ => none
def unAny : UOp
  | .list ds => (boolsOf ds).map fun bs => .v (.bool (bs.any id))
  | _ => none
def unSum : UOp
  | .list ds => (intsOf ds).map fun bs => .v (.int bs.sum)
  | _ => none
def unMax : UOp
  | .list ds => match intsOf ds with
    | some (n :: r) => some (.v (.int (r.foldl max n)))
    | _ => none
  | _ => none
def unMin : UOp
  | .list ds => match intsOf ds with
    | some (n :: r) => some (.v (.int (r.foldl min n)))
    | _ => none
  | _ => none
theorem foldl_max : ∀ (r : List Int) (n : Int), (r.foldl max n ∈ n :: r) ∧ ∀ y ∈ n :: r, y ≤ r.foldl max n
  | [], n => by simp
  | x :: r, n => by
    obtain ⟨h1, h2⟩ := foldl_max r (max n x)
    show List.foldl max (max n x) r ∈ n :: x :: r ∧ ∀ y ∈ n :: x :: r, y ≤ List.foldl max (max n x) r
    have h3 := h2 (max n x) List.mem_cons_self
    refine ⟨?_, fun y hy => ?_⟩
    · rcases List.mem_cons.mp h1 with e | e
      · rw [e]
        by_cases hx : n ≤ x
        · rw [Int.max_eq_right hx]; simp
        · rw [Int.max_eq_left (by omega)]; simp
      · simp [e]
    · rcases List.mem_cons.mp hy with rfl | hy
      · omega
      · rcases List.mem_cons.mp hy with rfl | hy
        · omega
        · exact h2 y (List.mem_cons_of_mem _ hy)
theorem foldl_min : ∀ (r : List Int) (n : Int), (r.foldl min n ∈ n :: r) ∧ ∀ y ∈ n :: r, r.foldl min n ≤ y
  | [], n => by simp
  | x :: r, n => by
    obtain ⟨h1, h2⟩ := foldl_min r (min n x)
    show List.foldl min (min n x) r ∈ n :: x :: r ∧ ∀ y ∈ n :: x :: r, List.foldl min (min n x) r ≤ y
    have h3 := h2 (min n x) List.mem_cons_self
    refine ⟨?_, fun y hy => ?_⟩
    · rcases List.mem_cons.mp h1 with e | e
      · rw [e]
        by_cases hx : n ≤ x
        · rw [Int.min_eq_left hx]; simp
        · rw [Int.min_eq_right (by omega)]; simp
      · simp [e]
    · rcases List.mem_cons.mp hy with rfl | hy
      · omega
      · rcases List.mem_cons.mp hy with rfl | hy
        · omega
        · exact h2 y (List.mem_cons_of_mem _ hy)
theorem all1 (M : Mt X c) : CallR X (.builtin "all") (rC1 c unAll) := by
  rintro pins s σ H xs us Q I r ⟨x, rfl, F, σ', ρ, a, rv, ok, wa, e, q⟩
  cases a with
  | list ds =>
    have e : (boolsOf ds).map (fun bs => RV.v (.bool (bs.all id))) = some rv := e
    cases e1 : boolsOf ds with
    | none => rw [e1] at e; cases e
    | some bs =>
      rw [e1] at e
      cases e
      obtain ⟨p, vs, rfl, h, rr⟩ := wa.list ok.sub
      rw [boolsOf_eq e1] at rr
      exact cr_all M.calm pins s σ H _ us Q I r ⟨p, bs, rfl, by rw [← rr.bools]; exact .inl h, q.val ok (.bl _)⟩
  | _ => cases e
theorem any1 (M : Mt X c) : CallR X (.builtin "any") (rC1 c unAny) := by
  rintro pins s σ H xs us Q I r ⟨x, rfl, F, σ', ρ, a, rv, ok, wa, e, q⟩
  cases a with
  | list ds =>
    have e : (boolsOf ds).map (fun bs => RV.v (.bool (bs.any id))) = some rv := e
    cases e1 : boolsOf ds with
    | none => rw [e1] at e; cases e
    | some bs =>
      rw [e1] at e
      cases e
      obtain ⟨p, vs, rfl, h, rr⟩ := wa.list ok.sub
      rw [boolsOf_eq e1] at rr
      exact cr_any M.calm pins s σ H _ us Q I r ⟨p, bs, rfl, by rw [← rr.bools]; exact .inl h, q.val ok (.bl _)⟩
  | _ => cases e
theorem sum1 (M : Mt X c) : CallR X (.builtin "sum") (rC1 c unSum) := by
  rintro pins s σ H xs us Q I r ⟨x, rfl, F, σ', ρ, a, rv, ok, wa, e, q⟩
  cases a with
  | list ds =>
    have e : (intsOf ds).map (fun bs => RV.v (.int bs.sum)) = some rv := e
    cases e1 : intsOf ds with
    | none => rw [e1] at e; cases e
    | some bs =>
      rw [e1] at e
      cases e
      obtain ⟨p, vs, rfl, h, rr⟩ := wa.list ok.sub
      rw [intsOf_eq e1] at rr
      exact cr_sum M.calm pins s σ H _ us Q I r ⟨p, bs, rfl, by rw [← rr.ints]; exact .inl h, q.val ok (.int _)⟩
  | _ => cases e
theorem max1 (M : Mt X c) : CallR X (.builtin "max") (rC1 c unMax) := by
  rintro pins s σ H xs us Q I r ⟨x, rfl, F, σ', ρ, a, rv, ok, wa, e, q⟩
  cases a with
  | list ds =>
    cases e1 : intsOf ds with
    | none => simp only [unMax, e1] at e; cases e
    | some bs =>
      cases bs with
      | nil => simp only [unMax, e1] at e; cases e
      | cons n t =>
        simp only [unMax, e1] at e
        cases e
        obtain ⟨p, vs, rfl, h, rr⟩ := wa.list ok.sub
        rw [intsOf_eq e1] at rr
        obtain ⟨h1, h2⟩ := foldl_max t n
        refine cr_max M.calm pins s σ H _ us Q I r ⟨p, n :: t, rfl, by rw [← rr.ints]; exact .inl h, by simp, fun m hm hb => ?_⟩
        have : m = t.foldl max n := by
          have g1 := hb _ h1
          have g2 := h2 m hm
          omega
        rw [this]
        exact q.val ok (.int _)
  | _ => cases e
theorem min1 (M : Mt X c) : CallR X (.builtin "min") (rC1 c unMin) := by
  rintro pins s σ H xs us Q I r ⟨x, rfl, F, σ', ρ, a, rv, ok, wa, e, q⟩
  cases a with
  | list ds =>
    cases e1 : intsOf ds with
    | none => simp only [unMin, e1] at e; cases e
    | some bs =>
      cases bs with
      | nil => simp only [unMin, e1] at e; cases e
      | cons n t =>
        simp only [unMin, e1] at e
        cases e
        obtain ⟨p, vs, rfl, h, rr⟩ := wa.list ok.sub
        rw [intsOf_eq e1] at rr
        obtain ⟨h1, h2⟩ := foldl_min t n
        refine cr_min M.calm pins s σ H _ us Q I r ⟨p, n :: t, rfl, by rw [← rr.ints]; exact .inl h, by simp, fun m hm hb => ?_⟩
        have : m = t.foldl min n := by
          have g1 := hb _ h1
          have g2 := h2 m hm
          omega
        rw [this]
        exact q.val ok (.int _)
  | _ => cases e

/-! ### isinstance -/
def tyD : D → String
  | .none => "NoneType" | .bool _ => "bool" | .int _ => "int" | .str _ => "str" | .list _ => "list" | .tuple _ => "tuple" | .dict _ => "dict"
theorem Vw.ty {K : PySem.W.Frag} {F H : Hp} {v : V} {d : D} (s : Same F H) (w : Vw K F H v d) : TyX K H v (.type (tyD d)) := by
  have h := w.h s
  cases h with
  | non => exact .base .non
  | bl b => exact .base (.bl b)
  | int i => exact .base (.int i)
  | str x => exact .base (.str x)
  | lst h r =>
    rcases h with h | ⟨o, h⟩
    · exact .base (.lst h)
    · exact .base (.frz h)
  | tup h r =>
    rcases h with (h | ⟨o, h⟩) | ⟨o, its, n, h, c, _⟩
    · exact .base (.tup h)
    · exact .fTuple h
    · exact .kTuple h c
  | dcK h e r => exact .base (.dK h)
  | dcT h e r => exact .base (.dT h)
def isStr : D → Bool
  | .str _ => true | _ => false
def isInt : D → Bool
  | .int _ => true | .bool _ => true | _ => false
def isBool : D → Bool
  | .bool _ => true | _ => false
def isTup : D → Bool
  | .tuple _ => true | _ => false
def isList : D → Bool
  | .list _ => true | _ => false
def isDict : D → Bool
  | .dict _ => true | _ => false
theorem kit_str : ∀ d : D, kitB (tyD d) "str" = some (isStr d)
  | .none => show kitB "NoneType" "str" = some false by decide +kernel
  | .bool _ => show kitB "bool" "str" = some false by decide +kernel
  | .int _ => show kitB "int" "str" = some false by decide +kernel
  | .str _ => show kitB "str" "str" = some true by decide +kernel
  | .list _ => show kitB "list" "str" = some false by decide +kernel
  | .tuple _ => show kitB "tuple" "str" = some false by decide +kernel
  | .dict _ => show kitB "dict" "str" = some false by decide +kernel
theorem kit_int : ∀ d : D, kitB (tyD d) "int" = some (isInt d)
  | .none => show kitB "NoneType" "int" = some false by decide +kernel
  | .bool _ => show kitB "bool" "int" = some true by decide +kernel
  | .int _ => show kitB "int" "int" = some true by decide +kernel
  | .str _ => show kitB "str" "int" = some false by decide +kernel
  | .list _ => show kitB "list" "int" = some false by decide +kernel
  | .tuple _ => show kitB "tuple" "int" = some false by decide +kernel
  | .dict _ => show kitB "dict" "int" = some false by decide +kernel
theorem kit_bool : ∀ d : D, kitB (tyD d) "bool" = some (isBool d)
  | .none => show kitB "NoneType" "bool" = some false by decide +kernel
  | .bool _ => show kitB "bool" "bool" = some true by decide +kernel
  | .int _ => show kitB "int" "bool" = some false by decide +kernel
  | .str _ => show kitB "str" "bool" = some false by decide +kernel
  | .list _ => show kitB "list" "bool" = some false by decide +kernel
  | .tuple _ => show kitB "tuple" "bool" = some false by decide +kernel
  | .dict _ => show kitB "dict" "bool" = some false by decide +kernel
theorem kit_tup : ∀ d : D, kitB (tyD d) "tuple" = some (isTup d)
  | .none => show kitB "NoneType" "tuple" = some false by decide +kernel
  | .bool _ => show kitB "bool" "tuple" = some false by decide +kernel
  | .int _ => show kitB "int" "tuple" = some false by decide +kernel
  | .str _ => show kitB "str" "tuple" = some false by decide +kernel
  | .list _ => show kitB "list" "tuple" = some false by decide +kernel
  | .tuple _ => show kitB "tuple" "tuple" = some true by decide +kernel
  | .dict _ => show kitB "dict" "tuple" = some false by decide +kernel
theorem kit_list : ∀ d : D, kitB (tyD d) "list" = some (isList d)
  | .none => show kitB "NoneType" "list" = some false by decide +kernel
  | .bool _ => show kitB "bool" "list" = some false by decide +kernel
  | .int _ => show kitB "int" "list" = some false by decide +kernel
  | .str _ => show kitB "str" "list" = some false by decide +kernel
  | .list _ => show kitB "list" "list" = some true by decide +kernel
  | .tuple _ => show kitB "tuple" "list" = some false by decide +kernel
  | .dict _ => show kitB "dict" "list" = some false by decide +kernel
theorem kit_dict : ∀ d : D, kitB (tyD d) "dict" = some (isDict d)
  | .none => show kitB "NoneType" "dict" = some false by decide +kernel
  | .bool _ => show kitB "bool" "dict" = some false by decide +kernel
  | .int _ => show kitB "int" "dict" = some false by decide +kernel
  | .str _ => show kitB "str" "dict" = some false by decide +kernel
  | .list _ => show kitB "list" "dict" = some false by decide +kernel
  | .tuple _ => show kitB "tuple" "dict" = some false by decide +kernel
  | .dict _ => show kitB "dict" "dict" = some true by decide +kernel
def unIs (f : D → Bool) : UOp := fun d => some (.v (.bool (f d)))
section
variable {a : Expr} {fa : EF} {pos p p2 : Pos}
/-- isinstance(a, T), T a built-in type -/
theorem le_isi {T : String} {x : Str} {f : D → Bool} (M : Mt X c) (hf : ∀ d, kitB (tyD d) T = some (f d)) (ha : PE X a (liftE c fa)) (hg : Gl X "isinstance") (hm : X.mg "isinstance" = none) (hgT : Gl X x) (hmT : X.mg x = none) (hv : bootBuiltins x = some (.type T)) (hn : x ≠ "__name__" := by decide) (hd : (x == ("__debug__" : Str)) = false := by decide)
    (hs1 : starEach [a, .Name x p2] X.env = (false, eval a X.env) :: starEach [.Name x p2] X.env := by rfl) (hs2 : starEach [.Name x p2] X.env = (false, eval (.Name x p2) X.env) :: starEach [] X.env := by rfl) (hpl : (backTo pos (starEach [.Name x p2] X.env)).any (·.1) = false := by rfl) :
    PE X (.Call (.Name "isinstance" p) [a, .Name x p2] [] pos) (liftE c (eUn (unIs f) fa)) := by
  have hT : PE X (.Name x p2) (tC (.ty T)) := pe_bltn hgT hmT hv rfl hn hd
  refine PEi (pe_callB call_isi hg hm PyProof.Rows.boot_isinstance (pa_cons ha (pa_cons hT pa_nil hs2) hs1) (by decide) (by decide) hs1 hpl) fun σ H Q h => ?_
  refine le_then h fun F1 H1 ρ1 v rv ok1 r1 h1 => ?_
  cases e : rd ρ1 rv with
  | none => rw [e] at h1; exact h1.no
  | some d =>
    rw [e] at h1
    exact ⟨v, .ty T, .type (tyD d), .type T, f d, rfl, .ty T, by rw [M.K]; exact (r1.vw ok1 e).ty ok1.sub, kit_ty (hf d), (show En c F1 σ (some (Except.ok (RV.v (.bool (f d))), ρ1)) (RE c σ Q) from h1).ret ok1 _ (.bl _)⟩
/-- isinstance(a, (T, U)) -/
theorem le_isi2 {T U : String} {x y : Str} {f g : D → Bool} {k : Nat} {p3 p4 : Pos} (M : Mt X c) (hf : ∀ d, kitB (tyD d) T = some (f d)) (hf' : ∀ d, kitB (tyD d) U = some (g d)) (ha : PE X a (liftE c fa)) (hg : Gl X "isinstance") (hm : X.mg "isinstance" = none) (hgT : Gl X x) (hmT : X.mg x = none) (hv : bootBuiltins x = some (.type T))
    (hgU : Gl X y) (hmU : X.mg y = none) (hvU : bootBuiltins y = some (.type U)) (hn : x ≠ "__name__" := by decide) (hd : (x == ("__debug__" : Str)) = false := by decide) (hn' : y ≠ "__name__" := by decide) (hd' : (y == ("__debug__" : Str)) = false := by decide)
    (hs1 : starEach [a, .Tuple [.Name x p2, .Name y p3] k p4] X.env = (false, eval a X.env) :: starEach [.Tuple [.Name x p2, .Name y p3] k p4] X.env := by rfl) (hs2 : starEach [.Tuple [.Name x p2, .Name y p3] k p4] X.env = (false, eval (.Tuple [.Name x p2, .Name y p3] k p4) X.env) :: starEach [] X.env := by rfl)
    (hs3 : starEach [.Name x p2, .Name y p3] X.env = (false, eval (.Name x p2) X.env) :: starEach [.Name y p3] X.env := by rfl) (hs4 : starEach [.Name y p3] X.env = (false, eval (.Name y p3) X.env) :: starEach [] X.env := by rfl) (hpl : (backTo pos (starEach [.Tuple [.Name x p2, .Name y p3] k p4] X.env)).any (·.1) = false := by rfl) :
    PE X (.Call (.Name "isinstance" p) [a, .Tuple [.Name x p2, .Name y p3] k p4] [] pos) (liftE c (eUn (unIs fun d => f d || g d) fa)) := by
  have hT : PE X (.Name x p2) (tC (.ty T)) := pe_bltn hgT hmT hv rfl hn hd
  have hU : PE X (.Name y p3) (tC (.ty U)) := pe_bltn hgU hmU hvU rfl hn' hd'
  have hTU := pe_tup (pos := p4) (x1 := k) (pa_cons hT (pa_cons hU pa_nil hs4) hs3)
  refine PEi (pe_callB call_isiT hg hm PyProof.Rows.boot_isinstance (pa_cons ha (pa_cons hTU pa_nil hs2) hs1) (by decide) (by decide) hs1 hpl) fun σ H Q h => ?_
  refine le_then h fun F1 H1 ρ1 v rv ok1 r1 h1 => ?_
  cases e : rd ρ1 rv with
  | none => rw [e] at h1; exact h1.no
  | some d =>
    rw [e] at h1
    refine ⟨by show 2 ≤ sizeLine; decide, fun tp ntp => ?_⟩
    have ok2 := ok1.laid (o := .tup [V.ty T, V.ty U]) ntp
    have w := ((r1.vw ok1 e).mono (Same.refl _) (Same.updN (o := .tup [V.ty T, V.ty U]) ntp)).ty (ok1.sub.trans (Same.updN ntp))
    refine ⟨v, tp, [.ty T, .ty U], .type (tyD d), [.type T, .type U], f d || g d, rfl, upd_same, .cons (.ty T) (.cons (.ty U) .nil), by rw [M.K]; exact w, ?_, (show En c F1 σ (some (Except.ok (RV.v (.bool (f d || g d))), ρ1)) (RE c σ Q) from h1).ret ok2 _ (.bl _)⟩
    refine kitAny_cons (b := f d) (kit_ty (hf d)) (fun hb => ?_) (fun hb => by rw [hb]; rfl)
    refine kitAny_cons (b := g d) (kit_ty (hf' d)) (fun hb2 => by rw [hb, hb2]; rfl) (fun hb => by rw [hb]; simp)
end

/-! ### slices -/
def cutD (ds : List D) (lo hi : Option Int) : List D := (ds.drop (HT.sIx ds.length 0 lo)).take (HT.sIx ds.length ds.length hi - HT.sIx ds.length 0 lo)
theorem RpA.cut {K : PySem.W.Frag} {F : Hp} {vs : List V} {ds : List D} (r : RpA K F vs ds) (lo hi : Option Int) : RpA K F (cutV vs lo hi) (cutD ds lo hi) := by
  unfold cutV cutD
  rw [r.length]
  exact (r.drop _).take _
abbrev SOp := D → Option Int → Option Int → Option RV
def opSl : SOp
  | .list ds, lo, hi => some (.f (.list (cutD ds lo hi)))
  | .tuple ds, lo, hi => some (.v (.tuple (cutD ds lo hi)))
  | .str x, lo, hi => if x.length ≤ sizeLine then some (.v (.str (cutS x lo hi))) else none
  | _, _, _ => none
def rSlD (c : Fc) : V → Option Int → Option Int → Hp → VK → Prop := fun x lo hi H Q => ∃ F σ ρ a rv, Ok c F σ H ρ ∧ Vw c.K F H x a ∧ opSl a lo hi = some rv ∧ Fin c ρ F σ H Q rv
theorem slD_of (M : Mt X c) : SlR X (rSlD c) := by
  rintro pins s σ H x v vl vu lo hi sl Q I rx hs pl pu ⟨F, σ', ρ, a, rv, ok, wa, e, q⟩
  cases a with
  | list ds =>
    cases e
    obtain ⟨p, vs, rfl, h, rr⟩ := wa.list ok.sub
    exact sl_list pins s σ H _ v vl vu lo hi sl Q I rx hs pl pu ⟨p, vs, rfl, .inl h, fun n hn => q.newL ok (rr.cut lo hi) hn⟩
  | tuple ds =>
    cases e
    obtain ⟨p, vs, rfl, h, rr⟩ := wa.tuple ok.sub
    refine sl_tupA pins s σ H _ v vl vu lo hi sl Q I rx hs pl pu ⟨p, vs, rfl, by rw [M.K]; exact h, fun hw => ?_, fun _ n hn => q.newT ok (rr.cut lo hi) hn⟩
    have ec : cutD ds lo hi = ds := by
      unfold cutD
      rw [← rr.length, hw.1, hw.2, rr.length]
      simp
    rw [ec] at q
    rcases wa with w | ⟨p', e', w⟩
    · exact q.val ok w
    · exact False.elim w
  | str z =>
    have e : (if z.length ≤ sizeLine then some (RV.v (.str (cutS z lo hi))) else none) = some rv := e
    split at e
    · rename_i hz
      cases e
      cases wa.str
      exact sl_str pins s σ H _ v vl vu lo hi sl Q I rx hs pl pu ⟨z, rfl, hz, q.val ok (.str _)⟩
    · cases e
  | _ => cases e
/-- a slice's bound -/
abbrev OF := Ev → Option (Except Xn (Option Int) × Ev)
def oNo : OF := fun ρ => some (.ok none, ρ)
def intR : Option D → Ev → Option (Except Xn (Option Int) × Ev)
  | some (.int i), ρ => some (.ok (some i), ρ)
  | _, _ => none
def oInt (fe : EF) : OF := fun ρ => bE (fe ρ) fun r ρ1 => intR (rd ρ1 r) ρ1
def liftO (c : Fc) (f : OF) : TO := fun σ H Q => ∃ F ρ, Ok c F σ H ρ ∧ En c F σ (f ρ) (fun o _ H' _ => Q o H')
theorem POi {e : Option Expr} {t t' : TO} (h : PO X e t) (i : ∀ σ H Q, t' σ H Q → t σ H Q) : PO X e t' := ⟨fun pins s σ H Q I q => h.run pins s σ H Q I (i σ H Q q)⟩
theorem lo_no : PO X none (liftO c oNo) := POi po_none fun σ H Q ⟨F, ρ, ok, h⟩ => h.ret (a := none) ok
theorem lo_int {e : Expr} {fe : EF} (he : PE X e (liftE c fe)) : PO X (some e) (liftO c (oInt fe)) := by
  refine POi (po_some he) fun σ H Q ⟨F, ρ, ok, h⟩ => ?_
  refine ⟨F, ρ, ok, (En.bind (k := fun r ρ1 => intR (rd ρ1 r) ρ1) h).imp fun rv F1 H1 ρ1 s1 ok1 h1 v r1 => ?_⟩
  cases e : rd ρ1 rv with
  | none => rw [e] at h1; exact h1.no
  | some d =>
    rw [e] at h1
    cases d with
    | int i =>
      cases (r1.vw ok1 e).int
      exact ⟨i, rfl, (show En c F1 σ (some (Except.ok (some i), ρ1)) _ from h1).ret ok1⟩
    | _ => exact h1.no
def slS (ρ : Ev) (x : Option D) (lo hi : Option Int) : Option (Except Xn RV × Ev) :=
  match x with
  | some a => (opSl a lo hi).map fun r => (.ok r, ρ)
  | none => none
def eSl (fe : EF) (fl fh : OF) : EF := fun ρ => bE (fe ρ) fun r ρ1 => bE (fl ρ1) fun lo ρ2 => bE (fh ρ2) fun hi ρ3 => slS ρ3 (rd ρ3 (hold r)) lo hi
theorem le_slice {e : Expr} {lo hi : Option Expr} {fe : EF} {fl fh : OF} {p2 pos : Pos} (M : Mt X c) (he : PE X e (liftE c fe)) (hl : PO X lo (liftO c fl)) (hh : PO X hi (liftO c fh)) : PE X (.Subscript e (.Slice lo hi none p2) pos) (liftE c (eSl fe fl fh)) := by
  refine PEi (pe_slice (slD_of M) he hl hh) fun σ H Q h => ?_
  refine le_then h fun F1 H1 ρ1 v rv ok1 r1 h1 => ?_
  obtain ⟨F2, s2, ok2, h2⟩ := r1.held ok1
  refine ⟨F2, ρ1, ok2, (En.bind (h1.mono s2)).imp fun l F3 H3 ρ3 s3 ok3 h3 => ?_⟩
  refine ⟨F3, ρ3, ok3, (En.bind h3).imp fun u F4 H4 ρ4 s4 ok4 h4 => ?_⟩
  have h5 := (h2.mono (s3.trans s4)).ok (H := H4) (ρ := ρ4)
  cases e : rd ρ4 (hold rv) with
  | none => rw [e] at h4; exact h4.no
  | some d =>
    rw [e] at h4
    have h4 : En c F4 σ ((opSl d l u).map fun r => (.ok r, ρ4)) (RE c σ Q) := h4
    cases e2 : opSl d l u with
    | none => rw [e2] at h4; exact h4.no
    | some r' =>
      rw [e2] at h4
      refine ⟨F4, σ, ρ4, d, r', ok4, h5.vw ok4 e, e2, fun v' H' F' s' ok' r2 => ?_⟩
      obtain ⟨r3, ρ', e3, q⟩ := h4
      cases e3
      exact q H' F' s' ok' v' r2
end
end Vm
end

section
set_option maxRecDepth 100000
set_option maxHeartbeats 4000000
/-! VmG: xs[i] = e, x += e, a, b = e, f; t[::-1]. -/
namespace Vm
open PySem PySem.Spec PyProof.Rows L2

/-! ### stores into a slot's list -/
def ixSet (ds : List D) (k : Option D) (v : D) : Option (List D) :=
  match k with
  | some (.int k) => (ixN ds.length k).map fun j => ds.set j v
  | _ => none
def putL (x : Option (List D)) (j : Nat) (b : Md) (ρ : Ev) : Option (SOut × Ev) :=
  match x with
  | some ds => some (.nx, ρ.set j (.own b (.list ds)))
  | none => none
def withLS (i : Nat) (ρ : Ev) (k : Md → List D → Option (SOut × Ev)) : Option (SOut × Ev) :=
  match ownL ρ[i]? with
  | some (b, ds) => k b ds
  | none => none
theorem ownL_of {c : Fc} {F : Hp} {σ : Sg} {H : Hp} {ρ : Ev} {i : Nat} {b : Md} {ds : List D} (e : ownL ρ[i]? = some (b, ds)) (ok : Ok c F σ H ρ) :
    ∃ p vs, b.lent = false ∧ ρ[i]? = some (.own b (.list ds)) ∧ σ[i]? = some (some (V.ref p)) ∧ H p = some (.lst vs) ∧ RpA c.K F vs ds := by
  cases e1 : ρ[i]? with
  | none => rw [e1] at e; cases e
  | some s =>
    rw [e1] at e
    cases s with
    | own m d =>
      cases d with
      | list xs =>
        obtain ⟨p, a, n, w, r⟩ := ok.slot i _ e1
        obtain ⟨vs, e2, e3⟩ := w
        cases m with
        | mine => cases e; exact ⟨p, vs, rfl, rfl, a, e2, e3⟩
        | io => cases e; exact ⟨p, vs, rfl, rfl, a, e2, e3⟩
        | _ => cases e
      | _ => cases m <;> cases e
    | _ => cases e
theorem withLS_of {c : Fc} {F : Hp} {σ : Sg} {H : Hp} {ρ : Ev} {i : Nat} {k : Md → List D → Option (SOut × Ev)} {De : Ends} (h : EnS c F (withLS i ρ k) De) (ok : Ok c F σ H ρ) :
    ∃ b ds p vs, b.lent = false ∧ ρ[i]? = some (.own b (.list ds)) ∧ σ[i]? = some (some (V.ref p)) ∧ H p = some (.lst vs) ∧ RpA c.K F vs ds ∧ EnS c F (k b ds) De := by
  unfold withLS at h
  cases e : ownL ρ[i]? with
  | none => rw [e] at h; exact h.no
  | some bd =>
    obtain ⟨b, ds⟩ := bd
    rw [e] at h
    obtain ⟨p, vs, h1, h2, h3, h4, h5⟩ := ownL_of e ok
    exact ⟨b, ds, p, vs, h1, h2, h3, h4, h5, h⟩
theorem withLS_at {i : Nat} {ρ : Ev} {b : Md} {ds : List D} {k : Md → List D → Option (SOut × Ev)} (hb : b.lent = false) (h : ρ[i]? = some (.own b (.list ds))) : withLS i ρ k = k b ds := by
  unfold withLS
  rw [h]
  cases b with
  | mine => rfl
  | io => rfl
  | _ => cases hb
/-- x[e1] = e -/
def sPutIx (j : Nat) (fi fe : EF) : SF := fun ρ => bS (fe ρ) fun r ρ1 => standS (stand r ρ1) fun d ρ2 => withLS j ρ2 fun _ _ => bS (fi ρ2) fun ri ρ3 => withLS j ρ3 fun b ds => putL (ixSet ds (rd ρ3 ri) d) j b ρ3
section
variable {X : Cx} {c : Fc} {pos pos' px : Pos} {i e : Expr} {fi fe fa fb : EF} {x : Str} {j : Nat}
theorem standS_of {k : D → Ev → Option (SOut × Ev)} {De : Ends} {F : Hp} {σ : Sg} {H : Hp} {ρ : Ev} {v : V} {rv : RV} (h : EnS c F (standS (stand rv ρ) k) De) (ok : Ok c F σ H ρ) (r : RvOk c F σ H ρ v rv) :
    ∃ F2 d ρ2, Same F F2 ∧ Ok c F2 σ H ρ2 ∧ Rp c.K F2 v d ∧ EnS c F2 (k d ρ2) De := by
  cases e1 : stand rv ρ with
  | none => rw [e1] at h; exact h.no
  | some x =>
    obtain ⟨d, ρ2⟩ := x
    rw [e1] at h
    obtain ⟨F2, s2, ok2, rp⟩ := r.stand ok e1
    exact ⟨F2, d, ρ2, s2, ok2, rp, EnS.mono s2 h⟩
theorem ls_putIx (he : PE X e (liftE c fe)) (hi : PE X i (liftE c fi)) (hN : X.N[j]? = some x) (hv : Vis X.env.scope x) (hd : (x == ("__debug__" : Str)) = false := by decide)
    (hcd : (x == ("__classdict__" : Str)) = false := by decide) (hs : swapsWithSole [.Subscript (.Name x px) i pos'] e pos.line X.env = pure false := by rfl) (hw : swappedStores [.Subscript (.Name x px) i pos'] e X.env = pure none := by rfl)
    (h1 : (assignEach [.Subscript (.Name x px) i pos'] X.env).map (·.2) = [assign (.Subscript (.Name x px) i pos') X.env] := by rfl)
    (ha : ∀ v, assign (.Subscript (.Name x px) i pos') X.env v = (do
      let ov ← holding [v] (eval (.Name x px) X.env)
      let iv ← holding [v, ov] (eval i X.env)
      standAt pos'
      holding [v, ov, iv] (setItem ov iv v)
      release [v, ov, iv] []) := by intro _; rfl) : PS X (.Assign [.Subscript (.Name x px) i pos'] e pos) (liftS c (sPutIx j fi fe)) :=
  PSi (ps_asg he (pg_sub (pe_var hN hv hd hcd) hi set_list ha) hs hw h1) fun De σ H ⟨F, ρ, ok, h⟩ => ls_then ok h fun F1 H1 ρ1 v rv ok1 r h1 => by
    obtain ⟨F2, d, ρ2, s2, ok2, rp, h2⟩ := standS_of h1 ok1 r
    obtain ⟨b, ds, p, vs, g0, g1, g2, g3, g4, h3⟩ := withLS_of h2 ok2
    refine ⟨_, g2, F2, ρ2, ok2, (EnS.bind h3).imp fun ri F3 H3 ρ3 s3 ok3 h4 w rw' => ?_⟩
    obtain ⟨b', ds', p', vs', k0, k1, k2, k3, k4, h5⟩ := withLS_of h4 ok3
    rw [g2] at k2
    cases k2
    cases e1 : rd ρ3 ri with
    | none => rw [e1] at h5; exact h5.no
    | some di =>
      rw [e1] at h5
      cases di with
      | int k =>
        cases (rw'.vw ok3 e1).int
        have h5 : EnS c F3 (putL ((ixN ds'.length k).map fun j => ds'.set j d) j b' ρ3) De := h5
        cases e2 : ixN ds'.length k with
        | none => rw [e2] at h5; exact h5.no
        | some m =>
          rw [e2] at h5
          refine ⟨p, vs', k, m, rfl, rfl, k3, by rw [k4.length]; exact e2, ?_⟩
          exact EnS.next h5 (ok3.write k0 k1 g2 ⟨_, upd_same, RpA.set (rp.mono s3) m k4⟩)
      | _ => exact h5.no

/-! ### x op= e, ints -/
def opI (f : Int → Int → Int) : BOp
  | .int i, .int j => some (.v (.int (f i j)))
  | _, _ => none
def augS (f : Int → Int → Int) (i : Nat) (ρ : Ev) : Option D → Option D → Option (SOut × Ev)
  | some (.int a), some (.int b) => ifS (freeB ρ[i]?) (some (.nx, ρ.set i (.val (.int (f a b)))))
  | _, _ => none
def valI (ρ : Ev) (i : Nat) : Option D :=
  match ρ[i]? with
  | some (.val d) => some d
  | _ => none
def sAug (f : Int → Int → Int) (i : Nat) (fe : EF) : SF := fun ρ => match valI ρ i with
  | some d => bS (fe ρ) fun r ρ1 => augS f i ρ1 (some d) (rd ρ1 r)
  | none => none
theorem ls_aug {op : Operator} {f : Int → Int → Int} (M : Mt X c) (hp : PIp X op (ipI f)) (he : PE X e (liftE c fe)) (hi : X.N[j]? = some x) (hx : Loc X.env.scope x) (hf : X.fn x = true ∨ X.env.scope.names.lookup x = some .local) : PS X (.AugAssign (.Name x pos') op e pos) (liftS c (sAug f j fe)) :=
  PSi (ps_aug M.nd hi hx he hp hf) fun De σ H ⟨F, ρ, ok, h⟩ => by
    have h : EnS c F (match valI ρ j with
      | some d => bS (fe ρ) fun r ρ1 => augS f j ρ1 (some d) (rd ρ1 r)
      | none => none) De := h
    cases e0 : valI ρ j with
    | none => rw [e0] at h; exact h.no
    | some d =>
      rw [e0] at h
      have e1 : ρ[j]? = some (.val d) := by
        unfold valI at e0
        split at e0
        · rename_i q; cases e0; exact q
        · cases e0
      obtain ⟨v, hσ, rp⟩ := ok.slot j _ e1
      refine ⟨v, hσ, ls_then ok h fun F1 H1 ρ1 w rv ok1 r h1 => ?_⟩
      cases d with
      | int a =>
        cases e2 : rd ρ1 rv with
        | none => rw [e2] at h1; exact h1.no
        | some d2 =>
          rw [e2] at h1
          cases d2 with
          | int b =>
            cases rp
            cases (r.vw ok1 e2).int
            obtain ⟨hfr, h2⟩ := ifS_of (show EnS c F1 (ifS (freeB ρ1[j]?) (some (.nx, ρ1.set j (.val (.int (f a b)))))) De from h1)
            exact ⟨a, b, rfl, rfl, EnS.next h2 (ok1.setV (.int _) hfr)⟩
          | _ => exact h1.no
      | _ => exact h1.no

/-! ### x[i] op= e, ints -/
def augL (f : Int → Int → Int) (ds : List D) (k : Option D) (y : Option D) : Option (List D) :=
  match k, y with
  | some (.int k), some (.int b) => match ixN ds.length k with
    | some j => match ds[j]? with
      | some (.int a) => some (ds.set j (.int (f a b)))
      | _ => none
    | none => none
  | _, _ => none
end

/-! ### a, b = e, f -/
/-- .. with an object of its own kept -/
abbrev Fc.layO (c : Fc) (p : Addr) (o : HO) : Fc := { c with H0 := upd c.H0 p o }
section
variable {c : Fc} {F : Hp} {σ : Sg} {H : Hp} {ρ : Ev}
theorem Ok.laidO {p : Addr} {o : HO} (ok : Ok c F σ H ρ) (A : AtL c p) (e0 : H p = some o) (no : ∀ (i : Nat) (b : Md) (e : D), ρ[i]? = some (.own b e) → σ[i]? ≠ some (some (V.ref p))) (nF : F p = none) : Ok (c.layO p o) F σ H ρ := by
  have up : ∀ {a : Addr} {x : HO}, c.H0 a = some x → upd c.H0 p o a = some x := fun {a x} e => by
    rw [upd_ne fun z => by rw [z, A.h0] at e; cases e]; exact e
  refine ⟨ok.sub, fun a x e hn => ?_, ok.len, fun i s hs => ?_, ok.inj, ok.old, fun a x e f => ?_, fun a x e => up (ok.sub0 a x e), ok.ioF, fun a ha => ?_, fun a x e => ?_, ok.lnt⟩
  · by_cases z : a = p
    · subst z
      have e : upd c.H0 a o a = some x := e
      rw [upd_same] at e; cases e; exact e0
    · have e : upd c.H0 p o a = some x := e
      rw [upd_ne z] at e
      exact ok.keep a x e hn
  · have := ok.slot i s hs
    cases s with
    | emp => trivial
    | val d => exact this
    | own b d =>
      obtain ⟨q, a, f, w, r⟩ := this
      refine ⟨q, a, f, w, ?_⟩
      by_cases hb : b.his = true
      · rw [if_pos hb] at r ⊢; exact r
      · rw [if_neg hb] at r ⊢
        show upd c.H0 p o q = none
        rw [upd_ne fun z => no i b d hs (by rw [z] at a; exact a)]; exact r
  · show upd c.H0 p o a = none
    rw [upd_ne fun z => by rw [z, nF] at e; cases e]
    exact ok.new a x e f
  · obtain ⟨x, e⟩ := ok.io0 a ha
    exact ⟨x, up e⟩
  · by_cases z : a = p
    · subst z; exact ⟨_, e0⟩
    · have e : upd c.H0 p o a = some x := e
      rw [upd_ne z] at e
      exact ok.there a x e
theorem Ok.unO {p : Addr} {o : HO} (A : AtL c p) (ok : Ok (c.layO p o) F σ H ρ) : Ok c F σ H ρ ∧ H p = some o ∧ F p = none ∧ ∀ (i : Nat) (b : Md) (e : D), ρ[i]? = some (.own b e) → σ[i]? ≠ some (some (V.ref p)) := by
  have hL : H p = some o := ok.keep p _ upd_same A.io
  have fL : F p = none := by
    cases e : F p with
    | none => rfl
    | some x =>
      have := ok.new p x e A.f0
      have this : upd c.H0 p o p = none := this
      rw [upd_same] at this; cases this
  have up : ∀ {a : Addr} {x : HO}, c.H0 a = some x → upd c.H0 p o a = some x := fun {a x} e => by
    rw [upd_ne fun z => by rw [z, A.h0] at e; cases e]; exact e
  have np : ∀ (i : Nat) (b : Md) (d : D), ρ[i]? = some (.own b d) → σ[i]? ≠ some (some (V.ref p)) := fun i b d hs z => by
    obtain ⟨q, a, f, w, r⟩ := ok.slot i _ hs
    rw [z] at a
    cases a
    by_cases hb : b.his = true
    · rw [if_pos hb] at r; exact A.io r
    · rw [if_neg hb] at r
      have r : upd c.H0 p o p = none := r
      rw [upd_same] at r; cases r
  refine ⟨⟨ok.sub, fun a x e hn => ok.keep a x (up e) hn, ok.len, fun i s hs => ?_, ok.inj, ok.old, fun a x e f => ?_, fun a x e => ?_, ok.ioF, fun a ha => ?_, fun a x e => ok.there a x (up e), ok.lnt⟩, hL, fL, np⟩
  · have := ok.slot i s hs
    cases s with
    | emp => trivial
    | val d => exact this
    | own b d =>
      have n := np i b d hs
      obtain ⟨q, a, f, w, r⟩ := this
      refine ⟨q, a, f, w, ?_⟩
      by_cases hb : b.his = true
      · rw [if_pos hb] at r ⊢; exact r
      · rw [if_neg hb] at r ⊢
        have r : upd c.H0 p o q = none := r
        rw [upd_ne fun z => n (by rw [z] at a; exact a)] at r
        exact r
  · have := ok.new a x e f
    have this : upd c.H0 p o a = none := this
    rw [upd_ne fun z => by rw [z, fL] at e; cases e] at this
    exact this
  · have := ok.sub0 a x e
    have this : upd c.H0 p o a = some x := this
    rw [upd_ne fun z => by rw [z, A.f0] at e; cases e] at this
    exact this
  · obtain ⟨x, e⟩ := ok.io0 a ha
    have e : upd c.H0 p o a = some x := e
    rw [upd_ne fun z => A.io (by rw [← z]; exact ha)] at e
    exact ⟨x, e⟩
theorem RvOk.unO {p : Addr} {o : HO} {v : V} {rv : RV} (h : RvOk (c.layO p o) F σ H ρ v rv) : RvOk c F σ H ρ v rv ∧ ∀ d, rv = .f d → v ≠ V.ref p := by
  cases rv with
  | v d => exact ⟨h, fun d z => nomatch z⟩
  | s i => exact ⟨h, fun d z => nomatch z⟩
  | f d =>
    obtain ⟨q, e1, n, n0, nio, w, no⟩ := h
    have n0 : upd c.H0 p o q = none := n0
    have nq : q ≠ p := fun z => by rw [z, upd_same] at n0; cases n0
    rw [upd_ne nq] at n0
    exact ⟨⟨q, e1, n, n0, nio, w, no⟩, fun d _ z => nq (by rw [e1] at z; cases z; rfl)⟩
theorem Mt.layO {X : Cx} {p : Addr} {o : HO} (M : Mt X c) : Mt X (c.layO p o) := ⟨M.K, M.mg, M.calm, M.nd, M.tk, M.hu⟩
theorem Ms.layO {X : Cx} {p : Addr} {o : HO} (M : Ms X c) : Ms X (c.layO p o) := { M.toMt.layO with po := M.po }
/-- a new object kept, anything else made to stand -/
def keepR (r : RV) (ρ : Ev) : Option (RV × Ev) :=
  match r with
  | .f d => some (.f d, ρ)
  | r => (stand r ρ).map fun x => (.v x.1, x.2)
theorem keepR_of {v : V} {r r' : RV} {ρ' : Ev} (ok : Ok c F σ H ρ) (h : RvOk c F σ H ρ v r) (e : keepR r ρ = some (r', ρ')) : ∃ F', Same F F' ∧ Ok c F' σ H ρ' ∧ RvOk c F' σ H ρ' v r' ∧ ∀ i, r' ≠ .s i := by
  have go : (stand r ρ).map (fun x => (RV.v x.1, x.2)) = some (r', ρ') → ∃ F', Same F F' ∧ Ok c F' σ H ρ' ∧ RvOk c F' σ H ρ' v r' ∧ ∀ i, r' ≠ .s i := fun e => by
    cases e1 : stand r ρ with
    | none => rw [e1] at e; cases e
    | some x =>
      obtain ⟨d, ρ2⟩ := x
      rw [e1] at e
      cases e
      obtain ⟨F', s', ok', rp⟩ := h.stand ok e1
      exact ⟨F', s', ok', rp, fun i z => nomatch z⟩
  cases r with
  | f d => cases e; exact ⟨F, Same.refl _, ok, h, fun i z => nomatch z⟩
  | v d => exact go e
  | s i => exact go e
end
def keepS (r : RV) (ρ : Ev) (k : RV → Ev → Option (SOut × Ev)) : Option (SOut × Ev) :=
  match keepR r ρ with
  | some (r', ρ') => k r' ρ'
  | none => none
theorem keepS_of {c : Fc} {F : Hp} {σ : Sg} {H : Hp} {ρ : Ev} {De : Ends} {v : V} {r : RV} {k : RV → Ev → Option (SOut × Ev)} (h : EnS c F (keepS r ρ k) De) (ok : Ok c F σ H ρ) (rr : RvOk c F σ H ρ v r) :
    ∃ F' r' ρ', Same F F' ∧ Ok c F' σ H ρ' ∧ RvOk c F' σ H ρ' v r' ∧ (∀ i, r' ≠ .s i) ∧ EnS c F' (k r' ρ') De := by
  unfold keepS at h
  cases e : keepR r ρ with
  | none => rw [e] at h; exact h.no
  | some x =>
    obtain ⟨r', ρ'⟩ := x
    rw [e] at h
    obtain ⟨F', s', ok', r2, ns⟩ := keepR_of ok rr e
    exact ⟨F', r', ρ', s', ok', r2, ns, EnS.mono s' h⟩
/-- i, j take two results -/
def put2 (i j : Nat) (ra rb : RV) (ρ : Ev) : Option (SOut × Ev) := seqD (put i ra ρ) fun ρ' => put j rb ρ'
def sPar (i j : Nat) (fa fb : EF) : SF := fun ρ => bS (fa ρ) fun ra ρ1 => keepS ra ρ1 fun ra' ρ2 => bS (fb ρ2) fun rb ρ3 => keepS rb ρ3 fun rb' ρ4 => put2 i j ra' rb' ρ4
section
variable {X : Cx} {c : Fc} {pos px py pt pt2 : Pos} {a b : Expr} {fa fb : EF} {x y : Str} {i j : Nat} {kt k2 : Nat}
theorem put2_of {F : Hp} {σ : Sg} {H : Hp} {ρ : Ev} {De : Ends} {ra rb : RV} {v w : V} (h : EnS c F (put2 i j ra rb ρ) De) (ok : Ok c F σ H ρ) (r1 : RvOk c F σ H ρ v ra) (r2 : RvOk c F σ H ρ w rb) (n1 : ∀ k, ra ≠ .s k) (n2 : ∀ k, rb ≠ .s k)
    (ne : ∀ d e, ra = .f d → rb = .f e → v ≠ w) : De.nx ((σ.set i (some v)).set j (some w)) H := by
  have h1 := EnS.seq h
  have fin : ∀ {ρ' : Ev}, (∀ x, ρ'[j]? = some x → True) → Ok c F (σ.set i (some v)) H ρ' → RvOk c F (σ.set i (some v)) H ρ' w rb → EnS c F (put j rb ρ') De → De.nx ((σ.set i (some v)).set j (some w)) H := fun _ ok' r' h' => put_of h' ok' r'
  cases ra with
  | s k => exact absurd rfl (n1 k)
  | v d =>
    have h : EnS c F (seqD (ifS (freeB ρ[i]?) (some (.nx, ρ.set i (.val d)))) fun ρ' => put j rb ρ') De := h
    cases hf : freeB ρ[i]? with
    | false => rw [hf] at h; exact EnS.no h
    | true =>
      rw [hf] at h
      have h : EnS c F (put j rb (ρ.set i (.val d))) De := h
      have ok' := ok.setV (i := i) r1 hf
      refine put_of h ok' ?_
      cases rb with
      | s k => exact absurd rfl (n2 k)
      | v e => exact r2
      | f e =>
        obtain ⟨q, e1, n, n0, nio, w', no⟩ := r2
        refine ⟨q, e1, n, n0, nio, w', fun m b z hm => ?_⟩
        have hne : m ≠ i := fun z => by
          subst z
          have hl : m < ρ.length := by
            have := (List.getElem?_eq_some_iff.mp hm).1
            rw [List.length_set] at this; exact this
          rw [List.getElem?_set_self hl] at hm
          cases hm
        rw [List.getElem?_set_ne (Ne.symm hne)] at hm ⊢
        exact no m b z hm
  | f d =>
    have h : EnS c F (seqD (ifS (freeB ρ[i]?) (some (.nx, ρ.set i (.own .mine d)))) fun ρ' => put j rb ρ') De := h
    cases hf : freeB ρ[i]? with
    | false => rw [hf] at h; exact EnS.no h
    | true =>
      rw [hf] at h
      have h : EnS c F (put j rb (ρ.set i (.own .mine d))) De := h
      have ok' := ok.setF (i := i) r1 hf
      refine put_of h ok' ?_
      cases rb with
      | s k => exact absurd rfl (n2 k)
      | v e => exact r2
      | f e =>
        obtain ⟨q, e1, n, n0, nio, w', no⟩ := r2
        refine ⟨q, e1, n, n0, nio, w', fun m b z hm => ?_⟩
        by_cases hne : m = i
        · subst hne
          have hl : m < σ.length := by
            have := (List.getElem?_eq_some_iff.mp hm).1
            rw [List.length_set] at this
            rw [ok.len]; exact this
          rw [List.getElem?_set_self hl]
          intro q'
          have := ne d e rfl rfl
          cases q'
          exact this e1.symm
        · rw [List.getElem?_set_ne (Ne.symm hne)] at hm ⊢
          exact no m b z hm
theorem ls_par (M : Ms X c) (hi : X.N[i]? = some x) (hj : X.N[j]? = some y) (hij : i ≠ j) (hx : X.env.scope.names.lookup x = some .local) (hy : X.env.scope.names.lookup y = some .local) (ha : PE X a (liftE c fa)) (hb : ∀ c', Ms X c' → PE X b (liftE c' fb))
    (hw : swappedStores [.Tuple [.Name x px, .Name y py] kt pt] (.Tuple [a, b] k2 pt2) X.env = pure (some [x, y]))
    (he : starEach [a, b] X.env = (false, eval a X.env) :: starEach [b] X.env := by rfl) (he2 : starEach [b] X.env = (false, eval b X.env) :: starEach [] X.env := by rfl)
    (hs : swapsWithSole [.Tuple [.Name x px, .Name y py] kt pt] (.Tuple [a, b] k2 pt2) pos.line X.env = pure false := by rfl) :
    PS X (.Assign [.Tuple [.Name x px, .Name y py] kt pt] (.Tuple [a, b] k2 pt2) pos) (liftS c (sPar i j fa fb)) := by
  have hbx : PE X b (fun σ H Q => ∃ c', Ms X c' ∧ liftE c' fb σ H Q) := ⟨fun pins s σ H Q I ⟨c', m, q⟩ => (hb c' m).run pins s σ H Q I q⟩
  refine PSi (ps_par M.calm M.nd hi hj hij hx hy (pa_cons ha (pa_cons hbx pa_nil he2) he) hw hs) fun De σ H ⟨F, ρ, ok, h⟩ => ?_
  refine ls_then ok h fun F1 H1 ρ1 v rv ok1 r1 h1 => ?_
  obtain ⟨F2, r', ρ2, s2, ok2, rr2, ns2, h2⟩ := keepS_of h1 ok1 r1
  cases r' with
  | s k => exact absurd rfl (ns2 k)
  | v d =>
    refine ⟨c, M, F2, ρ2, ok2, (EnS.bind h2).imp fun rb F3 H3 ρ3 s3 ok3 h3 w r3 => ⟨v, w, rfl, ?_⟩⟩
    obtain ⟨F4, rb', ρ4, s4, ok4, rr4, ns4, h4⟩ := keepS_of h3 ok3 r3
    exact put2_of h4 ok4 (Rp.mono (s3.trans s4) rr2) rr4 ns2 ns4 fun d e z => nomatch z
  | f d =>
    obtain ⟨p, e1, n, n0, nio, w0, no⟩ := rr2
    subst e1
    obtain ⟨o, ho, _⟩ := w0.some
    have f0 : c.F0 p = none := by
      cases e : c.F0 p with
      | none => rfl
      | some q => rw [ok2.sub0 p q e] at n0; cases n0
    have A : AtL c p := ⟨n0, f0, nio⟩
    refine ⟨c.layO p o, M.layO, F2, ρ2, ok2.laidO A ho no n, ?_⟩
    obtain ⟨rr, ρ', e, q⟩ := EnS.bind (σ := σ) h2
    refine ⟨rr, ρ', e, ?_⟩
    cases rr with
    | error x => exact fun H' F' u a s' ok' xo => q H' F' u a s' (Ok.unO A ok').1 xo
    | ok rb =>
      intro H3 F3 s3 ok3 w r3
      refine ⟨V.ref p, w, rfl, ?_⟩
      have h3 : EnS c F3 (keepS rb ρ' fun rb' ρ4 => put2 i j (RV.f d) rb' ρ4) De := q H3 F3 s3 (Ok.unO A ok3).1
      -- the second one is kept, in the narrower context
      unfold keepS at h3
      cases ek : keepR rb ρ' with
      | none => rw [ek] at h3; exact h3.no
      | some y =>
        obtain ⟨rb', ρ4⟩ := y
        rw [ek] at h3
        obtain ⟨F4, s4, ok4, rr4, ns4⟩ := keepR_of ok3 r3 ek
        obtain ⟨ok5, hp, fp, np⟩ := Ok.unO A ok4
        obtain ⟨rr5, ne5⟩ := RvOk.unO rr4
        exact put2_of (EnS.mono s4 h3) ok5 ⟨p, rfl, fp, n0, nio, w0.mono (s3.trans s4) (hp.trans ho.symm), np⟩ rr5 ns2 ns4 fun d' e' _ z => Ne.symm (ne5 e' z)
end
end Vm
end

section
set_option maxRecDepth 100000
set_option maxHeartbeats 4000000
/-! VmH: calls with keywords; raise; try. -/
namespace Vm
open PySem PySem.Spec PyProof.Rows L2

/-! ### keywords -/
def pickL {α : Type} (n m : Nat) (perm : List Nat) (us ws : List α) : List α := if us.length = n ∧ ws.length = m then perm.filterMap ((us ++ ws)[·]?) else []
theorem vals_pick {vs : List V} {us : List Value} (r : Vals vs us) : ∀ perm : List Nat, Vals (perm.filterMap (vs[·]?)) (perm.filterMap (us[·]?))
  | [] => .nil
  | i :: p => by
    rw [List.filterMap_cons, List.filterMap_cons]
    have hl := r.length
    cases e : vs[i]? with
    | none =>
      have : us[i]? = none := by
        rw [List.getElem?_eq_none_iff] at e ⊢
        omega
      rw [this]
      exact vals_pick r p
    | some v =>
      obtain ⟨u, hu, ru⟩ := r.get e
      rw [hu]
      exact .cons ru (vals_pick r p)
theorem kb_mk {K : PySem.W.Frag} {fd : FuncData} {ps ks : List Str} {n m : Nat} {perm : List Nat} (hp : 0 < ps.length) (h : ∀ us ws : List Value, us.length = n → ws.length = m → bindArgs fd ⟨us, ks.zip ws⟩ = pure (ps.zip (perm.filterMap ((us ++ ws)[·]?)))) : KBinds K fd ps ks (pickL n m perm) (pickL n m perm) := by
  refine ⟨fun s us ws _ hl => ?_, fun {vs us zs ws} r rz => ?_⟩
  · unfold pickL at hl ⊢
    split at hl
    · rename_i hh
      rw [if_pos hh]
      exact .of_eq (h us ws hh.1 hh.2)
    · simp at hl; omega
  · unfold pickL
    have e1 := r.length
    have e2 := rz.length
    by_cases hh : vs.length = n ∧ zs.length = m
    · rw [if_pos hh, if_pos (by omega)]
      exact vals_pick (r.append rz) perm
    · rw [if_neg hh, if_neg (by omega)]
      exact .nil
section
variable {X : Cx} {c : Fc} {fa : EF} {fr fk : ArF} {e : Expr} {es : List Expr} {kws : List Keyword} {σ : Sg} {j : Nat} {nm : Option Str} {kpos : Pos}
theorem PKi {X : Cx} {e : List Keyword} {t t' : TA} (h : PK X e t) (i : ∀ σ H Q, t' σ H Q → t σ H Q) : PK X e t' := ⟨fun p pins s σ H Q I q => h.run p pins s σ H Q I (i σ H Q q)⟩
theorem lk_nil : PK X [] (liftAr c j rNil) := PKi pk_nil fun σ H Q ⟨F, ρ, ok, h⟩ => h.ret ok _ .nil
theorem lk_cons (ha : PE X e (liftE c fa)) (hr : PK X kws (liftAr c j fr)) : PK X (⟨nm, e, kpos⟩ :: kws) (liftAr c j (rCons fa fr)) := by
  refine PKi (pk_cons ha hr) fun σ H Q ⟨F, ρ, ok, h⟩ => ?_
  refine ⟨F, ρ, ok, (En.bind (k := fun ra ρ1 => standE (stand ra ρ1) fun d ρ2 => bE (fr ρ2) fun ds ρ3 => some (.ok (some d :: ds), ρ3)) h).imp fun rv F1 H1 ρ1 s1 ok1 h1 v r => ?_⟩
  obtain ⟨F2, d, ρ2, s2, ok2, rp, h2⟩ := standE_of h1 ok1 r
  exact ⟨F2, ρ2, ok2, h2.bind.imp fun ds F3 H3 ρ3 s3 ok3 h3 vs rs => h3.ret ok3 _ (.val (rp.mono s3) rs)⟩
theorem ArA.mono {F F' : Hp} (s : Same F F') {vs : List V} {as : List (Option D)} (h : ArA c F σ j vs as) : ArA c F' σ j vs as := by
  induction h with
  | nil => exact .nil
  | val r _ ih => exact .val (r.mono s) ih
  | io r _ ih => exact .io r ih
theorem ArA.append {F : Hp} {vs ws : List V} {as bs : List (Option D)} (h : ArA c F σ j vs as) (g : ArA c F σ j ws bs) : ArA c F σ j (vs ++ ws) (as ++ bs) := by
  induction h with
  | nil => exact g
  | val r _ ih => exact .val r ih
  | io r _ ih => exact .io r ih
theorem ArA.pick {F : Hp} {vs : List V} {as : List (Option D)} (h : ArA c F σ j vs as) : ∀ perm : List Nat, ArA c F σ j (perm.filterMap (vs[·]?)) (perm.filterMap (as[·]?))
  | [] => .nil
  | i :: p => by
    rw [List.filterMap_cons, List.filterMap_cons]
    have hl := h.len
    cases e : vs[i]? with
    | none =>
      have : as[i]? = none := by
        rw [List.getElem?_eq_none_iff] at e ⊢
        omega
      rw [this]
      exact h.pick p
    | some v =>
      have hi : i < as.length := by
        have := (List.getElem?_eq_some_iff.mp e).1
        omega
      rw [List.getElem?_eq_getElem hi]
      have g := h.get i v as[i] e (List.getElem?_eq_getElem hi)
      cases ea : as[i] with
      | none => rw [ea] at g; exact .io g (h.pick p)
      | some d => rw [ea] at g; exact .val g (h.pick p)
end
def eCallK (fs : FnS) (np n m : Nat) (perm : List Nat) (fr fk : ArF) : EF := fun ρ => bE (fr ρ) fun as ρ1 => bE (fk ρ1) fun bs ρ2 =>
  if (pickL n m perm as bs).length = np ∧ (pickL n m perm as bs).all Option.isSome = true then resE (fs.sem (argD .none (pickL n m perm as bs))) fun _ => some ρ2 else none
theorem pickL_ar {c : Fc} {F : Hp} {σ : Sg} {j n m : Nat} {perm : List Nat} {vs ws : List V} {as bs : List (Option D)} (h : ArA c F σ j vs as) (g : ArA c F σ j ws bs) : ArA c F σ j (pickL n m perm vs ws) (pickL n m perm as bs) := by
  unfold pickL
  have e1 := h.len
  have e2 := g.len
  by_cases hh : vs.length = n ∧ ws.length = m
  · rw [if_pos hh, if_pos (by omega)]
    exact (h.append g).pick perm
  · rw [if_neg hh, if_neg (by omega)]
    exact .nil
section
variable {X : Cx} {c : Fc} {fr fk : ArF} {fs : FnS} {np n m lv : Nat} {perm : List Nat} {f : Addr} {fd : FuncData} {ps ks : List Str} {x : Str} {p pos : Pos} {e : Expr} {es : List Expr} {kws : List Keyword}
theorem run_fnkS {pins : List (Addr × Obj)} {σ : Sg} {H : Hp} {s : Shared} {Q : VK} {us ws : List Value} {vs zs : List V} {sp : Sp} {g : List Value → List Value → List Value} {gV : List V → List V → List V} {E : Sg → XK} {CX : CXT} (F : FnOk X.prog X.w X.K X.mg X.base CX lv f fd ps sp) (hr : Room lv X.A) (hb : KBinds X.K fd ps ks g gV) (hx : PassesAt CX X σ (E σ))
    (I : Inv X pins σ H s) (r : Vals vs us) (rz : Vals zs ws) (h : sp (gV vs zs) H Q (E σ)) : wpAny (model X.prog X.w) X.A (call (.ref f) us (ks.zip ws)) (EP X pins σ Q) X.xe s := by
  have r2 := hb.rel r rz
  have hl : (g us ws).length = ps.length := by rw [← r2.length]; exact F.len _ _ _ _ h
  refine wpAny_call (codeAny_mono (F.run X.A X.stack s H ⟨us, ks.zip ws⟩ (g us ws) (gV vs zs) Q (E σ) hr I.env0 (hb.to s us ws I.kIn hl) r2 h) fun r s' hq => ?_)
  cases r with
  | error e => exact hx pins H s e s' I hq
  | ok fl =>
    cases fl with
    | ret u => exact I.after hq
    | next => exact False.elim hq
    | brk => exact False.elim hq
    | cont => exact False.elim hq
theorem callK_sp (M : Mt X c) (hio : fs.io = none) (hnp : ps.length = np) {F : Hp} {σ : Sg} {H : Hp} {ρ : Ev} {Q : VK} {vs zs : List V} {as bs : List (Option D)} (ok : Ok c F σ H ρ) (ra : ArA c F σ 0 vs as) (rb : ArA c F σ 0 zs bs)
    (h : En c F σ (if (pickL n m perm as bs).length = np ∧ (pickL n m perm as bs).all Option.isSome = true then resE (fs.sem (argD .none (pickL n m perm as bs))) fun _ => some ρ else none) (RE c σ Q)) : spF X.K X.mg np fs (pickL n m perm vs zs) H Q (WE c.W σ) := by
  split at h
  · rename_i hh
    refine call_sp M.K M.mg hio hh.1 ok (pickL_ar ra rb) ?_
    rw [if_pos hh.2]
    exact h
  · exact h.no
/-- f(e, .., k = a, ..) -/
theorem le_callK (M : Mt X c) (G : FnOk X.prog X.w X.K X.mg X.base (L2.CX X.prog X.w) lv f fd ps (spF X.K X.mg np fs)) (hr : Room lv X.A) (hg : Gl X x) (hm : X.mg x = some (.ref f)) (hk : PySem.W.keepIn X.K (.ref f) = true) (hb : KBinds X.K fd ps ks (pickL n m perm) (pickL n m perm)) (hnp : ps.length = np) (hio : fs.io = none)
    (ha : PA X (e :: es) (liftAr c 0 fr)) (hkw : PK X kws (liftAr c 0 fk)) (hall : (backToKw pos (keywordEach kws X.env)).all (·.1.isSome) = true := by rfl) (hks : (backToKw pos (keywordEach kws X.env)).filterMap (·.1) = ks := by rfl)
    (hdb : (x == ("__debug__" : Str)) = false := by decide) (he : starEach (e :: es) X.env = (false, eval e X.env) :: starEach es X.env := by rfl)
    (hpl : ((backTo pos (starEach (e :: es) X.env)).any (·.1) || (backToKw pos (keywordEach kws X.env)).any (·.1.isNone)) = false := by rfl) : PE X (.Call (.Name x p) (e :: es) kws pos) (liftE c (eCallK fs np n m perm fr fk)) := by
  refine ⟨fun pins s σ H Q I hw => ?_⟩
  obtain ⟨F, ρ, ok, h⟩ := hw
  refine wpAny_Call_Name_kw (ld_glob I hg hm ?_ hdb)
  refine PySem.W.callWith_KW (h₀ := X.base) I.ok.mod.kin hk hall (thn (ha.run pos pins s σ H (fun vs H1 => ∃ F1 ρ1 as, Ok c F1 σ H1 ρ1 ∧ ArA c F1 σ 0 vs as ∧ En c F1 σ (bE (fk ρ1) fun bs ρ2 =>
    if (pickL n m perm as bs).length = np ∧ (pickL n m perm as bs).all Option.isSome = true then resE (fs.sem (argD .none (pickL n m perm as bs))) (fun _ => some ρ2) else none) (RE c σ Q)) I ⟨F, ρ, ok, (En.bind h).imp fun as F1 H1 ρ1 s1 ok1 h1 vs ra => ⟨F1, ρ1, as, ok1, ra, h1⟩⟩) fun us s1 ⟨vs, H1, I1, r, F1, ρ1, as, ok1, ra, h1⟩ => ?_) hpl he
  refine thn (hkw.run pos pins s1 σ H1 (fun zs H2 => spF X.K X.mg np fs (pickL n m perm vs zs) H2 Q (WE c.W σ)) I1 ⟨F1, ρ1, ok1, h1.bind.imp fun bs F2 H2 ρ2 s2 ok2 h2 zs rb => callK_sp M hio hnp ok2 (ra.mono s2) rb h2⟩) fun ws s2 ⟨zs, H2, I2, rz, q2⟩ => ⟨I2.kIn, ?_⟩
  rw [hks]
  exact run_fnkS G hr hb (passAt M.tk σ) I2 r rz q2
/-- f(k = a, ..) -/
theorem le_callK0 (M : Mt X c) (G : FnOk X.prog X.w X.K X.mg X.base (L2.CX X.prog X.w) lv f fd ps (spF X.K X.mg np fs)) (hr : Room lv X.A) (hg : Gl X x) (hm : X.mg x = some (.ref f)) (hk : PySem.W.keepIn X.K (.ref f) = true) (hb : KBinds X.K fd ps ks (pickL n m perm) (pickL n m perm)) (hnp : ps.length = np) (hio : fs.io = none)
    (hkw : PK X kws (liftAr c 0 fk)) (hall : (backToKw pos (keywordEach kws X.env)).all (·.1.isSome) = true := by rfl) (hks : (backToKw pos (keywordEach kws X.env)).filterMap (·.1) = ks := by rfl)
    (hdb : (x == ("__debug__" : Str)) = false := by decide)
    (hpl : ((backTo pos (starEach [] X.env)).any (·.1) || (backToKw pos (keywordEach kws X.env)).any (·.1.isNone)) = false := by rfl) : PE X (.Call (.Name x p) [] kws pos) (liftE c (eCallK fs np n m perm rNil fk)) := by
  refine ⟨fun pins s σ H Q I hw => ?_⟩
  obtain ⟨F, ρ, ok, h⟩ := hw
  refine wpAny_Call_Name_kw (ld_glob I hg hm ?_ hdb)
  have h1 : En c F σ (bE (fk ρ) fun bs ρ2 => if (pickL n m perm [] bs).length = np ∧ (pickL n m perm [] bs).all Option.isSome = true then resE (fs.sem (argD .none (pickL n m perm [] bs))) (fun _ => some ρ2) else none) (RE c σ Q) := h
  refine PySem.W.callWith_KW0 (h₀ := X.base) I.ok.mod.kin hk hall (thn (hkw.run pos pins s σ H (fun zs H2 => spF X.K X.mg np fs (pickL n m perm [] zs) H2 Q (WE c.W σ)) I ⟨F, ρ, ok, h1.bind.imp fun bs F2 H2 ρ2 s2 ok2 h2 zs rb => callK_sp M hio hnp ok2 .nil rb h2⟩) fun ws s2 ⟨zs, H2, I2, rz, q2⟩ => ⟨I2.kIn, ?_⟩) hpl
  rw [hks]
  exact run_fnkS G hr hb (passAt M.tk σ) I2 .nil rz q2
end

/-! ### raise -/
section
variable {X : Cx} {c : Fc} {C : Addr} {bmB : List Value} {B newId initId : String}
def sRaise (x : Str) : SF := fun ρ => some (.ex ⟨x, none⟩, ρ)
theorem ls_raise {x m : Str} {j : Nat} {p p2 pos pos' : Pos} (M : Mt X c) (F : ExcBaseFacts B newId initId bmB) (q : PySem.W.excIn X.K C bmB newId = true) (gC : X.mg x = some (.ref C)) (kC : PySem.W.keepIn X.K (.ref C) = true) (r : Raises X (.ref C)) (hg : Gl X x)
    (hdb : (x == ("__debug__" : Str)) = false := by decide) : PS X (.Raise (some (.Call (.Name x p) [.Constant (.str m) j p2] [] pos)) none pos') (liftS c (sRaise x)) :=
  PSi (ps_raise M.calm M.tk (pmk_own F q gC kC r hg hdb)) fun De σ H ⟨F, ρ, ok, h⟩ => by
    obtain ⟨r, ρ', e, q⟩ := h
    cases e
    exact q σ H F (.ref C) none (Same.refl _) ok ⟨by rw [← M.mg]; exact gC, rfl⟩

/-! ### try -/
def catchS (isA : Str → Str → Option Bool) : List (Str × SF) → Xn → Ev → Option (SOut × Ev)
  | [], x, ρ => some (.ex x, ρ)
  | (y, f) :: r, x, ρ => match isA x.cls y with
    | some true => f ρ
    | some false => catchS isA r x ρ
    | none => none
def tryS (isA : Str → Str → Option Bool) (cl : List (Str × SF)) : Option (SOut × Ev) → Option (SOut × Ev)
  | some (.ex x, ρ') => catchS isA cl x ρ'
  | r => r
def sTry (isA : Str → Str → Option Bool) (fb : SF) (cl : List (Str × SF)) : SF := fun ρ => tryS isA cl (fb ρ)
/-- the context of a clause's suite -/
def Suite (X X' : Cx) : Prop := ∃ (a : Addr) (pn : List (Addr × Obj)), X' = X.suite a pn
inductive HdOk (X : Cx) (c : Fc) (isA : Str → Str → Option Bool) : List ExceptHandler → List (Str × SF) → List (Value × (Addr → Value → Option Addr → TS)) → Prop
  | nil : HdOk X c isA [] [] []
  | cons {y : Str} {v : Value} {f : SF} {b₀ : Stmt} {suite : List Stmt} {np pos' : Pos} {hds : List ExceptHandler} {cl : List (Str × SF)} {l : List (Value × (Addr → Value → Option Addr → TS))} (hn : Names X y v) (his : ∀ x u b, isA x y = some b → c.mg x = some u → PySem.W.exmOne X.K u v = some b)
      (hsu : ∀ X', Suite X X' → PSs X' (b₀ :: suite) (liftS c f)) (r : HdOk X c isA hds cl l) : HdOk X c isA (.ExceptHandler (some (.Name y np)) none (b₀ :: suite) pos' :: hds) ((y, f) :: cl) ((v, fun _ _ _ => liftS c f) :: l)
theorem HdOk.hds {isA : Str → Str → Option Bool} {hds : List ExceptHandler} {cl : List (Str × SF)} {l : List (Value × (Addr → Value → Option Addr → TS))} (h : HdOk X c isA hds cl l) : HdsOk X hds l := by
  induction h with
  | nil => exact .nil
  | cons hn his hsu r ih => exact .cons hn (fun a oe cls d pn _ _ => hsu _ ⟨a, _, rfl⟩) ih
theorem Ok.withW {F : Hp} {σ : Sg} {H : Hp} {ρ : Ev} {c : Fc} (ok : Ok c F σ H ρ) (W : WX) : Ok { c with W := W } F σ H ρ := ⟨ok.sub, ok.keep, ok.len, ok.slot, ok.inj, ok.old, ok.new, ok.sub0, ok.ioF, ok.io0, ok.there, ok.lnt⟩
theorem Ok.unW {F : Hp} {σ : Sg} {H : Hp} {ρ : Ev} {c : Fc} {W : WX} (ok : Ok { c with W := W } F σ H ρ) : Ok c F σ H ρ := ⟨ok.sub, ok.keep, ok.len, ok.slot, ok.inj, ok.old, ok.new, ok.sub0, ok.ioF, ok.io0, ok.there, ok.lnt⟩
theorem catch_of {isA : Str → Str → Option Bool} {hds : List ExceptHandler} {cl : List (Str × SF)} {l : List (Value × (Addr → Value → Option Addr → TS))} (hh : HdOk X c isA hds cl l) {De : Ends} {F F' : Hp} {σ : Sg} {H : Hp} {ρ : Ev} {x : Xn} {u : Value} {a : Option Addr} (s : Same F F') (ok : Ok c F' σ H ρ) (xo : XnOk c F' H x u a)
    (h : EnS c F (catchS isA cl x ρ) De) : wMany X.K c.W De l u a σ H := by
  induction hh with
  | nil =>
    obtain ⟨r, ρ', e, q⟩ := h
    cases e
    exact q σ H F' u a s ok xo
  | @cons y v f b₀ suite np pos' hds cl l hn his hsu r ih =>
    cases e : isA x.cls y with
    | none => simp only [catchS, e] at h; exact h.no
    | some b =>
      refine ⟨b, his _ _ _ e xo.1, fun hb _ _ => ?_, fun hb => ?_⟩
      · subst hb
        simp only [catchS, e] at h
        exact liftS_of ok (EnS.mono s h)
      · subst hb
        simp only [catchS, e] at h
        exact ih h
theorem ls_try {isA : Str → Str → Option Bool} {body : List Stmt} {fb : SF} {h₀ : ExceptHandler} {hds : List ExceptHandler} {cl : List (Str × SF)} {l : List (Value × (Addr → Value → Option Addr → TS))} {pos : Pos} (M : Ms X c) (hs : X.stack = X.env :: X.outer) (hf : X.env.frame = some X.env.locals)
    (hb : ∀ (X' : Cx) (c' : Fc), (∃ pn xe, X' = X.tr pn xe) → Ms X' c' → PSs X' body (liftS c' fb)) (hh : HdOk X c isA (h₀ :: hds) cl l) : PS X (.Try body (h₀ :: hds) [] [] pos) (liftS c (sTry isA fb cl)) := by
  refine PSi (ps_try_many (tb := fun W => liftS { c with W := W } fb) hs hf M.tk (fun W pn xe tk po => hb _ _ ⟨pn, xe, rfl⟩ { K := M.K, mg := M.mg, calm := M.calm, nd := M.nd, tk := tk, hu := M.hu, po := po }) hh.hds) fun De σ H ⟨F, ρ, ok, h⟩ => ?_
  obtain ⟨r, ρ', e, q⟩ := id h
  have h : EnS c F (tryS isA cl (fb ρ)) De := h
  cases eb : fb ρ with
  | none => rw [eb] at h; exact EnS.no h
  | some y =>
    obtain ⟨o, ρ1⟩ := y
    rw [eb] at h
    refine ⟨F, ρ, ok.withW _, o, ρ1, eb, ?_⟩
    cases o with
    | nx =>
      obtain ⟨r, ρ', e, q⟩ := h
      cases e
      exact fun σ' H' F' s' ok' => q σ' H' F' s' ok'.unW
    | bk =>
      obtain ⟨r, ρ', e, q⟩ := h
      cases e
      exact fun σ' H' F' s' ok' => q σ' H' F' s' ok'.unW
    | ct =>
      obtain ⟨r, ρ', e, q⟩ := h
      cases e
      exact fun σ' H' F' s' ok' => q σ' H' F' s' ok'.unW
    | rt rv =>
      obtain ⟨r, ρ', e, q⟩ := h
      cases e
      exact fun v σ' H' F' s' ok' rr => q v σ' H' F' s' ok'.unW (by cases rv <;> exact rr)
    | ex x => exact fun σ' H' F' u a s' ok' xo => catch_of hh s' ok'.unW xo h
end
end Vm
end

section
set_option maxRecDepth 100000
set_option maxHeartbeats 4000000
/-! VmI: sorted(set(xs)) of ints and texts: the set as a table of keys. -/
namespace Vm
open PySem PySem.Spec PyProof.Rows L2

def keyV : Value → Key
  | .int k _ => .inl k
  | .str x _ => .inr x
  | _ => .inl 0
def kv (e : Int × Value) : Key := keyV e.2
def GoodK (P : Program) (w : World) (e : Int × Value) : Prop := ∃ k, (mixKind P w).is k e.2 = true ∧ e.1 = (mixKind P w).hash k ∧ e.2.scannable = true
theorem is_kv {P : Program} {w : World} {k : Key} {v : Value} (h : (mixKind P w).is k v = true) : keyV v = k ∧ v.scannable = true := by
  rcases keyIs_shape (show keyIs k v = true from h) with ⟨i, t, rfl, rfl⟩ | ⟨x, t, rfl, rfl⟩ <;> exact ⟨rfl, rfl⟩
theorem good_kv {P : Program} {w : World} {e : Int × Value} (g : GoodK P w e) (k : Key) : (mixKind P w).is k e.2 = true ↔ kv e = k := by
  obtain ⟨k0, h1, _⟩ := g
  have e1 := (is_kv h1).1
  constructor
  · intro h; exact (is_kv h).1
  · intro h
    have : k0 = k := e1.symm.trans h
    rw [← this]; exact h1
theorem good_el {P : Program} {w : World} {l : List (Int × Value)} (g : ∀ e ∈ l, GoodK P w e) : ElemsOf (mixKind P w) l := fun e he => by
  obtain ⟨k, h1, h2, h3⟩ := g e he
  exact ⟨⟨k, h1, h2⟩, h3⟩
/-- the set at a, its keys those of L -/
def SetG (P : Program) (w : World) (h : Heap) (a : Addr) (L : List Key) : Prop :=
  ∃ o es ep t, h.get? a = some o ∧ o.ExactSet ∧ o.data = .set es ep t ∧ (∀ e ∈ es.toList, GoodK P w e) ∧ (es.toList.map kv).Perm L ∧ L.Nodup ∧ es.size < scanBound ∧ t.fits es.size = true ∧ Ris t.place.toList ∧ (w.params.followText "set-order" = true ∨ t.led = true)
theorem SetG.at {P : Program} {w : World} {h h' : Heap} {a : Addr} {L : List Key} (R : SetG P w h a L) (k : ∀ o, h.get? a = some o → h'.get? a = some o) : SetG P w h' a L := by
  obtain ⟨o, es, ep, t, ho, r⟩ := R
  exact ⟨o, es, ep, t, k o ho, r⟩
def inK (L : List Key) (k : Key) : Bool := L.any fun j => decide (j = k)
theorem inK_iff {L : List Key} {k : Key} : inK L k = true ↔ k ∈ L := by
  unfold inK
  rw [List.any_eq_true]
  constructor
  · rintro ⟨j, hj, e⟩
    rw [decide_eq_true_eq] at e
    exact e ▸ hj
  · intro h
    exact ⟨k, h, decide_eq_true rfl⟩
def addK (L : List Key) (k : Key) : List Key := if inK L k = true then L else L ++ [k]
theorem addK_nd {L : List Key} {k : Key} (h : L.Nodup) : (addK L k).Nodup := by
  unfold addK
  split
  · exact h
  · rename_i hk
    exact List.nodup_append.mpr ⟨h, by simp, fun a ha b hb => by simp at hb; subst hb; exact fun e => hk (inK_iff.mpr (e ▸ ha))⟩

section
variable {P : Program} {w : World} {A : Around} {E : Value → Shared → Prop} {s : Shared} {a : Addr} {L : List Key}
theorem setG_tail {g : Bool → Sem Unit} (hg : ∀ (b : Bool) (s₁ : Shared) (Q' : Unit → Shared → Prop), Q' () s₁ → wpAny (model P w) A (g b) Q' E s₁)
    {o : Obj} {es : Array (Int × Value)} {ep : Nat} {t : SetTable} (ho : s.heap.get? a = some o) (hex : o.ExactSet) (hd : o.data = .set es ep t)
    {es1 : Array (Int × Value)} {t2 : SetTable} (g1 : ∀ e ∈ es1.toList, GoodK P w e) (p1 : (es1.toList.map kv).Perm L) (nd : L.Nodup)
    (hb1 : es1.size < scanBound) (hf2 : t2.fits es1.size = true) (hr : Ris t2.place.toList) (hl : w.params.followText "set-order" = true ∨ t2.led = true) {wasDummy : Bool} {R : Option Bool → Shared → Prop}
    (hR : ∀ h', Heap.SameBut a s.heap h' → SetG P w h' a L → R (some true) { s with heap := h' }) :
    wpAny (model P w) A (do
        storeSet a es1 t2
        if (!wasDummy && t2.tooFull) = true then do
            g (relayAll t2 es1 (SetTable.grown es1.size)).2.2
            storeSet a (relayAll t2 es1 (SetTable.grown es1.size)).1 (relayAll t2 es1 (SetTable.grown es1.size)).2.1
            pure (some true)
          else pure (some true)) R E s := by
  refine wpAny_bind (wpAny_storeSet_of ho hd ?_ (fits_of_scanBound hb1))
  have ho1 := store_at (es' := es1) (t' := t2) ho hd
  have sb1 := Heap.SameBut.update s.heap a (Obj.putSet es1 t2)
  split
  · have pm := relayAll_perm t2 es1 (SetTable.grown es1.size)
    have hf3 := relayAll_fits t2 es1 (SetTable.grown es1.size)
    have hr3 := relayAll_ris t2 es1 (SetTable.grown es1.size)
    have hl3 := relayAll_led t2 es1 (SetTable.grown es1.size)
    generalize relayAll t2 es1 (SetTable.grown es1.size) = Z at pm hf3 hr3 hl3 ⊢
    obtain ⟨es2, t3, gave⟩ := Z
    dsimp only at pm hf3 hr3 hl3 ⊢
    have hsz : es2.size = es1.size := by rw [← Array.length_toList, pm.length_eq, Array.length_toList]
    have hb2 : es2.size < scanBound := by rw [hsz]; exact hb1
    refine wpAny_bind (hg _ _ _ ?_)
    refine wpAny_bind (wpAny_storeSet_of ho1 rfl ?_ (fits_of_scanBound hb2))
    have ho2 := store_at (es' := es2) (t' := t3) ho1 rfl
    refine wpAny_pure (hR _ (sb1.trans (Heap.SameBut.update _ a _)) ?_)
    exact ⟨_, es2, _, t3, ho2, hex, rfl, fun e he => g1 e (pm.mem_iff.mp he), (pm.map kv).trans p1, nd, hb2, hf3, hr3, hl.imp id fun z => by rw [hl3]; exact z⟩
  · exact wpAny_pure (hR _ sb1 ⟨_, es1, _, t2, ho1, hex, rfl, g1, p1, nd, hb1, hf2, hr, hl⟩)
theorem setG_add {k : Key} {v : Value} {Q : Bool → Shared → Prop} (R : SetG P w s.heap a L) (hkey : (mixKind P w).is k v = true) (room : L.length + 1 < scanBound)
    (hQ : ∀ b h', Heap.SameBut a s.heap h' → SetG P w h' a (addK L k) → Q b { s with heap := h' }) :
    wpAny (model P w) A (setAddHashed a v ((mixKind P w).hash k)) Q E s := by
  obtain ⟨o, es, ep, t, ho, hex, hd, g, pm0, nd, hb, hf, hr, hl⟩ := R
  have hsc : v.scannable = true := (is_kv hkey).2
  have hel : ElemsOf (mixKind P w) es.toList := good_el g
  have hmem : k ∈ L ↔ ∃ e ∈ es.toList, (mixKind P w).is k e.2 = true := by
    rw [← pm0.mem_iff, List.mem_map]
    constructor
    · rintro ⟨e, he, q⟩
      exact ⟨e, he, (good_kv (g e he) k).2 q⟩
    · rintro ⟨e, he, q⟩
      exact ⟨e, he, (good_kv (g e he) k).1 q⟩
  unfold setAddHashed setAddHashedIn
  refine wpAny_holding (wpAny_bind (wpAny_setState_of ho hd hf ?_))
  dsimp only
  rw [byScan_of hsc hb hel]
  simp only [↓reduceIte]
  unfold setAddByScan
  refine wpAny_bind ?_
  refine wpAny_bind (wpAny_rule ?_)
  refine wpAny_bind (wpAny_setScan_of hkey ho hd hf hel ?_)
  cases hfi : List.findIdx? (fun e => (mixKind P w).is k e.2) es.toList with
  | some j =>
    dsimp only
    obtain ⟨hj, pj, _⟩ := List.findIdx?_eq_some_iff_getElem.mp hfi
    have hk : k ∈ L := hmem.2 ⟨es.toList[j], List.getElem_mem hj, pj⟩
    refine wpAny_pure (wpAny_pure ?_)
    refine hQ _ s.heap (Heap.SameBut.refl a s.heap) ?_
    rw [show addK L k = L from if_pos (inK_iff.mpr hk)]
    exact ⟨o, es, ep, t, ho, hex, hd, g, pm0, nd, hb, hf, hr, hl⟩
  | none =>
    dsimp only
    have hnk : k ∉ L := fun z => by
      obtain ⟨e, he, q⟩ := hmem.1 z
      have c := List.findIdx?_eq_none_iff.mp hfi e he
      rw [q] at c
      cases c
    have hgw : ∀ (b : Bool) {s₁ : Shared} {Q' : Unit → Shared → Prop}, Q' () s₁ → wpAny (model P w) A (match b with | true => rule "set.scan.the-table-gave-way" | false => pure ()) Q' E s₁ :=
      fun b s₁ Q' q => by cases b <;> first | exact wpAny_pure q | exact wpAny_rule q
    have pm := layNew_perm t es ((mixKind P w).hash k) v
    have hf1 := layNew_fits t es ((mixKind P w).hash k) v
    have hr1 := layNew_ris t es ((mixKind P w).hash k) v hr
    have hl1 := layNew_led t es ((mixKind P w).hash k) v
    generalize layNew t es ((mixKind P w).hash k) v = Z at pm hf1 hr1 hl1 ⊢
    obtain ⟨es1, t1, wasDummy, gave⟩ := Z
    dsimp only at pm hf1 hr1 hl1 ⊢
    rw [Array.toList_push] at pm
    have pc : es1.toList.Perm (es.toList ++ [((mixKind P w).hash k, v)]) := pm
    have pk : (es1.toList.map kv).Perm (L ++ [k]) := by
      refine (pc.map kv).trans ?_
      rw [List.map_append]
      refine pm0.append ?_
      show [keyV v].Perm [k]
      rw [(is_kv hkey).1]
    have g1 : ∀ e ∈ es1.toList, GoodK P w e := fun e he => by
      rcases List.mem_append.mp (pc.mem_iff.mp he) with z | z
      · exact g e z
      · rw [List.mem_singleton.mp z]; exact ⟨k, hkey, rfl, hsc⟩
    have hadd : addK L k = L ++ [k] := if_neg fun z => hnk (inK_iff.mp z)
    have nd1 : (L ++ [k]).Nodup := by rw [← hadd]; exact addK_nd nd
    have hsz : es1.size = es.size + 1 := by rw [← Array.length_toList, pc.length_eq, List.length_append, Array.length_toList, List.length_singleton]
    have hes : es.size = L.length := by rw [← pm0.length_eq, List.length_map, Array.length_toList]
    have hb1 : es1.size < scanBound := by rw [hsz, hes]; exact room
    have hled : w.params.followText "set-order" = true ∨ t1.led = true := hl.imp id fun z => by rw [hl1]; exact z
    have fin : ∀ h', Heap.SameBut a s.heap h' → SetG P w h' a (L ++ [k]) → Q true { s with heap := h' } := fun h' sb r => hQ true h' sb (by rw [hadd]; exact r)
    refine wpAny_bind (hgw _ ?_)
    split
    · refine wpAny_bind ?_
      rw [hashByValue_scannable 8 hsc]
      refine wpAny_pure ?_
      refine setG_tail ?_ ho hex hd g1 pk nd1 hb1 ?_ ?_ ?_ ?_
      · intro b s₁ Q' q; cases b <;> first | exact wpAny_pure q | exact wpAny_rule q
      · first | (split <;> first | exact hf1 | exact SetTable.fits_plain_off hf1) | exact hf1
      · first | (split <;> exact hr1) | exact hr1
      · first | (split <;> exact hled) | exact hled
      · intro h' sb r; dsimp only; exact wpAny_pure (fin h' sb r)
    · refine wpAny_bind (wpAny_pure ?_)
      simp only [↓reduceIte]
      refine setG_tail ?_ ho hex hd g1 pk nd1 hb1 hf1 hr1 hled ?_
      · intro b s₁ Q' q; cases b <;> first | exact wpAny_pure q | exact wpAny_rule q
      · intro h' sb r; dsimp only; exact wpAny_pure (fin h' sb r)
end

/-! ### set(xs) -/
def dedup : List Key → List Key → List Key
  | L, [] => L
  | L, k :: r => dedup (addK L k) r
theorem dedup_len : ∀ (r L : List Key), (dedup L r).length ≤ L.length + r.length
  | [], L => by simp [dedup]
  | k :: r, L => by
    have := dedup_len r (addK L k)
    have h2 : (addK L k).length ≤ L.length + 1 := by unfold addK; split <;> simp
    show (dedup (addK L k) r).length ≤ _
    rw [List.length_cons]
    omega
theorem dedup_nd : ∀ (r L : List Key), L.Nodup → (dedup L r).Nodup
  | [], _, h => h
  | _ :: r, _, h => dedup_nd r _ (addK_nd h)
theorem addK_len {L : List Key} {k : Key} : (addK L k).length ≤ L.length + 1 := by unfold addK; split <;> simp
/-- keys and values -/
abbrev KeysAre (P : Program) (w : World) (vs : List Value) (ks : List Key) : Prop := Paired (fun v k => (mixKind P w).is k v = true) vs ks

section
variable {prog : Program} {w : World} {A : Around} {R : Result → Shared → Prop} {I : Addr} {fp wr : List Addr} {G : Array GenState → Array GenState → Prop} {n : Nat} {P : Nat → Value → Prop} {St : Nat → Shared → Prop}
theorem set_update_keys (W : WalksS prog w A.in1 I fp wr G n P St) (S : Addr) (hSf : S ∉ fp) (ks : List Key) (hks : ks.length = n) (hval : ∀ i v k, P i v → ks[i]? = some k → (mixKind prog w).is k v = true) :
    ∀ (k i : Nat) (s : Shared) (L : List Key), n - i = k → i ≤ n → St i s → SetG prog w s.heap S L → L.length + (n - i) + 1 < scanBound →
      (∀ s', Moved (S :: wr) G s s' → SetG prog w s'.heap S (dedup L (ks.drop i)) → R (.ok (.ret .none)) s') →
      codeAny (model prog w) A (.builtin "set.update.loop" ⟨[.ref S, .ref I], []⟩) R s := by
  have hSw : S ∉ wr := fun h => hSf (W.sub _ h)
  have hsub : ∀ b ∈ wr, b ∈ S :: wr := fun b hb => List.mem_cons_of_mem _ hb
  intro k
  induction k with
  | zero =>
    intro i s L hk hi hst hS hb hR
    have hin : i = n := by omega
    subst hin
    refine codeAny_builtin F.entry_set_update_loop ?_
    rw [Around.under_plainId F.plain_set_update_loop _]
    show wpAny _ A.in1 (pyNext (.ref I) >>= _) _ _ s
    refine wpAny_bind (W.done s _ _ hst fun s' hm => ?_)
    show wpAny _ A.in1 (ret Value.none) _ _ s'
    refine wpAny_pure (hR s' (hm.mono hsub) ?_)
    rw [List.drop_eq_nil_of_le (by omega)]
    exact hS.at fun o e => hm.heap S o hSw e
  | succ k ih =>
    intro i s L hk hi hst hS hb hR
    have hlt : i < n := by omega
    have hki : ks[i]? = some ks[i] := List.getElem?_eq_getElem (by omega)
    refine codeAny_builtin F.entry_set_update_loop ?_
    rw [Around.under_plainId F.plain_set_update_loop _]
    show wpAny _ A.in1 (pyNext (.ref I) >>= _) _ _ s
    refine wpAny_bind (W.item i s _ _ hlt hst fun v s' hP hst' hm => ?_)
    have hkey := hval i v _ hP hki
    have hS' : SetG prog w s'.heap S L := hS.at fun o e => hm.heap S o hSw e
    show wpAny _ A.in1 (holding [v] (setAdd S v) >>= _) _ _ s'
    refine wpAny_bind (wpAny_holding ?_)
    unfold setAdd
    refine wpAny_holding ?_
    refine wpAny_bind ((mixKind prog w).pyHash hkey ?_)
    refine setG_add (s := { s' with toks := s'.toks + 1 }) hS' hkey (by omega) fun b h' hsb hS2 => ?_
    refine wpAny_pure ⟨plainId_quiet F.plain_set_update_loop _, ih (i + 1) _ (addK L ks[i]) (by omega) hlt (W.frame _ s' _ _ hst' (Nat.le_succ _) fun b hb o e => ?_) hS2 (by have := addK_len (L := L) (k := ks[i]); omega) fun s'' hm'' hS'' => ?_⟩
    · rw [hsb.2 b (fun h : b = S => hSf (by rw [← h]; exact hb))]; exact e
    · refine hR s'' (Moved.trans W.gtrans ((hm.mono hsub).then_heap (Nat.le_succ _) fun b o hb e => ?_) hm'') ?_
      · rw [hsb.2 b (fun h : b = S => hb (by rw [h]; exact List.mem_cons_self))]; exact e
      · rw [List.drop_eq_getElem_cons (by omega)]
        exact hS''
end
section
variable {prog : Program} {w : World} {A : Around} {E : Value → Shared → Prop} {s : Shared}
theorem code_set_led1 (a : Value) {Q₁ : Value → Shared → Prop}
    (h : Q₁ (.ref s.heap.objs.size) { s with heap := s.heap.push { cls := .type "set", dict := none, data := .set #[] 0 (.fresh 0 0 (!w.params.followText "set-order")) } }) :
    codeAny (model prog w) A (.call (.builtin "set.__new__") ⟨[.type "set", a], []⟩) (wants Q₁ E) s := by
  refine codeAny_of_tree ?_
  show wpAny _ A.in1 (do checkBuiltinCall "set.__new__" ⟨[.type "set", a], []⟩; again (.builtin "set.__new__" ⟨[.type "set", a], []⟩)) _ _ s
  refine wpAny_bind (wpAny_of_eq (F.newCall_set_1 a) (wpAny_pure ⟨plainId_quiet F.plain_set_new _, codeAny_builtin F.entry_set_new ?_⟩))
  rw [Around.under_plainId F.plain_set_new _]
  unfold Builtin.«set.__new__» Builtin.Frozenset.newClass
  have hsub := sub_set_self
  obtain ⟨hp, g, d, tk, os⟩ := s
  dsimp only
  wp_walk
  refine wpAny_askSetting (wpAny_pure ?_)
  dsimp only
  simp only [newObj]
  refine wpAny_bind (wpAny_alloc (wpAny_pure ?_))
  exact wpAny_pure h
theorem setG_fresh (P : Program) (w : World) {h : Heap} {a : Addr} (ho : h.get? a = some { cls := .type "set", dict := none, data := .set #[] 0 (.fresh 0 0 (!w.params.followText "set-order")) }) : SetG P w h a [] :=
  ⟨_, #[], 0, _, ho, ⟨rfl, rfl, rfl⟩, rfl, (fun e he => by simp at he), .refl _, List.nodup_nil, (by decide), (by rfl), List.Pairwise.nil, by
    show _ ∨ (!w.params.followText "set-order") = true
    cases w.params.followText "set-order"
    · exact .inr rfl
    · exact .inl rfl⟩
theorem paired_at {P : Program} : ∀ {vs : List Value} {ks : List Key}, KeysAre P w vs ks → ∀ (i : Nat) v k, vs[i]? = some v → ks[i]? = some k → (mixKind P w).is k v = true
  | _, _, .nil, _, _, _, h, _ => by simp at h
  | _, _, .cons a r, i, v, k, h1, h2 => by
    cases i with
    | zero => simp at h1 h2; subst h1 h2; exact a
    | succ i => exact paired_at r i v k (by simpa using h1) (by simpa using h2)
set_option maxRecDepth 100000 in
set_option maxHeartbeats 6400000 in
theorem call_set_keys {l : Addr} {items : Array Value} {ks : List Key} {Q : Value → Shared → Prop}
    (hh : A.handled = none) (hl : s.heap.IsList l items) (hi : KeysAre prog w items.toList ks) (hb : items.size + 1 < scanBound)
    (h : ∀ (h' : Heap) (tk : Nat), SetG prog w h' s.heap.objs.size (dedup [] ks) → (∀ b o, b < s.heap.objs.size → s.heap.get? b = some o → h'.get? b = some o) → Q (.ref s.heap.objs.size) { s with heap := h', toks := tk }) :
    wpAny (model prog w) A (call (.type "set") [.ref l]) Q E s := by
  obtain ⟨c, tl, hmro⟩ := F.called_set.mro
  have hmade := F.called_set.made
  have hsub := F.called_set.sub
  refine wpAny_call (codeAny_of_tree ?_)
  show wpAny _ _ (callAny (.type "set") _) _ _ _
  refine wpAny_pure ⟨Code.quiet_builtin _ (by decide +kernel), codeAny_builtin F.entry_type_call ?_⟩
  rw [Around.under_plain (weight_type_call_type "set" [.ref l] []) rfl]
  have h1 := F.called_set.notType
  have h2 := F.called_set.canCreate
  have hct := F.typeCall_set_1 (.ref l)
  repeat (any_goals (first | assumption | wp_step))
  refine codeAny_mono (code_set_led1 (.ref l) (E := E) (Q₁ := fun obj s₁ => obj = .ref s.heap.objs.size ∧ s₁ = { s with heap := s.heap.push { cls := .type "set", dict := none, data := .set #[] 0 (.fresh 0 0 (!w.params.followText "set-order")) } }) ⟨rfl, rfl⟩) fun r s₁ hr => ?_
  cases r with
  | error e => exact hr
  | ok fl =>
    cases fl with
    | ret obj =>
      obtain ⟨rfl, rfl⟩ := hr
      have hS : (s.heap.push { cls := .type "set", dict := none, data := .set #[] 0 (.fresh 0 0 (!w.params.followText "set-order")) }).get? s.heap.objs.size = some { cls := .type "set", dict := none, data := .set #[] 0 (.fresh 0 0 (!w.params.followText "set-order")) } := Heap.get?_push_size _ rfl
      have hT : Shared.TypeIs { s with heap := s.heap.push { cls := .type "set", dict := none, data := .set #[] 0 (.fresh 0 0 (!w.params.followText "set-order")) } } (.ref s.heap.objs.size) "set" := ⟨_, hS, rfl⟩
      have hli := F.called_set.init.lookup
      have hbi := F.called_set.init.bind (.ref s.heap.objs.size)
      repeat (any_goals (first | assumption | wp_step))
      refine codeAny_mono (codeAny_call_builtin (R := wants (fun r s₂ => r = .none ∧ ∃ h' tk, s₂ = { s with heap := h', toks := tk } ∧ SetG prog w h' s.heap.objs.size (dedup [] ks) ∧
          (∀ b o, b < s.heap.objs.size → s.heap.get? b = some o → h'.get? b = some o)) E) F.called_set.init.plain F.entry_set_init (check_set_init_1 hT ?_)) fun r₂ s₂ hr₂ => ?_
      · obtain ⟨ol, hol, hcl, nl, hdl⟩ := hl
        obtain ⟨ocls, odict, odata, oslots⟩ := ol
        simp only at hcl hdl
        subst hcl; subst hdl
        have hol' : (s.heap.push { cls := .type "set", dict := none, data := .set #[] 0 (.fresh 0 0 (!w.params.followText "set-order")) }).get? l = some { cls := .type "list", dict := odict, data := .seq items nl, slots := oslots } := Heap.get?_push_of_some _ hol
        have hsls := F.sub_list_set
        have hslf := F.sub_list_frozenset
        have hne : (Value.type "list" == Value.type "dict") = false := by decide
        have hl1 : (s.heap.push { cls := .type "set", dict := none, data := .set #[] 0 (.fresh 0 0 (!w.params.followText "set-order")) }).IsList l items := ⟨_, hol', rfl, nl, rfl⟩
        unfold Builtin.«set.__init__» noKeywords Builtin.Frozenset.updateFrom
        generalize hPI : pyIter = PI
        wp_walk
        subst hPI
        refine wpAny_pyIter_list hl1 ?_
        refine wpAny_bind (wpAny_runValue ?_)
        have hlS : l < s.heap.objs.size := Heap.lt_size hol
        have hh3 : A.in1.in1.in1.handled = none := by simp [hh]
        have hneI : l ≠ (s.heap.push { cls := .type "set", dict := none, data := .set #[] 0 (.fresh 0 0 (!w.params.followText "set-order")) }).objs.size := by
          rw [Heap.size_push]; exact Nat.ne_of_lt (Nat.lt_succ_of_lt hlS)
        have hSf : s.heap.objs.size ∉ [(s.heap.push { cls := .type "set", dict := none, data := .set #[] 0 (.fresh 0 0 (!w.params.followText "set-order")) }).objs.size, l] := by
          rw [Heap.size_push]; simp only [List.mem_cons, List.mem_singleton, List.not_mem_nil, or_false, not_or]
          exact ⟨Nat.ne_of_lt (Nat.lt_succ_self _), Nat.ne_of_gt hlS⟩
        have hkl : ks.length = items.size := by rw [← hi.length, Array.length_toList]
        refine set_update_keys ((Walks.list hh3 _ l hneI items).toS) s.heap.objs.size hSf ks hkl (fun i v k hv hk => paired_at hi i v k (by rw [Array.getElem?_toList]; exact hv) hk) (items.size - 0) 0 _ [] (by omega) (Nat.zero_le _)
          ⟨⟨_, Heap.get?_push_size _ rfl, rfl, rfl⟩, (hl1.push _)⟩ ?hS0 (by simpa using hb) ?hR
        case hS0 =>
          have hget : ((s.heap.push { cls := .type "set", dict := none, data := .set #[] 0 (.fresh 0 0 (!w.params.followText "set-order")) }).push { cls := .type "list_iterator", data := .fields #[.ref l, .int 0 0] }).get? s.heap.objs.size
              = some { cls := .type "set", dict := none, data := .set #[] 0 (.fresh 0 0 (!w.params.followText "set-order")) } := Heap.get?_push_of_some _ hS
          exact setG_fresh prog w hget
        case hR =>
          intro s' hm hS'
          obtain ⟨h', g', d', tk', os'⟩ := s'
          have eg : g' = s.gens := hm.gens
          have ed : d' = s.drawn := hm.drawn
          have eo : os' = s.os := hm.os
          subst eg; subst ed; subst eo
          show wpAny _ _ _ _ _ _
          refine wpAny_pure ?_
          show wpAny _ _ (ret Value.none) _ _ _
          refine wpAny_pure ⟨rfl, h', tk', rfl, hS', fun b o hb e => ?_⟩
          have hb1 : b ≠ s.heap.objs.size := Nat.ne_of_lt hb
          have hb2 : b ≠ (s.heap.push { cls := .type "set", dict := none, data := .set #[] 0 (.fresh 0 0 (!w.params.followText "set-order")) }).objs.size := by
            rw [Heap.size_push]; exact Nat.ne_of_lt (Nat.lt_succ_of_lt hb)
          exact hm.heap b o (by simp only [List.mem_cons, List.mem_singleton, List.not_mem_nil, or_false, not_or]; exact ⟨hb1, hb2⟩) (Heap.get?_push_of_some _ (Heap.get?_push_of_some _ e))
      · cases r₂ with
        | error e => exact hr₂
        | ok fl₂ =>
          cases fl₂ with
          | ret r =>
            obtain ⟨rfl, h', tk, rfl, hS', hk'⟩ := hr₂
            repeat (any_goals (first | assumption | wp_step))
            exact h _ _ hS' hk'
          | _ => exact hr₂.elim
    | _ => exact hr.elim
end
end Vm
end

section
set_option maxRecDepth 100000
set_option maxHeartbeats 4000000
/-! VmJ: sorted(set(xs)), the rule. -/
namespace Vm
open PySem PySem.Spec PyProof.Rows L2
open PySem.W (AllAlike Sortable dataLe TotalLe keyToks EachIs alike)

theorem sorted_perm_eq {β : Type} {le : β → β → Bool} (anti : ∀ a b, le a b = true → le b a = true → a = b) : ∀ {l m : List β}, l.Pairwise (fun a b => le a b = true) → m.Pairwise (fun a b => le a b = true) → l.Perm m → l = m
  | [], m, _, _, p => by rw [List.Perm.nil_eq p]
  | a :: l, [], _, _, p => by have := p.length_eq; simp at this
  | a :: l, b :: m, h1, h2, p => by
    obtain ⟨a1, a2⟩ := List.pairwise_cons.mp h1
    obtain ⟨b1, b2⟩ := List.pairwise_cons.mp h2
    have e : a = b := by
      have ha : a ∈ b :: m := p.mem_iff.mp List.mem_cons_self
      have hb : b ∈ a :: l := p.mem_iff.mpr List.mem_cons_self
      rcases List.mem_cons.mp ha with e | ha
      · exact e
      · rcases List.mem_cons.mp hb with e | hb
        · exact e.symm
        · exact anti a b (a1 b hb) (b1 a ha)
    subst e
    rw [sorted_perm_eq anti a2 b2 (List.Perm.cons_inv p)]
theorem sort_perm {β : Type} {le : β → β → Bool} (T : TotalLe le) (anti : ∀ a b, le a b = true → le b a = true → a = b) {l m : List β} (p : l.Perm m) : l.mergeSort le = m.mergeSort le :=
  sorted_perm_eq anti (PySem.W.sort_pairwise T l) (PySem.W.sort_pairwise T m) (((List.mergeSort_perm l le).trans p).trans (List.mergeSort_perm m le).symm)

def kD : Key → D
  | .inl i => .int i
  | .inr x => .str x
def keyOf' : D → Option Key
  | .int i => some (.inl i)
  | .str x => some (.inr x)
  | _ => none
def keysOf : List D → Option (List Key)
  | [] => some []
  | d :: r => match keyOf' d, keysOf r with
    | some k, some ks => some (k :: ks)
    | _, _ => none
theorem keysOf_eq : ∀ {ds : List D} {ks : List Key}, keysOf ds = some ks → ds = ks.map kD
  | [], _, h => by cases h; rfl
  | d :: r, ks, h => by
    cases e1 : keyOf' d with
    | none => simp only [keysOf, e1] at h; cases h
    | some k =>
      cases e2 : keysOf r with
      | none => simp only [keysOf, e1, e2] at h; cases h
      | some ms =>
        simp only [keysOf, e1, e2] at h
        cases h
        rw [keysOf_eq e2]
        have : d = kD k := by
          cases d <;> first | (cases e1; rfl) | cases e1
        rw [this]; rfl
/-- Python's order of keys -/
def leK : Key → Key → Bool := dataLe false kD
theorem toks_inj {a b : Key} (h : keyToks (kD a) = keyToks (kD b)) : a = b := by
  cases a with
  | inl i =>
    cases b with
    | inl j =>
      have h : ([Sum.inl i] : List (Int ⊕ List Nat)) = [Sum.inl j] := h
      simp at h
      rw [h]
    | inr y =>
      have h : ([Sum.inl i] : List (Int ⊕ List Nat)) = [Sum.inr y.cps.toList] := h
      simp at h
  | inr x =>
    cases b with
    | inl j =>
      have h : ([Sum.inr x.cps.toList] : List (Int ⊕ List Nat)) = [Sum.inl j] := h
      simp at h
    | inr y =>
      have h : ([Sum.inr x.cps.toList] : List (Int ⊕ List Nat)) = [Sum.inr y.cps.toList] := h
      simp only [List.cons.injEq, Sum.inr.injEq, and_true] at h
      rw [PySem.W.str_of_cps h]
theorem leK_anti (a b : Key) (h1 : leK a b = true) (h2 : leK b a = true) : a = b := by
  have h1 : (!PyProof.Rows.lexLt PyProof.Rows.itemOrd (keyToks (kD b)) (keyToks (kD a))) = true := h1
  have h2 : (!PyProof.Rows.lexLt PyProof.Rows.itemOrd (keyToks (kD a)) (keyToks (kD b))) = true := h2
  rw [Bool.not_eq_true'] at h1 h2
  exact toks_inj (PyProof.Rows.lex_total _ _ h2 h1)
theorem leK_total : TotalLe leK := PySem.W.sortLe_total (PyProof.Rows.listOrd PyProof.Rows.itemOrd) false fun b => keyToks (kD b)
def sortK (L : List Key) : List Key := L.mergeSort leK
/-- all ints, or all texts -/
def sameK (L : List Key) : Bool := L.all Sum.isLeft || L.all Sum.isRight
theorem sameK_alike {L : List Key} (h : sameK L = true) : AllAlike (L.map kD) := by
  intro d hd d' hd'
  obtain ⟨k, hk, rfl⟩ := List.mem_map.mp hd
  obtain ⟨k', hk', rfl⟩ := List.mem_map.mp hd'
  unfold sameK at h
  rw [Bool.or_eq_true, List.all_eq_true, List.all_eq_true] at h
  rcases h with h | h
  · have a := h k hk
    have b := h k' hk'
    cases k with
    | inl i =>
      cases k' with
      | inl j => rfl
      | inr y => cases b
    | inr x => cases a
  · have a := h k hk
    have b := h k' hk'
    cases k with
    | inr i =>
      cases k' with
      | inr j => rfl
      | inl y => cases b
    | inl x => cases a
theorem kD_sortable (L : List Key) : Sortable (L.map kD) := .inr fun d hd => by
  obtain ⟨k, _, rfl⟩ := List.mem_map.mp hd
  cases k <;> exact ⟨(fun z => nomatch z), fun xs z => nomatch z⟩

section
variable {P : Program} {w : World} {A : Around} {E : Value → Shared → Prop} {s : Shared} {a : Addr} {L : List Key}
theorem is_reads {h : Heap} {v : Value} {k : Key} (q : (mixKind P w).is k v = true) : Reads h v (kD k) [] := by
  rcases keyIs_shape (show keyIs k v = true from q) with ⟨i, t, rfl, rfl⟩ | ⟨x, t, rfl, rfl⟩
  · exact .int i t
  · exact .str x t
theorem each_of {vs : List Value} (h : ∀ v ∈ vs, (mixKind P w).is (keyV v) v = true) : EachIs (fun v k => (mixKind P w).is k v = true) vs (vs.map keyV) := by
  induction vs with
  | nil => exact .nil
  | cons v r ih => exact .cons (h v List.mem_cons_self) (ih fun u hu => h u (List.mem_cons_of_mem _ hu))
theorem sorted_setG {Q : Value → Shared → Prop} (R : SetG P w s.heap a L) (hsame : sameK L = true) (hh : A.handled = none) (hu : A.units + 70 < cLine)
    (hQ : ∀ s' p (out : Array Value) (c : Nat), (∀ b o, s.heap.get? b = some o → s'.heap.get? b = some o) → s'.gens = s.gens → s'.os = s.os → s.heap.objs.size ≤ p →
      s'.heap.get? p = some (seqObj "list" out c) → EachIs (fun v k => (mixKind P w).is k v = true) out.toList (sortK L) → Q (.ref p) s') :
    wpAny (model P w) A (call (.builtin "sorted") [.ref a]) Q E s := by
  obtain ⟨o, es, ep, t, ho, hex, hd, g, pm0, nd, hb, hf, hr, hl⟩ := R
  refine Calls.call_function_entry kind_sorted plain_sorted entry_sorted (args_sorted1 _) ?_
  unfold Builtin.«sorted»
  refine wpAny_bind (m := checkCount "sorted" 1 1 _) (wpAny_pure ?_)
  refine wpAny_bind (collect_set (A := A.in1) hh ⟨o, ho, hex.1, hd⟩ hf hb hr hl fun s1 vs k1 hz g1 o1 pm => ?_)
  have hvl : vs.length = es.size := by rw [pm.length_eq, List.length_map, Array.length_toList]
  have hvz : vs.length ≤ sizeLine := by
    rw [hvl]
    exact Nat.le_of_lt (Nat.lt_of_lt_of_le hb (by decide))
  have hI : EachIs (fun v k => (mixKind P w).is k v = true) vs (vs.map keyV) := each_of fun v hv => by
    obtain ⟨e, he, q⟩ := List.mem_map.mp (pm.mem_iff.mp hv)
    obtain ⟨k, h1, _⟩ := g e he
    rw [← q, (is_kv h1).1]
    exact h1
  have pk : (vs.map keyV).Perm L := by
    have q := pm.map keyV
    rw [List.map_map] at q
    exact q.trans pm0
  refine wpAny_bind (wpAny_newList ?_ hvz)
  have hoL : (s1.heap.push (seqObj "list" vs.toArray 0)).get? s1.heap.objs.size = some (seqObj "list" vs.toArray 0) := Heap.get?_push_size _ rfl
  have hsm : sameK (vs.map keyV) = true := by
    unfold sameK at hsame ⊢
    rw [Bool.or_eq_true, List.all_eq_true, List.all_eq_true] at hsame ⊢
    exact hsame.imp (fun h x hx => h x (pk.mem_iff.mp hx)) fun h x hx => h x (pk.mem_iff.mp hx)
  refine wpAny_bind (wpAny_holding (PySem.W.list_sort_data (A := A.in1) (s := { s1 with heap := s1.heap.push (seqObj "list" vs.toArray 0) }) (R := fun v k => (mixKind P w).is k v = true) (enc := kD) (bs := vs.map keyV) hoL hI
    (hI.mono fun v k q => ⟨[], is_reads q, fun z => nomatch z⟩) (sameK_alike hsm) (kD_sortable _) (by rw [List.length_map]; exact hvz) (fun k _ => by
      have : (kD k).depth = 0 := by cases k <;> rfl
      rw [this]
      show A.units + 1 + 1 + 0 < cLine
      omega) fun out hlo heo => ?_))
  obtain ⟨c, hc⟩ := sortedHeap_at (vs := vs) (out := out.toArray) hoL
  refine wpAny_pure ⟨_, rfl, hQ { s1 with heap := sortedHeap (s1.heap.push (seqObj "list" vs.toArray 0)) s1.heap.objs.size vs out.toArray } s1.heap.objs.size out.toArray c (fun b u e => ?_) g1 o1 hz hc ?_⟩
  · have q := k1 b u e
    have hlt := Heap.lt_size q
    show (sortedHeap (s1.heap.push (seqObj "list" vs.toArray 0)) s1.heap.objs.size vs out.toArray).get? b = some u
    rw [sortedHeap_old (Nat.ne_of_lt hlt) (by rw [size_push']; exact Nat.lt_succ_of_lt hlt)]
    exact Heap.get?_push_of_some _ q
  · show EachIs _ out (sortK L)
    have : sortK L = (vs.map keyV).mergeSort (dataLe false kD) := (sort_perm leK_total leK_anti pk).symm
    rw [this]
    exact heo
end

/-! ### as values -/
def SetGO (P : Program) (w : World) (a : Addr) (L : List Key) : HO := .ext fun h => SetG P w h a L
section
variable {X : Cx} {c : Fc}
theorem setGO_new {w : World} {P : Program} {H : Hp} {h : Heap} {a : Addr} {L : List Key} (R : SetG P w h a L) : ObjOk P w H h a (SetGO P w a L) := by
  have ⟨o, _, _, _, ho, _⟩ := R
  exact ⟨R, ⟨o, ho⟩, fun h1 h2 p k => SetG.at p k⟩
def rSetG (K : PySem.W.Frag) (P : Program) (w : World) : List V → Hp → VK → Prop := fun xs H Q => ∃ a ks, xs = [V.ref a] ∧ SqL K H a (ks.map kV) ∧ ks.length + 1 < scanBound ∧ ∀ p, H p = none → Q (.ref p) (upd H p (SetGO P w p (dedup [] ks)))
theorem keysAre_of {P : Program} {w : World} : ∀ {ks : List Key} {vs : List Value}, Vals (ks.map kV) vs → KeysAre P w vs ks
  | [], _, r => by cases r; exact .nil
  | k :: ks, _, r => by
    cases r with
    | cons a t => exact .cons (kV_is a) (keysAre_of t)
theorem cr_setG (hc : X.calm = true) : CallR X (.type "set") (rSetG X.K X.prog X.w) := by
  intro pins s σ H xs us Q I r h
  obtain ⟨a, ks, rfl, hq, hz, q⟩ := h
  rw [Vals.ref1 r]
  obtain ⟨its, rv, pl, _⟩ := I.list hq
  have hl := rv.length
  refine call_set_keys (ks := ks) (I.ok.hd hc) pl.isList (by simpa using keysAre_of rv) (by rw [List.size_toArray, ← hl, List.length_map]; exact hz) fun h' tk hS hk => ?_
  exact ⟨.ref _, upd H s.heap.objs.size (SetGO X.prog X.w s.heap.objs.size (dedup [] ks)), I.laid (t' := tk) (fun b u e => hk b u (Heap.lt_size e) e) (Nat.le_refl _) (setGO_new hS), rfl, q _ (I.hok.fresh (Nat.le_refl _))⟩
def rSortG (P : Program) (w : World) : List V → Hp → VK → Prop := fun xs H Q => ∃ a L, xs = [V.ref a] ∧ H a = some (SetGO P w a L) ∧ sameK L = true ∧ L.length ≤ sizeLine ∧ ∀ p, H p = none → Q (.ref p) (upd H p (.lst ((sortK L).map kV)))
theorem vals_of_each {P : Program} {w : World} : ∀ {ks : List Key} {vs : List Value}, EachIs (fun v k => (mixKind P w).is k v = true) vs ks → Vals (ks.map kV) vs
  | _, _, .nil => .nil
  | k :: ks, _, .cons a t => by
    refine .cons ?_ (vals_of_each t)
    rcases keyIs_shape (show keyIs k _ = true from a) with ⟨i, t, rfl, rfl⟩ | ⟨x, t, rfl, rfl⟩
    · exact ⟨t, rfl⟩
    · exact ⟨t, rfl⟩
theorem cr_sortedG (hc : X.calm = true) (hu : X.A.units + 70 < cLine) : CallR X (.builtin "sorted") (rSortG X.prog X.w) := by
  intro pins s σ H vs us Q I r h
  obtain ⟨a, L, rfl, ha, hs, hz, q⟩ := h
  have R : SetG X.prog X.w s.heap a L := (I.hok a _ ha).1
  rw [Vals.ref1 r]
  refine sorted_setG R hs (I.ok.hd hc) hu fun s' p out c k g o hp hg he => ?_
  have hn : H p = none := I.hok.fresh hp
  have hlen : ((sortK L).map kV).length ≤ sizeLine := by
    rw [List.length_map]
    unfold sortK
    rw [List.length_mergeSort]
    exact hz
  have J : Inv X pins σ (upd H p (.lst ((sortK L).map kV))) { s with heap := s'.heap, gens := s'.gens, drawn := s'.drawn, toks := s'.toks } :=
    I.call (ch := []) (Un.laid k hp hn) (I.hok.laid k hp ⟨hlen, out.toList, c, vals_of_each he, hg⟩) (by rw [g]; exact I.bare) (fun _ z => nomatch z)
  have e : s' = { s with heap := s'.heap, gens := s'.gens, drawn := s'.drawn, toks := s'.toks } := by
    cases s'
    cases s
    cases o
    rfl
  rw [e]
  exact ⟨.ref p, _, J, rfl, q p hn⟩

/-! ### the rule -/
def unSortSet : UOp
  | .list ds => match keysOf ds with
    | some ks => if ks.length + 1 < scanBound ∧ sameK (dedup [] ks) = true then some (.f (.list ((sortK (dedup [] ks)).map kD))) else none
    | none => none
  | _ => none
theorem RpA.keys {K : PySem.W.Frag} {F : Hp} : ∀ {ks : List Key} {vs : List V}, RpA K F vs (ks.map kD) → vs = ks.map kV
  | [], _, .nil => rfl
  | k :: r, _, .cons a t => by
    rw [RpA.keys t]
    cases k with
    | inl i => cases a; rfl
    | inr x => cases a; rfl
theorem RpA.ofKeys {K : PySem.W.Frag} {F : Hp} : ∀ (ks : List Key), RpA K F (ks.map kV) (ks.map kD)
  | [] => .nil
  | .inl i :: r => .cons (.int i) (RpA.ofKeys r)
  | .inr x :: r => .cons (.str x) (RpA.ofKeys r)
theorem le_sortset {e : Expr} {fe : EF} {p p2 pos pos2 : Pos} (M : Mt X c) (he : PE X e (liftE c fe)) (hg : Gl X "sorted") (hm : X.mg "sorted" = none) (hg2 : Gl X "set") (hm2 : X.mg "set" = none)
    (hs1 : starEach [e] X.env = (false, eval e X.env) :: starEach [] X.env := by rfl) (hpl1 : (backTo pos2 (starEach [] X.env)).any (·.1) = false := by rfl)
    (hs2 : starEach [.Call (.Name "set" p2) [e] [] pos2] X.env = (false, eval (.Call (.Name "set" p2) [e] [] pos2) X.env) :: starEach [] X.env := by rfl) (hpl2 : (backTo pos (starEach [] X.env)).any (·.1) = false := by rfl) :
    PE X (.Call (.Name "sorted" p) [.Call (.Name "set" p2) [e] [] pos2] [] pos) (liftE c (eUn unSortSet fe)) := by
  have h1 := pe_callTy (pos := pos2) (p := p2) (cr_setG M.calm) hg2 hm2 PyProof.Rows.boot_set (pa_cons he pa_nil hs1) (by decide) (by decide) hs1 hpl1
  refine PEi (pe_callB (cr_sortedG M.calm (by have := M.hu; omega)) hg hm PyProof.Rows.boot_sorted (pa_cons h1 pa_nil hs2) (by decide) (by decide) hs2 hpl2) fun σ H Q h => ?_
  refine le_then h fun F1 H1 ρ1 v rv ok1 r1 h1 => ?_
  cases e1 : rd ρ1 rv with
  | none => rw [e1] at h1; exact h1.no
  | some d =>
    rw [e1] at h1
    cases d with
    | list ds =>
      have h1 : En c F1 σ ((unSortSet (.list ds)).map fun r => (Except.ok r, ρ1)) (RE c σ Q) := h1
      cases e2 : keysOf ds with
      | none => simp only [unSortSet, e2] at h1; exact h1.no
      | some ks =>
        simp only [unSortSet, e2] at h1
        split at h1
        · rename_i hh
          obtain ⟨a, vs, rfl, hr, rr⟩ := (r1.vw ok1 e1).list ok1.sub
          rw [keysOf_eq e2] at rr
          rw [rr.keys] at hr
          refine ⟨a, ks, rfl, .inl hr, hh.1, fun q hq => ?_⟩
          have ok2 := ok1.laid (o := SetGO X.prog X.w q (dedup [] ks)) hq
          have hd := dedup_len ks []
          refine ⟨q, dedup [] ks, rfl, upd_same, hh.2, by
            have := hh.1
            have h2 : scanBound ≤ sizeLine := by decide
            simp only [List.length_nil, Nat.zero_add] at hd
            omega, fun p' hp' => ?_⟩
          have fin : Fin c ρ1 F1 σ (upd H1 q (SetGO X.prog X.w q (dedup [] ks))) Q (.f (.list ((sortK (dedup [] ks)).map kD))) := fun v' H' F' s' ok' r2 => by
            obtain ⟨r3, ρ', e3, q3⟩ := h1
            cases e3
            exact q3 H' F' s' ok' v' r2
          exact fin.newL ok2 (RpA.ofKeys _) hp'
        · exact h1.no
    | _ => exact h1.no
end
end Vm
end

section
set_option maxRecDepth 100000
set_option maxHeartbeats 4000000
/-! VmK: t[::-1]; the rules with the facts of a context in one. -/
namespace Vm
open PySem PySem.Spec PyProof.Rows L2

/-! ### xs[::-1] -/
theorem fm_congr {α β : Type} {f g : α → Option β} : ∀ {l : List α}, (∀ x ∈ l, f x = g x) → l.filterMap f = l.filterMap g
  | [], _ => rfl
  | x :: r, h => by rw [List.filterMap_cons, List.filterMap_cons, h x List.mem_cons_self, fm_congr fun y hy => h y (List.mem_cons_of_mem _ hy)]
theorem rev_pick (vs : List Value) : ((List.range vs.length).filterMap fun (k : Nat) => vs.toArray[(((vs.length : Int) - 1) + (k : Int) * (-1)).toNat]?).toArray = vs.reverse.toArray := by
  have h := HT.pick_gen vs.reverse.toArray 0 vs.length
  have e : ((List.range vs.length).filterMap fun (k : Nat) => vs.toArray[(((vs.length : Int) - 1) + (k : Int) * (-1)).toNat]?) = ((List.range vs.length).filterMap fun (m : Nat) => vs.reverse.toArray[(((0 : Nat) : Int) + (m : Int) * 1).toNat]?) := by
    refine fm_congr fun k hk => ?_
    have hk : k < vs.length := List.mem_range.mp hk
    have e1 : (((vs.length : Int) - 1) + (k : Int) * (-1)).toNat = vs.length - 1 - k := by omega
    have e2 : (((0 : Nat) : Int) + (k : Int) * 1).toNat = k := by omega
    rw [e1, e2]
    rw [List.getElem?_toArray, List.getElem?_toArray, List.getElem?_reverse hk]
  rw [e, h]
  have e3 : vs.reverse.take vs.length = vs.reverse := List.take_of_length_le (by simp)
  simp [e3]
theorem places_rev (n : Nat) : Builtin.Slice.slicePlaces ((n : Int) - 1) (-1) (-1) = n := by
  unfold Builtin.Slice.slicePlaces
  have h1 : ¬ ((-1 : Int) > 0) := by omega
  simp only [h1, if_false]
  split <;> simp <;> omega
section
variable {prog : Program} {w : World} {A : Around} {E : Value → Shared → Prop} {s : Shared}
theorem sliceApplied_rev {sl : Addr} {vs : Value} {n : Nat} {Q : Int × Int × Nat → Shared → Prop} (hs : s.heap.IsSliceOf sl .none .none vs) (ps : IsPart vs (some (-1)))
    (h : Q ((n : Int) - 1, -1, n) s) : wpAny (model prog w) A (Builtin.Slice.sliceApplied (.ref sl) (pure (n : Int))) Q E s := by
  obtain ⟨os, hos, hcs, hds⟩ := id hs
  unfold Builtin.Slice.sliceApplied Builtin.Slice.sliceFields
  refine wpAny_bind (wpAny_bind (wpAny_field hos hds (x := .none) rfl (wpAny_bind (wpAny_field hos hds (x := .none) rfl (wpAny_bind (wpAny_field hos hds (x := vs) rfl (wpAny_pure ?_)))))))
  refine wpAny_bind (HT.slicePart_ ps ?_)
  show wpAny _ _ (if ((-1 : Int) == 0) = true then _ else _) _ _ s
  rw [if_neg (by decide)]
  refine wpAny_bind (slicePart_none (wpAny_bind (slicePart_none (wpAny_bind (wpAny_pure ?_)))))
  show wpAny _ _ (pure ((n : Int) - 1, (-1 : Int), Builtin.Slice.slicePlaces ((n : Int) - 1) (-1) (-1))) _ _ s
  rw [places_rev]
  exact wpAny_pure h
theorem getItem_tuple_rev {t sl : Addr} {items : List Value} {vk : Value} {Q : Value → Shared → Prop} (ht : IsTup s.heap t items.toArray) (hs : s.heap.IsSliceOf sl .none .none vk) (ps : IsPart vk (some (-1)))
    (h : Q (.ref s.heap.objs.size) { s with heap := s.heap.push { cls := .type "tuple", data := .seq items.reverse.toArray } }) (hsz : items.length ≤ sizeLine) : wpAny (model prog w) A (getItem (.ref t) (.ref sl)) Q E s := by
  have hz : sizeOk (.seq items.reverse.toArray) := by
    show items.reverse.toArray.size ≤ sizeLine
    rw [List.size_toArray, List.length_reverse]
    exact hsz
  obtain ⟨os, hos, hcs, hds⟩ := id hs
  have hTs : s.TypeIs (.ref sl) "slice" := ⟨os, hos, hcs⟩
  unfold getItem
  try with_reducible refine wpAny_holding ?_
  first | refine wpAny_bind (wpAny_pure ?_) | skip
  refine wpAny_bind (wpAny_sequenceKey ht.typeIs (by decide) ?_)
  refine wpAny_bind (wpAny_callSpecial?_slot (name := Str.ofString "__getitem__") ht.typeIs PyProof.Rows.slot_tuple_getitem
    (wpAny_call_entry PyProof.Rows.slot_tuple_getitem ht.typeIs entry_tuple_getitem ?_ (args_tuple_getitem _ _)))
  show wpAny _ _ (Builtin.Tuple.tupleItemsOf (.ref t) >>= _) _ _ s
  refine wpAny_bind (tupleItemsOf_ ht ?_)
  refine wpAny_bind (wpAny_typeOf hTs ?_)
  rw [if_pos (by decide)]
  refine wpAny_bind (sliceApplied_rev (n := items.toArray.size) hs ps ?_)
  have hno : ¬ ((((items.toArray.size : Int) - 1 == 0) && ((-1 : Int) == 1) && (items.toArray.size == items.toArray.size)) = true) := by
    intro q
    rw [Bool.and_eq_true, Bool.and_eq_true] at q
    exact absurd q.1.2 (by decide)
  show wpAny _ _ (if (((items.toArray.size : Int) - 1 == 0) && ((-1 : Int) == 1) && (items.toArray.size == items.toArray.size)) = true then _ else _) _ _ s
  rw [if_neg hno, List.size_toArray, rev_pick]
  first
    | exact wpAny_bind (m := Builtin.Tuple.tupleExact _) (wpAny_newObj_type (wpAny_pure ⟨_, rfl, wpAny_pure h⟩) hz)
    | exact wpAny_bind (m := Builtin.Tuple.tupleExact _) (wpAny_newObj_type (wpAny_bind (wpAny_pure (wpAny_pure ⟨_, rfl, wpAny_pure h⟩))) hz)
    | exact wpAny_bind (wpAny_bind (m := Builtin.Tuple.tupleExact _) (wpAny_newObj_type (wpAny_pure (wpAny_pure ⟨_, rfl, wpAny_pure h⟩)) hz))
    | exact wpAny_bind (wpAny_bind (m := Builtin.Tuple.tupleExact _) (wpAny_newObj_type (wpAny_pure ⟨_, rfl, wpAny_pure h⟩) hz))
end
def unRev : UOp
  | .list ds => some (.f (.list ds.reverse))
  | .tuple ds => some (.v (.tuple ds.reverse))
  | _ => none
def unRevT : UOp
  | .tuple ds => some (.v (.tuple ds.reverse))
  | _ => none
def eRevT (fe : EF) : EF := eUn unRevT fe
def tRevT (K : PySem.W.Frag) (te : TE) : TE := fun σ H Q => te σ H fun x H1 => ∃ a xs, x = .ref a ∧ SqT K H1 a xs ∧ ∀ p, H1 p = none → Q (.ref p) (upd H1 p (.tup xs.reverse))
section
variable {X : Cx} {c : Fc}
theorem pe_revT {e : Expr} {te : TE} {k : Nat} {p1 p2 p3 pos : Pos} (he : PE X e te) : PE X (.Subscript e (.Slice none none (some (.UnaryOp .USub (.Constant (.int 1) k p1) p2)) p3) pos) (tRevT X.K te) := by
  refine ⟨fun pins s σ H Q I h => ?_⟩
  refine Subscript_ (thn (he.run pins s σ H _ I h) fun v s1 ⟨x, H1, I1, r1, q1⟩ => ?_)
  obtain ⟨a, xs, ex, hx, q⟩ := q1
  subst ex
  cases r1
  have hst : PO X (some (.UnaryOp .USub (.Constant (.int 1) k p1) p2)) (tPart (tUn (rU fun i => .int (-i)) (tC (.int 1)))) := po_some (pe_un un_neg pe_int)
  refine wpAny_Slice ?_
  rw [evalPart_none]
  refine wpAny_pure (wpAny_pure ?_)
  refine thn (hst.run pins s1 σ H1 (fun o H4 => o = some (-1) ∧ H4 = H1) I1 ⟨1, rfl, -1, rfl, rfl, rfl⟩) fun vs s4 ⟨o, H4, I4, ps, eo, e4⟩ => ?_
  subst eo e4
  have I5 : Inv X pins σ H4 { s4 with heap := s4.heap.push { cls := .type "slice", data := .fields #[.none, .none, vs] } } := I4.kept (t' := s4.toks) fun b ob q => Heap.get?_push_of_some _ q
  obtain ⟨its, r, ht, hz⟩ := I5.tuple hx
  have hlen := r.length
  show wpAny (model X.prog X.w) X.A (subscriptTail e (.Slice none none (some (.UnaryOp .USub (.Constant (.int 1) k p1) p2)) p3) (.ref a) (.ref s4.heap.objs.size)) (EP X pins σ Q) X.xe { s4 with heap := s4.heap.push { cls := .type "slice", data := .fields #[.none, .none, vs] } }
  refine tail_any (ops := [.ref a, .ref s4.heap.objs.size]) ht.typeIs (PyProof.Rows.slot_tuple_getitem.lookup) ?_ (by with_unfolding_all rfl)
  refine getItem_tuple_rev ht (Heap.IsSliceOf.new _ .none .none vs) ps ?_ (by omega)
  refine ⟨.ref _, _, I5.laid (t' := s4.toks) (o := .tup xs.reverse) (fun b ob q => Heap.get?_push_of_some _ q) (Nat.le_refl _) ?_, rfl, q _ (I5.hok.fresh (Nat.le_refl _))⟩
  exact ⟨by rw [List.length_reverse]; exact hz, _, r.reverse, IsTup.new _ _⟩
theorem le_revT {e : Expr} {fe : EF} {k : Nat} {p1 p2 p3 pos : Pos} (M : Mt X c) (he : PE X e (liftE c fe)) : PE X (.Subscript e (.Slice none none (some (.UnaryOp .USub (.Constant (.int 1) k p1) p2)) p3) pos) (liftE c (eRevT fe)) := by
  refine PEi (pe_revT he) fun σ H Q h => ?_
  refine le_then h fun F1 H1 ρ1 v rv ok1 r1 h1 => ?_
  obtain ⟨F, σ', ρ, a, rv', ok, wa, e, q⟩ := opt1_of h1 ok1 r1
  cases a with
  | tuple ds =>
    cases e
    obtain ⟨p, vs, rfl, h, rr⟩ := wa.tuple ok.sub
    exact ⟨p, vs, rfl, by rw [M.K]; exact h, fun l n => q.newT ok rr.reverse n⟩
  | _ => cases e
end
end Vm
end

section
set_option maxRecDepth 100000
set_option maxHeartbeats 4000000
/-! VmL: the rules with the facts of a context in one. -/
namespace Vm
open PySem PySem.Spec PyProof.Rows L2

def visB (sc : Scope) (x : Str) : Bool :=
  match sc.names.lookup x with
  | some .local => true
  | some .cell => true
  | some .free => true
  | _ => false
def locB (sc : Scope) (x : Str) : Bool :=
  match sc.names.lookup x with
  | some .local => true
  | some .cell => true
  | _ => false
theorem visB_of {sc : Scope} {x : Str} (h : visB sc x = true) : Vis sc x := by
  unfold visB at h
  unfold Vis
  split at h
  · rename_i e; exact .inl e
  · rename_i e; exact .inr (.inl e)
  · rename_i e; exact .inr (.inr e)
  · cases h
theorem locB_of {sc : Scope} {x : Str} (h : locB sc x = true) : Loc sc x := by
  unfold locB at h
  unfold L2.Loc
  split at h
  · rename_i e; exact .inl e
  · rename_i e; exact .inr e
  · cases h
def atB (N : List Str) (i : Nat) (x : Str) : Bool := decide (N[i]? = some x)
def noDbg (x : Str) : Bool := !(x == ("__debug__" : Str)) && !(x == ("__classdict__" : Str)) && !decide (x = "__name__")
def okVar (N : List Str) (sc : Scope) (i : Nat) (x : Str) : Bool := atB N i x && visB sc x && noDbg x
def okGl (sc : Scope) (x : Str) : Bool := (match sc.names.lookup x with | some .globalImplicit => true | _ => false) && noDbg x
theorem noDbg_of {x : Str} (h : noDbg x = true) : (x == ("__debug__" : Str)) = false ∧ (x == ("__classdict__" : Str)) = false ∧ x ≠ "__name__" := by
  unfold noDbg at h
  rw [Bool.and_eq_true, Bool.and_eq_true, Bool.not_eq_true', Bool.not_eq_true', Bool.not_eq_true', decide_eq_false_iff_not] at h
  exact ⟨h.1.1, h.1.2, h.2⟩
theorem okVar_of {N : List Str} {sc : Scope} {i : Nat} {x : Str} (h : okVar N sc i x = true) : N[i]? = some x ∧ Vis sc x ∧ (x == ("__debug__" : Str)) = false ∧ (x == ("__classdict__" : Str)) = false := by
  unfold okVar at h
  rw [Bool.and_eq_true, Bool.and_eq_true] at h
  obtain ⟨⟨h1, h2⟩, h3⟩ := h
  obtain ⟨a, b, _⟩ := noDbg_of h3
  exact ⟨of_decide_eq_true h1, visB_of h2, a, b⟩
theorem okGl_of {sc : Scope} {x : Str} (h : okGl sc x = true) : sc.names.lookup x = some .globalImplicit ∧ (x == ("__debug__" : Str)) = false ∧ x ≠ "__name__" := by
  unfold okGl at h
  rw [Bool.and_eq_true] at h
  obtain ⟨h1, h3⟩ := h
  obtain ⟨a, _, b⟩ := noDbg_of h3
  refine ⟨?_, a, b⟩
  split at h1
  · rename_i e; exact e
  · cases h1

/-- what is known of a context, without its room -/
structure Fx0 (P : Program) (w : World) (K : PySem.W.Frag) (mg : Str → Option Value) (base : Heap) (N : List Str) (sc : Scope) (X : Cx) : Prop where
  prog : X.prog = P
  w : X.w = w
  K : X.K = K
  mg : X.mg = mg
  base : X.base = base
  N : X.N = N
  sc : X.env.scope = sc
structure Fx (P : Program) (w : World) (K : PySem.W.Frag) (mg : Str → Option Value) (base : Heap) (N : List Str) (sc : Scope) (lv : Nat) (X : Cx) : Prop extends Fx0 P w K mg base N sc X where
  room : Room lv X.A
section
variable {P : Program} {w : World} {K : PySem.W.Frag} {mg : Str → Option Value} {base : Heap} {N : List Str} {sc : Scope} {lv : Nat} {X X' : Cx} {c : Fc} {pos p p2 pos2 : Pos} {e a b : Expr} {es : List Expr} {fe fa fb : EF}
theorem Fx.blk (fx : Fx P w K mg base N sc lv X) {scope : Scope} (h : Blk X scope X') : Fx P w K mg base N (relS scope sc) lv X' := by
  obtain ⟨s, H, C, cl, fp, rfl⟩ := h
  exact ⟨⟨fx.prog, fx.w, fx.K, fx.mg, fx.base, fx.N, by rw [← fx.sc]; rfl⟩, fx.room⟩
theorem Fx.tr (fx : Fx P w K mg base N sc lv X) (h : ∃ pn xe, X' = X.tr pn xe) : Fx P w K mg base N sc lv X' := by
  obtain ⟨pn, xe, rfl⟩ := h
  exact ⟨⟨fx.prog, fx.w, fx.K, fx.mg, fx.base, fx.N, fx.sc⟩, fx.room⟩
theorem Fx.suite (fx : Fx P w K mg base N sc lv X) (h : Suite X X') : Fx0 P w K mg base N sc X' := by
  obtain ⟨a, pn, rfl⟩ := h
  exact ⟨fx.prog, fx.w, fx.K, fx.mg, fx.base, fx.N, fx.sc⟩
theorem Fx0.gl (fx : Fx0 P w K mg base N sc X) {x : Str} (h : okGl sc x = true) : Gl X x ∧ (x == ("__debug__" : Str)) = false ∧ x ≠ "__name__" := by
  obtain ⟨h1, h2, h3⟩ := okGl_of h
  refine ⟨?_, h2, h3⟩
  show X.env.scope.names.lookup x = _
  rw [fx.sc]; exact h1
theorem lx_var (fx : Fx0 P w K mg base N sc X) (i : Nat) {x : Str} (h : okVar N sc i x = true := by decide +kernel) : PE X (.Name x pos) (liftE c (eVar i)) := by
  obtain ⟨h1, h2, h3, h4⟩ := okVar_of h
  exact le_var i (by rw [fx.N]; exact h1) (by rw [fx.sc]; exact h2) h3 h4
theorem lx_globS (fx : Fx0 P w K mg base N sc X) (M : Mt X c) {x z : Str} {t : Tok} (hm : mg x = some (.str z t)) (h : okGl sc x = true := by decide +kernel) : PE X (.Name x pos) (liftE c (eC (.str z))) := by
  obtain ⟨h1, h2, h3⟩ := fx.gl h
  exact le_globS M h1 (by rw [← M.mg, fx.mg]; exact hm) h2
theorem lx_b1 (fx : Fx0 P w K mg base N sc X) {op : UOp} {x : Str} {id : String} (hc : CallR X (.builtin id) (rC1 c op)) (hm : mg x = none) (hv : bootBuiltins x = some (.builtin id)) (ha : PE X a (liftE c fa)) (h : okGl sc x = true := by decide +kernel) (he : starEach [a] X.env = (false, eval a X.env) :: starEach [] X.env := by rfl) :
    PE X (.Call (.Name x p) [a] [] pos) (liftE c (eUn op fa)) := by
  obtain ⟨h1, h2, h3⟩ := fx.gl h
  exact le_b1 hc h1 (by rw [fx.mg]; exact hm) hv ha h3 h2 he
theorem lx_t1 (fx : Fx0 P w K mg base N sc X) {op : UOp} {x : Str} {id : String} (hc : CallR X (.type id) (rC1 c op)) (hm : mg x = none) (hv : bootBuiltins x = some (.type id)) (ha : PE X a (liftE c fa)) (h : okGl sc x = true := by decide +kernel) (he : starEach [a] X.env = (false, eval a X.env) :: starEach [] X.env := by rfl) :
    PE X (.Call (.Name x p) [a] [] pos) (liftE c (eUn op fa)) := by
  obtain ⟨h1, h2, h3⟩ := fx.gl h
  exact le_t1 hc h1 (by rw [fx.mg]; exact hm) hv ha h3 h2 he
theorem lx_b2 (fx : Fx0 P w K mg base N sc X) {op : BOp} {x : Str} {id : String} (hc : CallR X (.builtin id) (rC2 c op)) (hm : mg x = none) (hv : bootBuiltins x = some (.builtin id)) (ha : PE X a (liftE c fa)) (hb : PE X b (liftE c fb)) (h : okGl sc x = true := by decide +kernel)
    (he : starEach [a, b] X.env = (false, eval a X.env) :: starEach [b] X.env := by rfl) (he2 : starEach [b] X.env = (false, eval b X.env) :: starEach [] X.env := by rfl) (hpl : (backTo pos (starEach [b] X.env)).any (·.1) = false := by rfl) :
    PE X (.Call (.Name x p) [a, b] [] pos) (liftE c (eBin op fa fb)) := by
  obtain ⟨h1, h2, h3⟩ := fx.gl h
  exact le_b2 hc h1 (by rw [fx.mg]; exact hm) hv ha hb h3 h2 he he2 hpl
theorem lx_isi (fx : Fx0 P w K mg base N sc X) (M : Mt X c) {x : Str} {T : String} {f : D → Bool} (hf : ∀ d, kitB (tyD d) T = some (f d)) (hm : mg "isinstance" = none) (hmT : mg x = none) (hv : bootBuiltins x = some (.type T)) (ha : PE X a (liftE c fa)) (h : (okGl sc "isinstance" && okGl sc x) = true := by decide +kernel)
    (he : starEach [a, .Name x p2] X.env = (false, eval a X.env) :: starEach [.Name x p2] X.env := by rfl) : PE X (.Call (.Name "isinstance" p) [a, .Name x p2] [] pos) (liftE c (eUn (unIs f) fa)) := by
  rw [Bool.and_eq_true] at h
  obtain ⟨h1, h2, h3⟩ := fx.gl h.1
  obtain ⟨g1, g2, g3⟩ := fx.gl h.2
  exact le_isi M hf ha h1 (by rw [fx.mg]; exact hm) g1 (by rw [fx.mg]; exact hmT) hv g3 g2 he
theorem lx_isi2 (fx : Fx0 P w K mg base N sc X) (M : Mt X c) {x y : Str} {T U : String} {f g : D → Bool} {k : Nat} {p3 p4 : Pos} (hf : ∀ d, kitB (tyD d) T = some (f d)) (hf' : ∀ d, kitB (tyD d) U = some (g d)) (hm : mg "isinstance" = none) (hmT : mg x = none) (hv : bootBuiltins x = some (.type T)) (hmU : mg y = none) (hvU : bootBuiltins y = some (.type U)) (ha : PE X a (liftE c fa))
    (h : (okGl sc "isinstance" && (okGl sc x && okGl sc y)) = true := by decide +kernel)
    (he : starEach [a, .Tuple [.Name x p2, .Name y p3] k p4] X.env = (false, eval a X.env) :: starEach [.Tuple [.Name x p2, .Name y p3] k p4] X.env := by rfl) : PE X (.Call (.Name "isinstance" p) [a, .Tuple [.Name x p2, .Name y p3] k p4] [] pos) (liftE c (eUn (unIs fun d => f d || g d) fa)) := by
  rw [Bool.and_eq_true, Bool.and_eq_true] at h
  obtain ⟨h1, h2, h3⟩ := fx.gl h.1
  obtain ⟨g1, g2, g3⟩ := fx.gl h.2.1
  obtain ⟨k1, k2, k3⟩ := fx.gl h.2.2
  exact le_isi2 M hf hf' ha h1 (by rw [fx.mg]; exact hm) g1 (by rw [fx.mg]; exact hmT) hv k1 (by rw [fx.mg]; exact hmU) hvU g3 g2 k3 k2 he
theorem lx_sortset (fx : Fx0 P w K mg base N sc X) (M : Mt X c) (hm : mg "sorted" = none) (hm2 : mg "set" = none) (he : PE X e (liftE c fe)) (h : (okGl sc "sorted" && okGl sc "set") = true := by decide +kernel) (hs1 : starEach [e] X.env = (false, eval e X.env) :: starEach [] X.env := by rfl) :
    PE X (.Call (.Name "sorted" p) [.Call (.Name "set" p2) [e] [] pos2] [] pos) (liftE c (eUn unSortSet fe)) := by
  rw [Bool.and_eq_true] at h
  obtain ⟨h1, h2, h3⟩ := fx.gl h.1
  obtain ⟨g1, g2, g3⟩ := fx.gl h.2
  exact le_sortset M he h1 (by rw [fx.mg]; exact hm) g1 (by rw [fx.mg]; exact hm2) hs1

/-! ### defs that may be called -/
structure Cl (P : Program) (w : World) (K : PySem.W.Frag) (mg : Str → Option Value) (base : Heap) (x : Str) (st : Stmt) (ps : List Str) (lv : Nat) (fs : FnS) : Prop where
  ex : ∃ f fd, L2.Fun K x x st f fd ∧ mg x = some (.ref f) ∧ Binds K fd ps [] ∧ FnOk P w K mg base (L2.CX P w) lv f fd ps (spF K mg ps.length fs)
variable {x : Str} {st : Stmt} {ps ks : List Str} {lv' np n m : Nat} {perm : List Nat} {fs : FnS} {fr fk : ArF} {kws : List Keyword}
theorem lx_call (fx : Fx P w K mg base N sc lv X) (M : Mt X c) (C : Cl P w K mg base x st ps lv' fs) (ha : PA X (e :: es) (liftAr c 0 fr)) (hlv : lv' ≤ lv := by decide) (hnp : ps.length = np := by rfl) (hio : fs.io = none := by rfl) (h : okGl sc x = true := by decide +kernel)
    (he : starEach (e :: es) X.env = (false, eval e X.env) :: starEach es X.env := by rfl) (hpl : (backTo pos (starEach es X.env)).any (·.1) = false := by rfl) : PE X (.Call (.Name x p) (e :: es) [] pos) (liftE c (eCall fs (npOk np fr))) := by
  obtain ⟨f, fd, F, hm, hb, G⟩ := C.ex
  obtain ⟨h1, h2, h3⟩ := fx.gl h
  rw [← fx.prog, ← fx.w, ← fx.K, ← fx.mg, ← fx.base] at G
  rw [← fx.mg] at hm
  rw [← fx.K] at hb
  subst hnp
  exact le_call M G (fx.room.mono hlv) h1 hm (by rw [fx.K]; exact F.kp) hb hio ha h2 he hpl
theorem lx_callIo (fx : Fx P w K mg base N sc lv X) (M : Mt X c) (C : Cl P w K mg base x st ps lv' fs) (kk j : Nat) (ha : PA X (e :: es) (liftAr c j fr)) (hlv : lv' ≤ lv := by decide) (hnp : ps.length = np := by rfl) (hio : fs.io = some kk := by rfl) (h : okGl sc x = true := by decide +kernel)
    (he : starEach (e :: es) X.env = (false, eval e X.env) :: starEach es X.env := by rfl) (hpl : (backTo pos (starEach es X.env)).any (·.1) = false := by rfl) : PE X (.Call (.Name x p) (e :: es) [] pos) (liftE c (eCallIo fs kk j (npOk np fr))) := by
  obtain ⟨f, fd, F, hm, hb, G⟩ := C.ex
  obtain ⟨h1, h2, h3⟩ := fx.gl h
  rw [← fx.prog, ← fx.w, ← fx.K, ← fx.mg, ← fx.base] at G
  rw [← fx.mg] at hm
  rw [← fx.K] at hb
  subst hnp
  exact le_callIo M G (fx.room.mono hlv) h1 hm (by rw [fx.K]; exact F.kp) hb hio ha h2 he hpl
theorem lx_io (fx : Fx0 P w K mg base N sc X) {j : Nat} (hr : PA X es (liftAr c j fr)) (h : okVar N sc j x = true := by decide +kernel) (hs : starEach (.Name x pos :: es) X.env = (false, eval (.Name x pos) X.env) :: starEach es X.env := by rfl) : PA X (.Name x pos :: es) (liftAr c j (rIo j fr)) := by
  obtain ⟨h1, h2, h3, h4⟩ := okVar_of h
  exact lr_io hr (by rw [fx.N]; exact h1) (by rw [fx.sc]; exact h2) h3 h4 hs
theorem Cl.kb (C : Cl P w K mg base x st ps lv' fs) (hp : 0 < ps.length) (hk : ∀ (kV doc pm : Value) (an : Option Addr) (cdv ct : Value) (us ws : List Value), us.length = n → ws.length = m → bindArgs (PySem.W.fnOf x x (defArgs st) (defBody st) (defScope st) .none kV doc pm an cdv ct) ⟨us, ks.zip ws⟩ = pure (ps.zip (perm.filterMap ((us ++ ws)[·]?)))) :
    ∃ f fd, L2.Fun K x x st f fd ∧ mg x = some (.ref f) ∧ KBinds K fd ps ks (pickL n m perm) (pickL n m perm) ∧ FnOk P w K mg base (L2.CX P w) lv' f fd ps (spF K mg ps.length fs) := by
  obtain ⟨f, fd, F, hm, hb, G⟩ := C.ex
  refine ⟨f, fd, F, hm, ?_, G⟩
  obtain ⟨oc, od, kV, doc, pm, an, cdv, ct, osl, rfl, _, _⟩ := F.ex
  exact kb_mk hp (hk kV doc pm an cdv ct)
theorem lx_callK (fx : Fx P w K mg base N sc lv X) (M : Mt X c) (C : Cl P w K mg base x st ps lv' fs) (n m : Nat) (perm : List Nat) (hk : ∀ (kV doc pm : Value) (an : Option Addr) (cdv ct : Value) (us ws : List Value), us.length = n → ws.length = m → bindArgs (PySem.W.fnOf x x (defArgs st) (defBody st) (defScope st) .none kV doc pm an cdv ct) ⟨us, ks.zip ws⟩ = pure (ps.zip (perm.filterMap ((us ++ ws)[·]?))))
    (ha : PA X (e :: es) (liftAr c 0 fr)) (hkw : PK X kws (liftAr c 0 fk)) (hp : 0 < ps.length := by decide) (hlv : lv' ≤ lv := by decide) (hnp : ps.length = np := by rfl) (hio : fs.io = none := by rfl) (h : okGl sc x = true := by decide +kernel) (hall : (backToKw pos (keywordEach kws X.env)).all (·.1.isSome) = true := by rfl) (hks : (backToKw pos (keywordEach kws X.env)).filterMap (·.1) = ks := by rfl)
    (he : starEach (e :: es) X.env = (false, eval e X.env) :: starEach es X.env := by rfl)
    (hpl : ((backTo pos (starEach (e :: es) X.env)).any (·.1) || (backToKw pos (keywordEach kws X.env)).any (·.1.isNone)) = false := by rfl) : PE X (.Call (.Name x p) (e :: es) kws pos) (liftE c (eCallK fs np n m perm fr fk)) := by
  obtain ⟨f, fd, F, hm, hb, G⟩ := C.kb hp hk
  obtain ⟨h1, h2, h3⟩ := fx.gl h
  rw [← fx.prog, ← fx.w, ← fx.K, ← fx.mg, ← fx.base] at G
  rw [← fx.mg] at hm
  rw [← fx.K] at hb
  subst hnp
  exact le_callK M G (fx.room.mono hlv) h1 hm (by rw [fx.K]; exact F.kp) hb rfl hio ha hkw hall hks h2 he hpl
theorem lx_callK0 (fx : Fx P w K mg base N sc lv X) (M : Mt X c) (C : Cl P w K mg base x st ps lv' fs) (m : Nat) (perm : List Nat) (hk : ∀ (kV doc pm : Value) (an : Option Addr) (cdv ct : Value) (us ws : List Value), us.length = 0 → ws.length = m → bindArgs (PySem.W.fnOf x x (defArgs st) (defBody st) (defScope st) .none kV doc pm an cdv ct) ⟨us, ks.zip ws⟩ = pure (ps.zip (perm.filterMap ((us ++ ws)[·]?))))
    (hkw : PK X kws (liftAr c 0 fk)) (hp : 0 < ps.length := by decide) (hlv : lv' ≤ lv := by decide) (hnp : ps.length = np := by rfl) (hio : fs.io = none := by rfl) (h : okGl sc x = true := by decide +kernel) (hall : (backToKw pos (keywordEach kws X.env)).all (·.1.isSome) = true := by rfl) (hks : (backToKw pos (keywordEach kws X.env)).filterMap (·.1) = ks := by rfl)
    (hpl : ((backTo pos (starEach [] X.env)).any (·.1) || (backToKw pos (keywordEach kws X.env)).any (·.1.isNone)) = false := by rfl) : PE X (.Call (.Name x p) [] kws pos) (liftE c (eCallK fs np 0 m perm rNil fk)) := by
  obtain ⟨f, fd, F, hm, hb, G⟩ := C.kb hp hk
  obtain ⟨h1, h2, h3⟩ := fx.gl h
  rw [← fx.prog, ← fx.w, ← fx.K, ← fx.mg, ← fx.base] at G
  rw [← fx.mg] at hm
  rw [← fx.K] at hb
  subst hnp
  exact le_callK0 M G (fx.room.mono hlv) h1 hm (by rw [fx.K]; exact F.kp) hb rfl hio hkw hall hks h2 hpl

/-! ### targets, comprehensions -/
def okLoc (N : List Str) (sc : Scope) (i : Nat) (x : Str) : Bool := atB N i x && (match sc.names.lookup x with | some .local => true | _ => false)
theorem okLoc_of {i : Nat} {x : Str} (h : okLoc N sc i x = true) : N[i]? = some x ∧ sc.names.lookup x = some .local := by
  unfold okLoc at h
  rw [Bool.and_eq_true] at h
  refine ⟨of_decide_eq_true h.1, ?_⟩
  have h2 := h.2
  split at h2
  · rename_i e; exact e
  · cases h2
theorem lxw_name (fx : Fx0 P w K mg base N sc X) (M : Mt X c) {vs : List Nat} (i : Nat) {x : Str} (hm : i ∈ vs := by decide) (h : okLoc N sc i x = true := by decide +kernel) : PG X (.Name x pos) (liftGw c vs (gN i)) := by
  obtain ⟨h1, h2⟩ := okLoc_of h
  exact lgw_name M hm (by rw [fx.N]; exact h1) (by rw [fx.sc]; exact .inl h2) (.inr (by rw [fx.sc]; exact h2))
theorem lgs_cons' {t : Expr} {es : List Expr} {g : GF} {gs : GFs} (h1 : PG X t (liftG c g)) (h2 : PGs X es (liftGs c gs))
    (hs : (assignEach (t :: es) X.env).map (·.2) = assign t X.env :: (assignEach es X.env).map (·.2) := by rfl) : PGs X (t :: es) (liftGs c (gCons' g gs)) :=
  PGsi (pgs_cons h1 h2 hs) fun us σ H Q ⟨F, ρ, ds, ok, r, ρ', e, q⟩ => by
    cases r with
    | nil => cases e
    | @cons v us d ds a t =>
      have e : (match g d ρ with
        | some ρ1 => gs ds ρ1
        | none => none) = some ρ' := e
      cases e1 : g d ρ with
      | none => rw [e1] at e; cases e
      | some ρ1 =>
        rw [e1] at e
        exact ⟨_, _, rfl, F, ρ, d, ok, a, ρ1, e1, fun σ1 H1 F1 s1 ok1 => ⟨F1, ρ1, ds, ok1, t.mono s1, ρ', e, fun σ' H' F' s' ok' => q σ' H' F' (s1.trans s') ok'⟩⟩
def okBlk (N : List Str) (sc scope : Scope) (own : List (Str × Nat)) : Bool :=
  (match scope.kind with | .function => true | _ => false) && scope.names.all (fun y => decide (scope.names.lookup y.1 = some y.2)) && own.all (fun q => decide (N[q.2]? = some q.1)) &&
    scope.names.all (fun y => !decide (y.2 = .free) || decide (sc.names.lookup y.1 = some .cell) || decide (sc.names.lookup y.1 = some .free)) &&
    scope.names.all (fun y => !(decide (y.2 = .local) || decide (y.2 = .cell)) || decide (y.1 ∈ own.map (·.1)) || !decide (y.1 ∈ N))
theorem okBlk_of {scope : Scope} {own : List (Str × Nat)} (h : okBlk N sc scope own = true) : BlkOk N sc scope own := by
  unfold okBlk at h
  rw [Bool.and_eq_true, Bool.and_eq_true, Bool.and_eq_true, Bool.and_eq_true, List.all_eq_true, List.all_eq_true, List.all_eq_true, List.all_eq_true] at h
  obtain ⟨⟨⟨⟨h1, h2⟩, h3⟩, h4⟩, h5⟩ := h
  refine ⟨?_, fun y hy => of_decide_eq_true (h2 y hy), fun q hq => of_decide_eq_true (h3 q hq), fun y hy e => ?_, fun y hy e => ?_⟩
  · cases hk : scope.kind with
    | function => rfl
    | _ => rw [hk] at h1; cases h1
  · have := h4 y hy
    rw [Bool.or_eq_true, Bool.or_eq_true, Bool.not_eq_true', decide_eq_true_eq, decide_eq_true_eq, decide_eq_false_iff_not] at this
    rcases this with (z | z) | z
    · exact absurd e z
    · exact .inl z
    · exact .inr z
  · have := h5 y hy
    rw [Bool.or_eq_true, Bool.or_eq_true, Bool.not_eq_true', Bool.not_eq_true', decide_eq_true_eq, decide_eq_false_iff_not, Bool.or_eq_false_iff, decide_eq_false_iff_not, decide_eq_false_iff_not] at this
    rcases this with (z | z) | z
    · rcases e with e | e
      · exact absurd e z.1
      · exact absurd e z.2
    · exact .inl z
    · exact .inr z
variable {elt tg iter : Expr} {ifs : List Expr} {scope : Scope} {own : List (Str × Nat)} {fi : IF} {g : GF} {ft : TF} {vs : List Nat}
theorem lx_lc (fx : Fx P w K mg base N sc lv X) (M : Mt X c) (own : List (Str × Nat)) (hi : PI X tg iter (liftI c fi)) (hg : ∀ X' c', Fx P w K mg base N (relS scope sc) lv X' → Mt X' c' → PG X' tg (liftGw c' vs g)) (ht : ∀ X' c', Fx P w K mg base N (relS scope sc) lv X' → Mt X' c' → PTs X' ifs (liftT c' ft))
    (he : ∀ X' c', Fx P w K mg base N (relS scope sc) lv X' → Mt X' c' → PE X' elt (liftE c' fe)) (hv : own.map (·.2) = vs := by rfl) (bk : okBlk N sc scope own = true := by decide +kernel) (hs : ∀ x, foldedSetIterable iter X.env x = pure x := by intro _; rfl) : PE X (.ListComp elt [⟨tg, iter, ifs, 0⟩] scope pos) (liftE c (eLc vs g ft fe fi)) :=
  le_lc M hi (by rw [fx.N, fx.sc]; exact okBlk_of bk) hv (fun X' c' h M' => hg X' c' (fx.blk h) M') (fun X' c' h M' => ht X' c' (fx.blk h) M') (fun X' c' h M' => he X' c' (fx.blk h) M') hs

/-! ### statements -/
def okSet (N : List Str) (sc : Scope) (i : Nat) (x : Str) : Bool := atB N i x && locB sc x
theorem okSet_of {i : Nat} {x : Str} (h : okSet N sc i x = true) : N[i]? = some x ∧ Loc sc x := by
  unfold okSet at h
  rw [Bool.and_eq_true] at h
  exact ⟨of_decide_eq_true h.1, locB_of h.2⟩
/-- a def's own facts -/
structure Df (X : Cx) : Prop where
  fn : ∀ x, X.fn x = true
  stack : X.stack = X.env :: X.outer
  frame : X.env.frame = some X.env.locals
theorem ls_setN {i : Nat} {x : Str} {pos' : Pos} (nd : X.N.Nodup) (he : PE X e (liftE c fe)) (hi : X.N[i]? = some x) (hx : Loc X.env.scope x) (hs : swapsWith e (some (.Name x pos')) pos.line X.env = pure false)
    (hf : X.fn x = true ∨ X.env.scope.names.lookup x = some .local) : PS X (.Assign [.Name x pos'] e pos) (liftS c (sSet i fe)) :=
  PSi (ps_set nd hi hx he hs hf) fun De σ H ⟨F, ρ, ok, h⟩ => ls_then ok h fun F1 H1 ρ1 v rv ok1 r h1 => put_of h1 ok1 r
theorem lx_set (fx : Fx0 P w K mg base N sc X) (d : Df X) (nd : N.Nodup) (i : Nat) {x : Str} {pos' : Pos} (he : PE X e (liftE c fe)) (h : okSet N sc i x = true := by decide +kernel) (hs : swapsWith e (some (.Name x pos')) pos.line X.env = pure false := by rfl) : PS X (.Assign [.Name x pos'] e pos) (liftS c (sSet i fe)) := by
  obtain ⟨h1, h2⟩ := okSet_of h
  exact ls_setN (by rw [fx.N]; exact nd) he (by rw [fx.N]; exact h1) (by rw [fx.sc]; exact h2) hs (.inl (d.fn x))
theorem lx_gname (fx : Fx0 P w K mg base N sc X) (d : Df X) (M : Mt X c) (i : Nat) {x : Str} (h : okSet N sc i x = true := by decide +kernel) : PG X (.Name x pos) (liftG c (gN i)) := by
  obtain ⟨h1, h2⟩ := okSet_of h
  exact lg_name M (by rw [fx.N]; exact h1) (by rw [fx.sc]; exact h2) (.inl (d.fn x))
theorem Df.suite (d : Df X) (h : Suite X X') : Df X' := by
  obtain ⟨a, pn, rfl⟩ := h
  exact ⟨d.fn, d.stack, d.frame⟩
theorem Df.tr (d : Df X) (h : ∃ pn xe, X' = X.tr pn xe) : Df X' := by
  obtain ⟨pn, xe, rfl⟩ := h
  exact ⟨d.fn, d.stack, d.frame⟩
theorem lx_setLc (fx : Fx P w K mg base N sc lv X) (M : Mt X c) (i : Nat) {y : Str} {py spos : Pos} (own : List (Str × Nat)) (hi : PI X tg iter (liftI c fi)) (hg : ∀ X' c', Fx P w K mg base N (relS scope sc) lv X' → Mt X' c' → PG X' tg (liftGw c' vs g)) (ht : ∀ X' c', Fx P w K mg base N (relS scope sc) lv X' → Mt X' c' → PTs X' ifs (liftT c' ft))
    (he : ∀ X' c', Fx P w K mg base N (relS scope sc) lv X' → Mt X' c' → PE X' elt (liftE c' fe)) (hkd : (match sc.kind with | .function => true | _ => false) = true := by rfl) (hv : own.map (·.2) = vs := by rfl) (bk : okBlk N sc scope own = true := by decide +kernel) (h : okLoc N sc i y = true := by decide +kernel) (hl : (py.line == pos.line) = true := by rfl)
    (hln : (scope.names.any fun (n, k) => n == y && (k == .local || k == .cell)) = false := by decide +kernel) (hs : ∀ x, foldedSetIterable iter X.env x = pure x := by intro _; rfl) : PS X (.Assign [.Name y py] (.ListComp elt [⟨tg, iter, ifs, 0⟩] scope pos) spos) (liftS c (sSet i (eLc vs g ft fe fi))) := by
  obtain ⟨h1, h2⟩ := okLoc_of h
  have hk : X.env.scope.kind = .function := by
    rw [fx.sc]
    cases e : sc.kind with
    | function => rfl
    | _ => rw [e] at hkd; cases hkd
  exact ls_setLc M (by rw [fx.N]; exact h1) (by rw [fx.sc]; exact h2) (sw_true hk (by rw [fx.sc]; exact h2) hl hln) hi (by rw [fx.N, fx.sc]; exact okBlk_of bk) hv (fun X' c' h M' => hg X' c' (fx.blk h) M') (fun X' c' h M' => ht X' c' (fx.blk h) M') (fun X' c' h M' => he X' c' (fx.blk h) M') hs
theorem lx_putIx (fx : Fx0 P w K mg base N sc X) (j : Nat) {x : Str} {px pos' : Pos} {ie : Expr} {fi : EF} (he : PE X e (liftE c fe)) (hi : PE X ie (liftE c fi)) (h : okVar N sc j x = true := by decide +kernel) (hs : swapsWithSole [.Subscript (.Name x px) ie pos'] e pos.line X.env = pure false := by rfl) (hw : swappedStores [.Subscript (.Name x px) ie pos'] e X.env = pure none := by rfl)
    (h1 : (assignEach [.Subscript (.Name x px) ie pos'] X.env).map (·.2) = [assign (.Subscript (.Name x px) ie pos') X.env] := by rfl)
    (ha : ∀ v, assign (.Subscript (.Name x px) ie pos') X.env v = (do
      let ov ← holding [v] (eval (.Name x px) X.env)
      let iv ← holding [v, ov] (eval ie X.env)
      standAt pos'
      holding [v, ov, iv] (setItem ov iv v)
      release [v, ov, iv] []) := by intro _; rfl) : PS X (.Assign [.Subscript (.Name x px) ie pos'] e pos) (liftS c (sPutIx j fi fe)) := by
  obtain ⟨g1, g2, g3, g4⟩ := okVar_of h
  exact ls_putIx he hi (by rw [fx.N]; exact g1) (by rw [fx.sc]; exact g2) g3 g4 hs hw h1 ha
theorem lx_aug (fx : Fx0 P w K mg base N sc X) (d : Df X) (M : Mt X c) {op : Operator} {f : Int → Int → Int} (hp : PIp X op (ipI f)) (i : Nat) {x : Str} {pos' : Pos} (he : PE X e (liftE c fe)) (h : okSet N sc i x = true := by decide +kernel) : PS X (.AugAssign (.Name x pos') op e pos) (liftS c (sAug f i fe)) := by
  obtain ⟨h1, h2⟩ := okSet_of h
  exact ls_aug M hp he (by rw [fx.N]; exact h1) (by rw [fx.sc]; exact h2) (.inl (d.fn x))
theorem lx_par (fx : Fx0 P w K mg base N sc X) (M : Ms X c) (i j : Nat) {x y : Str} {px py pt pt2 : Pos} {kt k2 : Nat} (ha : PE X a (liftE c fa)) (hb : ∀ c', Ms X c' → PE X b (liftE c' fb)) (hij : i ≠ j := by decide) (h : (okLoc N sc i x && okLoc N sc j y) = true := by decide +kernel)
    (hw : swappedStores [.Tuple [.Name x px, .Name y py] kt pt] (.Tuple [a, b] k2 pt2) { X.env with scope := sc } = pure (some [x, y]) := by rfl)
    (he : starEach [a, b] X.env = (false, eval a X.env) :: starEach [b] X.env := by rfl) (he2 : starEach [b] X.env = (false, eval b X.env) :: starEach [] X.env := by rfl)
    (hs : swapsWithSole [.Tuple [.Name x px, .Name y py] kt pt] (.Tuple [a, b] k2 pt2) pos.line X.env = pure false := by rfl) :
    PS X (.Assign [.Tuple [.Name x px, .Name y py] kt pt] (.Tuple [a, b] k2 pt2) pos) (liftS c (sPar i j fa fb)) := by
  rw [Bool.and_eq_true] at h
  obtain ⟨h1, h2⟩ := okLoc_of h.1
  obtain ⟨g1, g2⟩ := okLoc_of h.2
  have ee : X.env = { X.env with scope := sc } := by rw [← fx.sc]
  exact ls_par M (by rw [fx.N]; exact h1) (by rw [fx.N]; exact g1) hij (by rw [fx.sc]; exact h2) (by rw [fx.sc]; exact g2) ha hb (by rw [ee]; exact hw) he he2 hs
theorem lx_raise (fx : Fx0 P w K mg base N sc X) (M : Mt X c) {C : Addr} {bmB : List Value} {B newId initId : String} {x m : Str} {j : Nat} (F : ExcBaseFacts B newId initId bmB) (gC : mg x = some (.ref C)) (q : PySem.W.excIn K C bmB newId = true) (kC : PySem.W.keepIn K (.ref C) = true) (r1 : PySem.W.subIn K (.ref C) (.type "BaseException") = some true) (r2 : PySem.W.typeIn K (.ref C) = some (.type "type")) (h : okGl sc x = true := by decide +kernel) :
    PS X (.Raise (some (.Call (.Name x p) [.Constant (.str m) j p2] [] pos)) none pos2) (liftS c (sRaise x)) := by
  obtain ⟨h1, h2, h3⟩ := fx.gl h
  exact ls_raise M F (by rw [fx.K]; exact q) (by rw [fx.mg]; exact gC) (by rw [fx.K]; exact kC) (raises_own (by rw [fx.K]; exact r1) (by rw [fx.K]; exact r2)) h1 h2

/-! ### a def -/
theorem Cl.mk' {body : SF} {io : Option Nat} {k : Nat} (G : ∃ f fd, L2.Fun K x x st f fd ∧ mg x = some (.ref f)) (S : FnScope N ps (defScope st)) (hbd : ∀ (kV doc pm : Value) (an : Option Addr) (cdv ct : Value) (us : List Value), us.length = ps.length → bindArgs (PySem.W.fnOf x x (defArgs st) (defBody st) (defScope st) .none kV doc pm an cdv ct) ⟨us, []⟩ = pure (ps.zip us))
    (hb : ∀ (X : Cx) (c : Fc), Ms X c → Fx P w K mg base N (defScope st) k X → Df X → PSs X (defBody st) (liftS c body)) : Cl P w K mg base x st ps (k + 1) (fnS N.length ps.length io body) := by
  obtain ⟨f, fd, F, hm⟩ := G
  exact ⟨f, fd, F, hm, F.binds hbd, fn_ok F S rfl fun X c M h1 h2 h3 h4 h5 h6 h7 h8 h9 h10 h11 => hb X c M ⟨⟨h1, h2, h3, h4, h5, h6, h7⟩, h11⟩ ⟨fun y => by rw [h8], h9, h10⟩⟩
end
end Vm
end

section
set_option maxRecDepth 100000
set_option maxHeartbeats 4000000
/-! VmM: clauses, nothing said. -/
namespace Vm
open PySem PySem.Spec PyProof.Rows L2
section
variable {P : Program} {w : World} {K : PySem.W.Frag} {mg : Str → Option Value} {base : Heap} {N : List Str} {sc : Scope} {lv : Nat} {X X' : Cx} {c : Fc} {pos p p2 pos2 : Pos} {e a b : Expr} {es : List Expr} {fe fa fb : EF}
/-- nothing is said -/
def sNo : SF := fun _ => none
theorem lss_no {b : List Stmt} : PSs X b (liftS c sNo) := ⟨fun pins s σ H D I ⟨F, ρ, ok, h⟩ => EnS.no h⟩
/-- the exceptions' classes: who is one of whom -/
def IsA (K : PySem.W.Frag) (mg : Str → Option Value) (isA : Str → Str → Option Bool) : Prop := ∀ x y b u v, isA x y = some b → mg x = some u → mg y = some v → PySem.W.exmOne K u v = some b
theorem lx_hd {isA : Str → Str → Option Bool} (fx : Fx0 P w K mg base N sc X) (M : Ms X c) (ia : IsA K mg isA) {y : Str} {v : Value} {f : SF} {b₀ : Stmt} {suite : List Stmt} {np pos' : Pos} {hds : List ExceptHandler} {cl : List (Str × SF)} {l : List (Value × (Addr → Value → Option Addr → TS))} (gC : mg y = some v) (hsu : ∀ X', Suite X X' → PSs X' (b₀ :: suite) (liftS c f)) (r : HdOk X c isA hds cl l) (h : okGl sc y = true := by decide +kernel) :
    HdOk X c isA (.ExceptHandler (some (.Name y np)) none (b₀ :: suite) pos' :: hds) ((y, f) :: cl) ((v, fun _ _ _ => liftS c f) :: l) := by
  obtain ⟨h1, h2, h3⟩ := fx.gl h
  refine .cons ⟨h1, h2, .inl (by rw [fx.mg]; exact gC)⟩ (fun x u b e1 e2 => ?_) hsu r
  rw [fx.K]
  exact ia x y b u v e1 (by rw [← fx.mg, M.mg]; exact e2) gC
theorem lx_r1 {tg : Expr} (fx : Fx0 P w K mg base N sc X) (hm : mg "range" = none) (ha : PE X a (liftE c fa)) (h : okGl sc "range" = true := by decide +kernel) (hs : starEach [a] X.env = [(false, eval a X.env)] := by rfl) : PI X tg (.Call (.Name "range" p) [a] [] pos) (liftI c (iR1 fa)) :=
  li_r1 (fun ta ht => pi_range1 (fx.gl h).1 (by rw [fx.mg]; exact hm) ht hs) ha hs
theorem lx_r2 {tg : Expr} (fx : Fx0 P w K mg base N sc X) (hm : mg "range" = none) (ha : PE X a (liftE c fa)) (hb : PE X b (liftE c fb)) (h : okGl sc "range" = true := by decide +kernel) (hs : starEach [a, b] X.env = [(false, eval a X.env), (false, eval b X.env)] := by rfl) (hs2 : starEach [b] X.env = [(false, eval b X.env)] := by rfl) : PI X tg (.Call (.Name "range" p) [a, b] [] pos) (liftI c (iR2 fa fb)) :=
  li_r2 (fun ta ht => pi_range2 (fx.gl h).1 (by rw [fx.mg]; exact hm) ht hs hs2) ha hb (by rw [hs, hs2]) hs2
end
end Vm
end

section
set_option maxRecDepth 100000
set_option maxHeartbeats 4000000
/-! VmN: the ends: law's promise. -/
namespace Vm
open PySem PySem.Spec PyProof.Rows L2

def noLists (K : PySem.W.Frag) : Bool := K.all fun p => match p.2.cls with
  | .type s => !(s == "list")
  | _ => true
theorem lookup_mem {K : PySem.W.Frag} {a : Addr} {o : Obj} (h : K.lookup a = some o) : (a, o) ∈ K := by
  induction K with
  | nil => cases h
  | cons p r ih =>
    obtain ⟨b, u⟩ := p
    rw [List.lookup_cons] at h
    cases e : a == b with
    | true =>
      simp only [e] at h
      cases h
      have : a = b := by simpa using e
      rw [this]; exact List.mem_cons_self
    | false =>
      simp only [e] at h
      exact List.mem_cons_of_mem _ (ih h)
theorem noList_of {K : PySem.W.Frag} (h : noLists K = true) {a : Addr} {o : Obj} (e : K.lookup a = some o) (c : o.cls = .type "list") : False := by
  unfold noLists at h
  rw [List.all_eq_true] at h
  have := h _ (lookup_mem e)
  simp only [c] at this
  exact absurd this (by decide)
def spLaw (K : PySem.W.Frag) : Sp := fun vs H Q _ => ∃ (a : Addr) (ns : List Int), vs = [.ref a] ∧ SqL K H a (ns.map V.int) ∧ ns.length ≤ 63 ∧ (∀ z ∈ ns, Builtin.Int.intBits z ≤ 1048576) ∧ ∀ H', Q (.bl true) H'
/-- what the plain function of law has to say -/
def Says (fs : FnS) : Prop := ∀ ns : List Int, ns.length ≤ 63 → (∀ z ∈ ns, Builtin.Int.intBits z ≤ 1048576) → fs.sem [.list (ns.map .int)] = some (.ok (false, .bool true), .none)
theorem sp_of {K : PySem.W.Frag} {mg : Str → Option Value} {fs : FnS} (nl : noLists K = true) (hio : fs.io = none) (says : Says fs) {vs : List V} {H : Hp} {Q : VK} {E : XK} (h : spLaw K vs H Q E) : spF K mg 1 fs vs H Q E := by
  obtain ⟨a, ns, rfl, hS, hl, hb, q⟩ := h
  have hr : Rd H a (.lst (ns.map V.int)) := by
    rcases hS with h | ⟨o, its, n, e, c, _⟩
    · exact h
    · exact (noList_of nl e c).elim
  refine ⟨rfl, H, [.list (ns.map .int)], Same.refl _, ⟨rfl, fun i v d _ h1 h2 => ?_, fun i v d h1 _ _ => ?_⟩, .ok (false, .bool true), .none, says ns hl hb, fun v F' H' _ r => ?_⟩
  · cases i with
    | zero => simp at h1 h2; subst h1 h2; exact .lst hr (RpA.ofInts ns)
    | succ i => simp at h1
  · rw [hio] at h1; cases h1
  · cases (show Rp K F' v (.bool true) from r)
    exact q H'
theorem fin_of {P : Program} {w : World} {K : PySem.W.Frag} {mg : Str → Option Value} {fa : Addr} {st : Stmt} {fs : FnS} {lv : Nat} (nl : noLists K = true) (hfa : mg "law" = some (.ref fa)) (T : ∃ f fd, L2.Fun K "law" "law" st f fd ∧ mg "law" = some (.ref f))
    (hbd : ∀ (kV doc pm : Value) (an : Option Addr) (cdv ct v : Value), bindArgs (PySem.W.fnOf "law" "law" (defArgs st) (defBody st) (defScope st) .none kV doc pm an cdv ct) ⟨[v], []⟩ = pure [(("script" : Str), v)])
    (cl : ∀ base : Heap, Cl P w K mg base "law" st ["script"] lv fs) (hio : fs.io = none) (says : Says fs) :
    ∃ fd : FuncData, (∀ (s : Shared) (v : Value), BindsTo s fd ⟨[v], []⟩ [("script", v)]) ∧ ∀ base : Heap, K.In base → base.Ns mainGlobals mg → FnOk P w K mg base (L2.CX P w) lv fa fd ["script"] (spLaw K) := by
  obtain ⟨f, fd, F, hm⟩ := T
  rw [hfa] at hm
  cases hm
  obtain ⟨oc, od, kV, doc, pm, an, cdv, ct, osl, rfl, lk, cd⟩ := id F.ex
  refine ⟨_, fun s v => .of_eq (hbd kV doc pm an cdv ct v), fun base _ _ => ?_⟩
  obtain ⟨f', fd', F', hm', hb', G⟩ := (cl base).ex
  rw [hfa] at hm'
  cases hm'
  obtain ⟨oc', od', kV', doc', pm', an', cdv', ct', osl', rfl, lk', cd'⟩ := id F'.ex
  rw [lk] at lk'
  cases lk'
  exact { G with
    len := fun vs H Q E h => G.len vs H Q E (sp_of nl hio says h)
    run := fun A outer s H args us vs Q E hr ho hb r h => G.run A outer s H args us vs Q E hr ho hb r (sp_of nl hio says h) }
theorem walk_law {l : PySem.W.OpenLaw} {q : Program} {loose : List Str} {XP : (Str → Option Value) → Heap → Prop} {YP : World → Heap → Prop} {d : DefRec} {K : Params → PySem.W.Frag} {k : Nat} (hn : l.most = some 63) (hdf : d.params.defaults = []) (hr : Room k callerA)
    (hY : ∀ (w : World) (h : Heap), YP w h → (K w.params).In h)
    (F : ∀ (w : World) (mg : Str → Option Value) (fa : Addr) (h : Heap), (K w.params).In h → h.Ns mainGlobals mg → mg d.name = some (.ref fa) →
      ∃ fd : FuncData, (∀ (s : Shared) (u : Value), BindsTo s fd ⟨[u], []⟩ [("script", u)]) ∧ ∀ base : Heap, (K w.params).In base → base.Ns mainGlobals mg → FnOk l.prog w (K w.params) mg base (L2.CX l.prog w) k fa fd ["script"] (spLaw (K w.params))) :
    PySem.W.WalkO q loose XP YP l.row.toRowW d [] (fun f vs => PySem.call f vs) :=
  L2.walk_ofB (n := 63) (k := k) (x := "script") (CX := fun w => L2.CX l.prog w) (sp := fun w => spLaw (K w.params)) hn (by decide) hdf hr hY F (fun w H a ns hl hb _ hS => ⟨a, ns, rfl, hS, hl, hb, fun _ => rfl⟩) fun w H s e s' z => by
    obtain ⟨_, _, _, _, _, _, _, _, _, _, _, _, f⟩ := z
    exact f
end Vm
end

section
set_option maxRecDepth 100000
set_option maxHeartbeats 4000000
/-! VmP: how plain functions are reckoned. -/
namespace Vm
open PySem PySem.Spec PyProof.Rows L2
section
variable {α β : Type} {ρ ρ1 : Ev} {a : α} {e : Xn} {d d1 d2 : D} {i j : Nat} {fa fb fd fe : EF} {f g : SF} {t t2 : TF}
@[simp] theorem p_bE_ok {k : α → Ev → Option (Except Xn β × Ev)} : bE (some (.ok a, ρ)) k = k a ρ := rfl
@[simp] theorem p_bE_er {k : α → Ev → Option (Except Xn β × Ev)} : bE (some (.error e, ρ)) k = some (.error e, ρ) := rfl
@[simp] theorem p_bS_ok {k : α → Ev → Option (SOut × Ev)} : bS (some (.ok a, ρ)) k = k a ρ := rfl
@[simp] theorem p_bS_er {k : α → Ev → Option (SOut × Ev)} : bS (some (.error e, ρ)) k = some (.ex e, ρ) := rfl
@[simp] theorem p_C : eC d ρ = some (.ok (.v d), ρ) := rfl
@[simp] theorem p_var : eVar i ρ = slVar i ρ ρ[i]? := rfl
@[simp] theorem p_slVal : slVar i ρ (some (.val d)) = some (.ok (.v d), ρ) := rfl
@[simp] theorem p_slOwn {b : Md} : slVar i ρ (some (.own b d)) = some (.ok (.s i), ρ) := rfl
@[simp] theorem p_rdv : rd ρ (.v d) = some d := rfl
@[simp] theorem p_rdf : rd ρ (.f d) = some d := rfl
@[simp] theorem p_rds : rd ρ (.s i) = slD ρ[i]? := rfl
@[simp] theorem p_slDv : slD (some (.val d)) = some d := rfl
@[simp] theorem p_slDo {b : Md} : slD (some (.own b d)) = some d := rfl
@[simp] theorem p_holdv : hold (.v d) = .v d := rfl
@[simp] theorem p_holdf : hold (.f d) = .v d := rfl
@[simp] theorem p_holds : hold (.s i) = .s i := rfl
@[simp] theorem p_bin {op : BOp} : eBin op fa fb ρ = bE (fa ρ) fun ra ρ1 => bE (fb ρ1) fun rb ρ2 => opt2 op ρ2 (rd ρ2 (hold ra)) (rd ρ2 rb) := rfl
@[simp] theorem p_un {op : UOp} : eUn op fa ρ = bE (fa ρ) fun ra ρ1 => opt1 op ρ1 (rd ρ1 ra) := rfl
@[simp] theorem p_opt2 {op : BOp} : opt2 op ρ (some d1) (some d2) = (op d1 d2).map fun r => (.ok r, ρ) := rfl
@[simp] theorem p_opt1 {op : UOp} : opt1 op ρ (some d1) = (op d1).map fun r => (.ok r, ρ) := rfl
@[simp] theorem p_chain {op op' : BOp} : eChain op op' fa fb fd ρ = bE (fa ρ) fun ra ρ1 => bE (fb ρ1) fun rb ρ2 => bE (opt2 op ρ2 (rd ρ2 (hold ra)) (rd ρ2 (hold rb))) fun r ρ3 =>
  match r with
  | .v (.bool true) => bE (fd ρ3) fun rc ρ4 => opt2 op' ρ4 (rd ρ4 (hold rb)) (rd ρ4 rc)
  | .v (.bool false) => some (.ok (.v (.bool false)), ρ3)
  | _ => none := rfl
@[simp] theorem p_and : eAnd fa fb ρ = bE (fa ρ) fun ra ρ1 => ifD (rdTru ρ1 ra) (fb ρ1) (some (.ok ra, ρ1)) := rfl
@[simp] theorem p_or : eOr fa fb ρ = bE (fa ρ) fun ra ρ1 => ifD (rdTru ρ1 ra) (some (.ok ra, ρ1)) (fb ρ1) := rfl
@[simp] theorem p_not : eNot fa ρ = bE (fa ρ) fun ra ρ1 => ifD (rdTru ρ1 ra) (some (.ok (.v (.bool false)), ρ1)) (some (.ok (.v (.bool true)), ρ1)) := rfl
@[simp] theorem p_ifDt {x y : Option α} : ifD (some true) x y = x := rfl
@[simp] theorem p_ifDf {x y : Option α} : ifD (some false) x y = y := rfl
@[simp] theorem p_tE : tE fa ρ = bE (fa ρ) fun ra ρ1 => (rdTru ρ1 ra).map fun b => (.ok b, ρ1) := rfl
@[simp] theorem p_tB : tB fa ρ = bE (fa ρ) fun ra ρ1 => (boolV ra).map fun b => (.ok b, ρ1) := rfl
@[simp] theorem p_tAnd : tAnd t t2 ρ = bE (t ρ) fun b ρ1 => if b = true then t2 ρ1 else some (.ok false, ρ1) := rfl
@[simp] theorem p_tOr : tOr t t2 ρ = bE (t ρ) fun b ρ1 => if b = true then some (.ok true, ρ1) else t2 ρ1 := rfl
@[simp] theorem p_tNot : tNot t ρ = bE (t ρ) fun b ρ1 => some (.ok (!b), ρ1) := rfl
@[simp] theorem p_tYes : tYesF ρ = some (.ok true, ρ) := rfl
@[simp] theorem p_if : eIf t fa fb ρ = bE (t ρ) fun b ρ1 => if b = true then fa ρ1 else fb ρ1 := rfl
@[simp] theorem p_aNil : aNil ρ = some (.ok [], ρ) := rfl
@[simp] theorem p_aCons {fr : AF} : aCons fa fr ρ = bE (fa ρ) fun ra ρ1 => standE (stand ra ρ1) fun d ρ2 => bE (fr ρ2) fun ds ρ3 => some (.ok (d :: ds), ρ3) := rfl
@[simp] theorem p_size {n : Nat} (h : n ≤ 1000) : (n ≤ sizeLine) = True := eq_true (Nat.le_trans h (by decide))
@[simp] theorem p_tup {fr : AF} : eTup fr ρ = bE (fr ρ) fun ds ρ1 => if ds.length ≤ sizeLine then some (.ok (.v (.tuple ds)), ρ1) else none := rfl
@[simp] theorem p_lst {fr : AF} : eLst fr ρ = bE (fr ρ) fun ds ρ1 => if ds.length ≤ sizeLine then some (.ok (.f (.list ds)), ρ1) else none := rfl
@[simp] theorem p_standv : stand (.v d) ρ = some (d, ρ) := rfl
@[simp] theorem p_standf : stand (.f d) ρ = some (d, ρ) := rfl
@[simp] theorem p_stands : stand (.s i) ρ = slStand ρ i ρ[i]? := rfl
@[simp] theorem p_slStv : slStand ρ i (some (.val d)) = some (d, ρ) := rfl
@[simp] theorem p_slStm : slStand ρ i (some (.own .mine d)) = some (d, ρ.set i (.val d)) := rfl
@[simp] theorem p_rNil : rNil ρ = some (.ok [], ρ) := rfl
@[simp] theorem p_rCons {fr : ArF} : rCons fa fr ρ = bE (fa ρ) fun ra ρ1 => standE (stand ra ρ1) fun d ρ2 => bE (fr ρ2) fun ds ρ3 => some (.ok (some d :: ds), ρ3) := rfl
@[simp] theorem p_rIo {fr : ArF} : rIo j fr ρ = withL j ρ fun _ _ => bE (fr ρ) fun ds ρ3 => some (.ok (none :: ds), ρ3) := rfl
@[simp] theorem p_standE {k : D → Ev → Option (Except Xn α × Ev)} : standE (some (d, ρ)) k = k d ρ := rfl
@[simp] theorem p_withL {k : Md → List D → Option (Except Xn α × Ev)} : withL i ρ k = (match ownL ρ[i]? with | some (b, ds) => k b ds | none => none) := rfl
@[simp] theorem p_ownLm {ds : List D} : ownL (some (.own .mine (.list ds))) = some (.mine, ds) := rfl
@[simp] theorem p_ownLi {ds : List D} : ownL (some (.own .io (.list ds))) = some (.io, ds) := rfl
@[simp] theorem p_npOk {np : Nat} {fr : ArF} : npOk np fr ρ = bE (fr ρ) fun as ρ1 => if as.length = np then some (.ok as, ρ1) else none := rfl
@[simp] theorem p_call {fs : FnS} {fr : ArF} : eCall fs fr ρ = bE (fr ρ) fun as ρ1 => if as.all Option.isSome = true then resE (fs.sem (argD .none as)) fun _ => some ρ1 else none := rfl
@[simp] theorem p_callIo {fs : FnS} {k : Nat} {fr : ArF} : eCallIo fs k j fr ρ = bE (fr ρ) fun as ρ1 => if maskOk k as = true then withL j ρ1 fun b ds => resE (fs.sem (argD (.list ds) as)) fun out => some (ρ1.set j (.own b out)) else none := rfl
@[simp] theorem p_callK {fs : FnS} {np n m : Nat} {perm : List Nat} {fr fk : ArF} : eCallK fs np n m perm fr fk ρ = bE (fr ρ) fun as ρ1 => bE (fk ρ1) fun bs ρ2 =>
  if (pickL n m perm as bs).length = np ∧ (pickL n m perm as bs).all Option.isSome = true then resE (fs.sem (argD .none (pickL n m perm as bs))) fun _ => some ρ2 else none := rfl
@[simp] theorem p_argN {x : D} : argD x [] = [] := rfl
@[simp] theorem p_argS {x : D} {r : List (Option D)} : argD x (some d :: r) = d :: argD x r := rfl
@[simp] theorem p_argI {x : D} {r : List (Option D)} : argD x (none :: r) = x :: argD x r := rfl
@[simp] theorem p_resF {out : D} {k : D → Option Ev} : resE (some (.ok (true, d), out)) k = (match k out with | some ρ => some (.ok (.f d), ρ) | none => none) := rfl
@[simp] theorem p_resV {out : D} {k : D → Option Ev} : resE (some (.ok (false, d), out)) k = (match k out with | some ρ => some (.ok (.v d), ρ) | none => none) := rfl
@[simp] theorem p_resE {out : D} {k : D → Option Ev} : resE (some (.error e, out)) k = (match k out with | some ρ => some (.error e, ρ) | none => none) := rfl
@[simp] theorem p_nx : sNx ρ = some (.nx, ρ) := rfl
@[simp] theorem p_seq : sSeq f g ρ = seqD (f ρ) g := rfl
@[simp] theorem p_seqn : seqD (some (.nx, ρ)) g = g ρ := rfl
@[simp] theorem p_seqr {r : RV} : seqD (some (.rt r, ρ)) g = some (.rt r, ρ) := rfl
@[simp] theorem p_seqx : seqD (some (.ex e, ρ)) g = some (.ex e, ρ) := rfl
@[simp] theorem p_seqb : seqD (some (.bk, ρ)) g = some (.bk, ρ) := rfl
@[simp] theorem p_seqc : seqD (some (.ct, ρ)) g = some (.ct, ρ) := rfl
@[simp] theorem p_rt : sRt fe ρ = bS (fe ρ) fun r ρ1 => some (.rt r, ρ1) := rfl
@[simp] theorem p_rtN : sRtN ρ = some (.rt (.v .none), ρ) := rfl
@[simp] theorem p_sEx : sEx fe ρ = bS (fe ρ) fun _ ρ1 => some (.nx, ρ1) := rfl
@[simp] theorem p_sIf : sIf t f g ρ = bS (t ρ) fun b ρ1 => if b = true then f ρ1 else g ρ1 := rfl
@[simp] theorem p_set : sSet i fe ρ = bS (fe ρ) fun r ρ1 => put i r ρ1 := rfl
@[simp] theorem p_putf : put i (.f d) ρ = ifS (freeB ρ[i]?) (some (.nx, ρ.set i (.own .mine d))) := rfl
@[simp] theorem p_putv : put i (.v d) ρ = ifS (freeB ρ[i]?) (some (.nx, ρ.set i (.val d))) := rfl
@[simp] theorem p_puts : put i (.s j) ρ = putD i (slStand ρ j ρ[j]?) := rfl
@[simp] theorem p_putD : putD i (some (d, ρ)) = ifS (freeB ρ[i]?) (some (.nx, ρ.set i (.val d))) := rfl
@[simp] theorem p_ifSt {x : Option (SOut × Ev)} : ifS true x = x := rfl
@[simp] theorem p_freeE : freeB (some .emp) = true := rfl
@[simp] theorem p_freeV : freeB (some (.val d)) = true := rfl
@[simp] theorem p_freeM : freeB (some (.own .mine d)) = true := rfl
@[simp] theorem p_freeI : freeB (some (.own .io d)) = true := rfl
@[simp] theorem p_gN : gN i d ρ = ifG (freeB ρ[i]?) (some (ρ.set i (.val d))) := rfl
@[simp] theorem p_ifG {x : Option Ev} : ifG true x = x := rfl
@[simp] theorem p_gNil : gNil [] ρ = some ρ := rfl
@[simp] theorem p_gCons {h : GF} {gs : GFs} {r : List D} : gCons' h gs (d :: r) ρ = (match h d ρ with | some ρ1 => gs r ρ1 | none => none) := rfl
@[simp] theorem p_gTup {n : Nat} {gs : GFs} {ds : List D} : gTupD n gs (.tuple ds) ρ = if ds.length = n then gs ds ρ else none := rfl
@[simp] theorem p_asg {h : GF} : sAsg h fe ρ = bS (fe ρ) fun r ρ1 => standS (stand r ρ1) fun d ρ2 => nxD (h d ρ2) := rfl
@[simp] theorem p_standS {k : D → Ev → Option (SOut × Ev)} : standS (some (d, ρ)) k = k d ρ := rfl
@[simp] theorem p_nxD : nxD (some ρ) = some (.nx, ρ) := rfl
@[simp] theorem p_raise {x : Str} : sRaise x ρ = some (.ex ⟨x, none⟩, ρ) := rfl
@[simp] theorem p_try {isA : Str → Str → Option Bool} {cl : List (Str × SF)} : sTry isA f cl ρ = tryS isA cl (f ρ) := rfl
@[simp] theorem p_tryN {isA : Str → Str → Option Bool} {cl : List (Str × SF)} : tryS isA cl (some (.nx, ρ)) = some (.nx, ρ) := rfl
@[simp] theorem p_tryX {isA : Str → Str → Option Bool} {cl : List (Str × SF)} : tryS isA cl (some (.ex e, ρ)) = catchS isA cl e ρ := rfl
@[simp] theorem p_par : sPar i j fa fb ρ = bS (fa ρ) fun ra ρ1 => keepS ra ρ1 fun ra' ρ2 => bS (fb ρ2) fun rb ρ3 => keepS rb ρ3 fun rb' ρ4 => put2 i j ra' rb' ρ4 := rfl
@[simp] theorem p_keepv {k : RV → Ev → Option (SOut × Ev)} : keepS (.v d) ρ k = k (.v d) ρ := rfl
@[simp] theorem p_keepf {k : RV → Ev → Option (SOut × Ev)} : keepS (.f d) ρ k = k (.f d) ρ := rfl
@[simp] theorem p_put2 {ra rb : RV} : put2 i j ra rb ρ = seqD (put i ra ρ) fun ρ' => put j rb ρ' := rfl
@[simp] theorem p_putIx {fi : EF} : sPutIx j fi fe ρ = bS (fe ρ) fun r ρ1 => standS (stand r ρ1) fun d ρ2 => withLS j ρ2 fun _ _ => bS (fi ρ2) fun ri ρ3 => withLS j ρ3 fun b ds => putL (ixSet ds (rd ρ3 ri) d) j b ρ3 := rfl
@[simp] theorem p_withLS {k : Md → List D → Option (SOut × Ev)} : withLS i ρ k = (match ownL ρ[i]? with | some (b, ds) => k b ds | none => none) := rfl
@[simp] theorem p_putL {ds : List D} {b : Md} : putL (some ds) j b ρ = some (.nx, ρ.set j (.own b (.list ds))) := rfl
@[simp] theorem p_sl {fl fh : OF} : eSl fe fl fh ρ = bE (fe ρ) fun r ρ1 => bE (fl ρ1) fun lo ρ2 => bE (fh ρ2) fun hi ρ3 => slS ρ3 (rd ρ3 (hold r)) lo hi := rfl
@[simp] theorem p_oNo : oNo ρ = some (.ok none, ρ) := rfl
@[simp] theorem p_oInt : oInt fe ρ = bE (fe ρ) fun r ρ1 => intR (rd ρ1 r) ρ1 := rfl
@[simp] theorem p_intR {k : Int} : intR (some (.int k)) ρ = some (.ok (some k), ρ) := rfl
@[simp] theorem p_slS {lo hi : Option Int} : slS ρ (some d) lo hi = (opSl d lo hi).map fun r => (.ok r, ρ) := rfl
@[simp] theorem p_revT : eRevT fe ρ = eUn unRevT fe ρ := rfl
@[simp] theorem p_for {h : GF} {fi : IF} : sForI h f fi ρ = bS (fi ρ) fun x ρ1 => backO x.2 (forL h f x.1 (lentE x.2 ρ1)) := rfl
@[simp] theorem p_backO {r : SOut} : backO none (some (r, ρ)) = some (r, ρ) := rfl
@[simp] theorem p_backOs {r : SOut} {l : Ln} : backO l (some (r, ρ)) = some (r, Vm.backE l ρ) := rfl
@[simp] theorem p_lentN : lentE none ρ = ρ := rfl
@[simp] theorem p_backN : Vm.backE none ρ = ρ := rfl
@[simp] theorem p_forN {h : GF} : forL h f [] ρ = some (.nx, ρ) := rfl
theorem p_forC {h : GF} {r : List D} : forL h f (d :: r) ρ = gD (h d ρ) fun ρ1 => turnS (f ρ1) (forL h f r) := rfl
@[simp] theorem p_gD {k : SF} : gD (some ρ) k = k ρ := rfl
@[simp] theorem p_turnN {again : SF} : turnS (some (.nx, ρ)) again = again ρ := rfl
@[simp] theorem p_turnC {again : SF} : turnS (some (.ct, ρ)) again = again ρ := rfl
@[simp] theorem p_turnB {again : SF} : turnS (some (.bk, ρ)) again = some (.nx, ρ) := rfl
@[simp] theorem p_turnR {again : SF} {r : RV} : turnS (some (.rt r, ρ)) again = some (.rt r, ρ) := rfl
@[simp] theorem p_turnX {again : SF} : turnS (some (.ex e, ρ)) again = some (.ex e, ρ) := rfl
@[simp] theorem p_iSq : iSq fe ρ = bE (fe ρ) fun r ρ1 => optI (sqO ρ1 (hold r)) ρ1 := rfl
@[simp] theorem p_sqv : sqO ρ (.v d) = (itemsS d).map fun ds => (ds, none) := rfl
@[simp] theorem p_sqs : sqO ρ (.s j) = (match lendL ρ[j]? with | some (b, ds) => some (ds, some (j, b, .list ds)) | none => none) := rfl
@[simp] theorem p_optI {x : List D × Ln} : optI (some x) ρ = some (.ok x, ρ) := rfl
@[simp] theorem p_itemsL {ds : List D} : itemsS (.list ds) = some ds := rfl
@[simp] theorem p_itemsT {ds : List D} : itemsS (.tuple ds) = some ds := rfl
@[simp] theorem p_lendM {ds : List D} : lendL (some (.own .mine (.list ds))) = some (.mine, ds) := rfl
@[simp] theorem p_lendI {ds : List D} : lendL (some (.own .io (.list ds))) = some (.io, ds) := rfl
@[simp] theorem p_lentS {b : Md} : lentE (some (j, b, d)) ρ = ρ.set j (.own b.lend d) := rfl
@[simp] theorem p_backS {b : Md} : Vm.backE (some (j, b, d)) ρ = ρ.set j (.own b d) := rfl
@[simp] theorem p_iR1 : iR1 fe ρ = bE (fe ρ) fun r ρ1 => rngI (rngOf (some (.int 0)) (rd ρ1 r)) ρ1 := rfl
@[simp] theorem p_iR2 : iR2 fa fb ρ = bE (fa ρ) fun ra ρ1 => bE (fb ρ1) fun rb ρ2 => rngI (rngOf (rd ρ2 (hold ra)) (rd ρ2 rb)) ρ2 := rfl
@[simp] theorem p_lc {vs : List Nat} {h : GF} {fi : IF} : eLc vs h t fe fi ρ = bE (fi ρ) fun x ρ1 => if canWipe vs ρ1 = true then compE x.2 vs ρ1 (compL vs h t fe x.1 [] (lentE x.2 (wipeE ρ1 vs))) else none := rfl
@[simp] theorem p_compE {l : Ln} {vs : List Nat} {ds : List D} : compE l vs ρ1 (some (ds, ρ)) = some (.ok (.f (.list ds)), restE ρ1 (Vm.backE l ρ) vs) := rfl
@[simp] theorem p_compN {vs : List Nat} {h : GF} {acc : List D} : compL vs h t fe [] acc ρ = some (acc, ρ) := rfl
@[simp] theorem p_unIs {p : D → Bool} : unIs p d = some (.v (.bool (p d))) := rfl
@[simp] theorem p_rdTru {r : RV} : rdTru ρ r = (match rd ρ r with | some d => truD d | none => none) := by
  unfold rdTru; cases rd ρ r <;> rfl
@[simp] theorem p_boolV {b : Bool} : boolV (.v (.bool b)) = some b := rfl
@[simp] theorem p_truB {b : Bool} : truD (.bool b) = some b := rfl
@[simp] theorem p_sem {n np : Nat} {io : Option Nat} {body : SF} {ds : List D} : (fnS n np io body).sem ds = if ds.length = np then endF io (body (slots0 n io ds)) else none := rfl
@[simp] theorem p_endN {io : Option Nat} : endF io (some (.nx, ρ)) = endR io ρ (some (.ok (false, .none))) := rfl
@[simp] theorem p_endR {io : Option Nat} {r : RV} : endF io (some (.rt r, ρ)) = endR io ρ ((retD ρ r).map .ok) := rfl
@[simp] theorem p_endX {io : Option Nat} : endF io (some (.ex e, ρ)) = endR io ρ (some (.error e)) := rfl
@[simp] theorem p_retv : retD ρ (.v d) = some (false, d) := rfl
@[simp] theorem p_retf : retD ρ (.f d) = some (true, d) := rfl
@[simp] theorem p_end0 {x : Except Xn (Bool × D)} : endR none ρ (some x) = some (x, .none) := rfl
theorem slots0_none {n : Nat} {ds : List D} : slots0 n none ds = ds.map Sl.val ++ List.replicate (n - ds.length) .emp := by
  unfold slots0
  congr 1
  apply List.ext_getElem?
  intro i
  rw [List.getElem?_zipWith, List.getElem?_map]
  by_cases h : i < ds.length
  · rw [List.getElem?_range h, List.getElem?_eq_getElem h]; rfl
  · rw [List.getElem?_eq_none (by simpa using h), List.getElem?_eq_none (l := ds) (by omega)]; rfl
end
end Vm
end

section
set_option maxRecDepth 100000
set_option maxHeartbeats 4000000
/-! VmQ: comprehensions and loops, reckoned. -/
namespace Vm
open PySem PySem.Spec PyProof.Rows L2
theorem comp_gen {vs : List Nat} {g : GF} {ft : TF} {fe : EF} (p : D → Bool) (Fn : D → D) {ρ : Ev} : ∀ (ds acc : List D), (∀ d ∈ ds, ∃ ρd, g d ρ = some ρd ∧ ft ρd = some (.ok (p d), ρd) ∧ (p d = true → ∃ rv, fe ρd = some (.ok rv, ρd) ∧ stand rv ρd = some (Fn d, ρd)) ∧ canWipe vs ρd = true ∧ wipeE ρd vs = ρ) →
    compL vs g ft fe ds acc ρ = some (acc ++ (ds.filter p).map Fn, ρ)
  | [], acc, _ => by simp [compL]
  | d :: r, acc, h => by
    obtain ⟨ρd, h1, h2, h3, h4, h5⟩ := h d List.mem_cons_self
    have ih := fun acc => comp_gen p Fn r acc fun d hd => h d (List.mem_cons_of_mem _ hd)
    unfold compL
    simp only [h1, h2]
    cases hp : p d with
    | false =>
      simp only [h4, if_true, h5]
      rw [ih acc, List.filter_cons_of_neg (by simp [hp])]
    | true =>
      obtain ⟨rv, h6, h7⟩ := h3 hp
      simp only [h6, h7, h4, if_true, h5]
      rw [ih, List.filter_cons_of_pos hp, List.map_cons, List.append_assoc]
      rfl
/-- .. of every one -/
theorem comp_all {vs : List Nat} {g : GF} {fe : EF} (Fn : D → D) {ρ : Ev} (ds acc : List D) (h : ∀ d ∈ ds, ∃ ρd, g d ρ = some ρd ∧ (∃ rv, fe ρd = some (.ok rv, ρd) ∧ stand rv ρd = some (Fn d, ρd)) ∧ canWipe vs ρd = true ∧ wipeE ρd vs = ρ) :
    compL vs g tYesF fe ds acc ρ = some (acc ++ ds.map Fn, ρ) := by
  rw [comp_gen (fun _ => true) Fn ds acc fun d hd => by
    obtain ⟨ρd, h1, h2, h3, h4⟩ := h d hd
    exact ⟨ρd, h1, rfl, fun _ => h2, h3, h4⟩]
  rw [List.filter_eq_self.mpr (fun _ _ => rfl)]
theorem boolsOf_map {α : Type} (f : α → Bool) : ∀ l : List α, boolsOf (l.map fun x => .bool (f x)) = some (l.map f)
  | [] => rfl
  | x :: r => by
    show (boolsOf (r.map fun x => .bool (f x))).map _ = _
    rw [boolsOf_map f r]; rfl
theorem intsOf_map {α : Type} (f : α → Int) : ∀ l : List α, intsOf (l.map fun x => .int (f x)) = some (l.map f)
  | [] => rfl
  | x :: r => by
    show (intsOf (r.map fun x => .int (f x))).map _ = _
    rw [intsOf_map f r]; rfl
/-- a loop whose every turn goes on -/
theorem for_inv {g : GF} {f : SF} (I : List D → Ev → Prop) : ∀ (ds : List D) (ρ : Ev), I ds ρ → (∀ d r ρ, I (d :: r) ρ → d ∈ ds → ∃ ρ1 ρ2, g d ρ = some ρ1 ∧ f ρ1 = some (.nx, ρ2) ∧ I r ρ2) → ∃ ρ', forL g f ds ρ = some (.nx, ρ') ∧ I [] ρ'
  | [], ρ, h, _ => ⟨ρ, rfl, h⟩
  | d :: r, ρ, h, st => by
    obtain ⟨ρ1, ρ2, h1, h2, h3⟩ := st d r ρ h List.mem_cons_self
    obtain ⟨ρ', e, q⟩ := for_inv I r ρ2 h3 fun d' r' ρ3 h4 h5 => st d' r' ρ3 h4 (List.mem_cons_of_mem _ h5)
    refine ⟨ρ', ?_, q⟩
    rw [p_forC, h1, p_gD, h2, p_turnN, e]

/-! ### data of bounded depth and texts -/
def fit : Nat → D → Bool
  | _, .none => true
  | _, .bool _ => true
  | _, .int _ => true
  | _, .str x => PyData.strOk x && decide (x.length ≤ 1000)
  | n + 1, .list xs => decide (xs.length ≤ 1000) && xs.all (fit n)
  | n + 1, .tuple xs => decide (xs.length ≤ 1000) && xs.all (fit n)
  | _, _ => false
theorem fitAll_lay {n : Nat} (h : ∀ d : D, fit n d = true → d.canLay0 = true ∧ d.depth ≤ n) : ∀ xs : List D, xs.all (fit n) = true → PyData.canLayAll0 xs = true ∧ PyData.depthAll xs ≤ n
  | [], _ => ⟨by simp [PyData.canLayAll0], by simp [PyData.depthAll]⟩
  | x :: r, e => by
    rw [List.all_cons, Bool.and_eq_true] at e
    obtain ⟨a, b⟩ := h x e.1
    obtain ⟨c, d⟩ := fitAll_lay h r e.2
    exact ⟨by simp [PyData.canLayAll0, a, c], by simp only [PyData.depthAll]; omega⟩
theorem fit_lay : ∀ (n : Nat) (d : D), fit n d = true → d.canLay0 = true ∧ d.depth ≤ n
  | 0, d, h => by
    cases d with
    | str x =>
      have h : (PyData.strOk x && decide (x.length ≤ 1000)) = true := h
      rw [Bool.and_eq_true] at h
      exact ⟨by simp [PyData.canLay0, h.1], by simp [PyData.depth]⟩
    | none => exact ⟨by simp [PyData.canLay0], by simp [PyData.depth]⟩
    | bool _ => exact ⟨by simp [PyData.canLay0], by simp [PyData.depth]⟩
    | int _ => exact ⟨by simp [PyData.canLay0], by simp [PyData.depth]⟩
    | _ => cases h
  | n + 1, d, h => by
    cases d with
    | str x =>
      have h : (PyData.strOk x && decide (x.length ≤ 1000)) = true := h
      rw [Bool.and_eq_true] at h
      exact ⟨by simp [PyData.canLay0, h.1], by simp [PyData.depth]⟩
    | none => exact ⟨by simp [PyData.canLay0], by simp [PyData.depth]⟩
    | bool _ => exact ⟨by simp [PyData.canLay0], by simp [PyData.depth]⟩
    | int _ => exact ⟨by simp [PyData.canLay0], by simp [PyData.depth]⟩
    | list xs =>
      obtain ⟨a, b⟩ := fitAll_lay (fit_lay n) xs (Bool.and_eq_true_iff.mp h).2
      exact ⟨by simp [PyData.canLay0, a], by simp only [PyData.depth]; omega⟩
    | tuple xs =>
      obtain ⟨a, b⟩ := fitAll_lay (fit_lay n) xs (Bool.and_eq_true_iff.mp h).2
      exact ⟨by simp [PyData.canLay0, a], by simp only [PyData.depth]; omega⟩
    | dict _ => cases h
theorem fit_shp {n : Nat} {d : D} (h : fit n d = true) (hn : n ≤ 64 := by decide) : shp d = true := by
  obtain ⟨a, b⟩ := fit_lay n d h
  show (d.canLay0 && decide (d.depth ≤ 64)) = true
  rw [a, decide_eq_true (by omega)]
  rfl
theorem fit_up : ∀ {n m : Nat} {d : D}, fit n d = true → n ≤ m → fit m d = true
  | n, m, .none, _, _ => by cases m <;> rfl
  | n, m, .bool _, _, _ => by cases m <;> rfl
  | n, m, .int _, _, _ => by cases m <;> rfl
  | n, m, .str x, h, _ => by cases n <;> cases m <;> exact h
  | 0, _, .list _, h, _ => by cases h
  | 0, _, .tuple _, h, _ => by cases h
  | 0, _, .dict _, h, _ => by cases h
  | n + 1, m + 1, .list xs, h, hl => by
    have h : (decide (xs.length ≤ 1000) && xs.all (fit n)) = true := h
    show (decide (xs.length ≤ 1000) && xs.all (fit m)) = true
    rw [Bool.and_eq_true, List.all_eq_true] at h ⊢
    exact ⟨h.1, fun x hx => fit_up (h.2 x hx) (by omega)⟩
  | n + 1, m + 1, .tuple xs, h, hl => by
    have h : (decide (xs.length ≤ 1000) && xs.all (fit n)) = true := h
    show (decide (xs.length ≤ 1000) && xs.all (fit m)) = true
    rw [Bool.and_eq_true, List.all_eq_true] at h ⊢
    exact ⟨h.1, fun x hx => fit_up (h.2 x hx) (by omega)⟩
  | n + 1, _, .dict _, h, _ => by cases h
@[simp] theorem shp_int {i : Int} : SeqAt.shaped (.int i) = true := by
  show (PyData.canLay0 (.int i) && decide ((PyData.int i).depth ≤ 64)) = true
  simp [PyData.canLay0, PyData.depth]
@[simp] theorem shp_bool {i : Bool} : SeqAt.shaped (.bool i) = true := by
  show (PyData.canLay0 (.bool i) && decide ((PyData.bool i).depth ≤ 64)) = true
  simp [PyData.canLay0, PyData.depth]
@[simp] theorem shp_none : SeqAt.shaped .none = true := by
  show (PyData.canLay0 .none && decide (PyData.none.depth ≤ 64)) = true
  simp [PyData.canLay0, PyData.depth]
@[simp] theorem shp_nil : SeqAt.shaped (.list []) = true := by
  show (PyData.canLay0 (.list []) && decide ((PyData.list []).depth ≤ 64)) = true
  simp [PyData.canLay0, PyData.canLayAll0, PyData.depth, PyData.depthAll]
@[simp] theorem eqv_int {a b : Int} : PyData.eqv (.int a) (.int b) = (a == b) := by simp [PyData.eqv]
@[simp] theorem eqv_str {a b : Str} : PyData.eqv (.str a) (.str b) = (a == b) := by simp [PyData.eqv]
@[simp] theorem eqv_bool {a b : Bool} : PyData.eqv (.bool a) (.bool b) = (a == b) := by simp [PyData.eqv]
theorem eqv_nil (L : List D) : PyData.eqv (.list L) (.list []) = L.isEmpty := by
  cases L <;> simp [PyData.eqv, PyData.eqvAll]
end Vm
end

section
set_option maxRecDepth 100000
set_option maxHeartbeats 4000000
/-! VmR: strictly ascending rows and sorted(set(..)). -/
namespace Vm
open PySem PySem.Spec PyProof.Rows L2
open PySem.W (dataLt keyToks)
/-- strictly below, as keys -/
def ltK (a b : Key) : Bool := dataLt (kD a) (kD b)
theorem leK_eq (a b : Key) : leK a b = !ltK b a := rfl
theorem ltK_irrefl (a : Key) : ltK a a = false := PyProof.Rows.lex_irrefl _
theorem ltK_trans {a b c : Key} (h1 : ltK a b = true) (h2 : ltK b c = true) : ltK a c = true := PyProof.Rows.lex_trans _ _ _ h1 h2
theorem ltK_of {a b : Key} (h : leK a b = true) (n : a ≠ b) : ltK a b = true := by
  cases e : ltK a b with
  | true => rfl
  | false =>
    have h2 : leK b a = true := by rw [leK_eq, e]; rfl
    exact absurd (leK_anti a b h h2) n
theorem leK_of {a b : Key} (h : ltK a b = true) : leK a b = true := by
  rw [leK_eq]
  cases e : ltK b a with
  | false => rfl
  | true => have := ltK_trans h e; rw [ltK_irrefl] at this; cases this
theorem dedup_id : ∀ (r L : List Key), (L ++ r).Nodup → dedup L r = L ++ r
  | [], L, _ => by simp [dedup]
  | k :: r, L, h => by
    have hk : k ∉ L := fun z => by
      have := (List.nodup_append.mp h).2.2 k z k List.mem_cons_self
      exact this rfl
    have e : addK L k = L ++ [k] := if_neg fun z => hk (inK_iff.mp z)
    show dedup (addK L k) r = _
    rw [e, dedup_id r (L ++ [k]) (by simpa using h)]
    simp
theorem dedup_nodup (ks : List Key) : (dedup [] ks).Nodup := dedup_nd ks [] List.nodup_nil
/-- a row is the sorted set of its members just if it rises -/
theorem sortset_iff (ks : List Key) : sortK (dedup [] ks) = ks ↔ ks.Pairwise (fun a b => ltK a b = true) := by
  constructor
  · intro h
    have hp := PySem.W.sort_pairwise leK_total (dedup [] ks)
    have hn : (sortK (dedup [] ks)).Nodup := (List.mergeSort_perm _ leK).nodup_iff.mpr (dedup_nodup ks)
    have hp : (sortK (dedup [] ks)).Pairwise (fun a b => leK a b = true) := hp
    rw [h] at hp hn
    have := hp.and hn
    exact this.imp fun ⟨a, b⟩ => ltK_of a b
  · intro h
    have hn : ks.Nodup := h.imp fun {a b} q e => by subst e; rw [ltK_irrefl] at q; cases q
    rw [dedup_id ks [] (by simpa using hn)]
    exact (sorted_perm_eq leK_anti (h.imp fun q => leK_of q) (PySem.W.sort_pairwise leK_total _) (List.mergeSort_perm ks leK).symm).symm
/-- each below the next -/
def chainB : List Key → Bool
  | a :: b :: r => ltK a b && chainB (b :: r)
  | _ => true
theorem chain_iff : ∀ ks : List Key, chainB ks = true ↔ ks.Pairwise (fun a b => ltK a b = true)
  | [] => by simp [chainB]
  | [a] => by simp [chainB]
  | a :: b :: r => by
    have ih := chain_iff (b :: r)
    unfold chainB
    rw [Bool.and_eq_true, ih]
    constructor
    · rintro ⟨h1, h2⟩
      refine List.pairwise_cons.mpr ⟨fun c hc => ?_, h2⟩
      rcases List.mem_cons.mp hc with rfl | hc
      · exact h1
      · exact ltK_trans h1 ((List.pairwise_cons.mp h2).1 c hc)
    · intro h
      obtain ⟨h1, h2⟩ := List.pairwise_cons.mp h
      exact ⟨h1 b List.mem_cons_self, h2⟩
/-- .. by places -/
theorem chain_range : ∀ ks : List Key, chainB ks = (List.range (ks.length - 1)).all fun i => match ks[i]?, ks[i + 1]? with
    | some a, some b => ltK a b
    | _, _ => true
  | [] => rfl
  | [a] => rfl
  | a :: b :: r => by
    have ih := chain_range (b :: r)
    unfold chainB
    rw [ih]
    show _ = (List.range (r.length + 1)).all _
    rw [List.range_succ_eq_map, List.all_cons, List.all_map]
    congr 1
theorem eqv_keys : ∀ ks ms : List Key, PyData.eqvAll (ks.map kD) (ms.map kD) = decide (ks = ms)
  | [], [] => by simp [PyData.eqvAll]
  | [], _ :: _ => by simp [PyData.eqvAll]
  | _ :: _, [] => by simp [PyData.eqvAll]
  | a :: r, b :: s => by
    have e : PyData.eqv (kD a) (kD b) = decide (a = b) := by
      cases a with
      | inl i =>
        cases b with
        | inl j => simp [kD, PyData.eqv]; rw [Bool.eq_iff_iff]; simp
        | inr y => simp [kD, PyData.eqv]
      | inr x =>
        cases b with
        | inl j => simp [kD, PyData.eqv]
        | inr y => simp [kD, PyData.eqv]; rw [Bool.eq_iff_iff]; simp
    simp only [List.map_cons, PyData.eqvAll]
    rw [e, eqv_keys r s]
    rw [Bool.eq_iff_iff]
    simp
theorem eqv_keysL (ks ms : List Key) : PyData.eqv (.list (ks.map kD)) (.list (ms.map kD)) = decide (ks = ms) := by
  simp only [PyData.eqv]
  exact eqv_keys ks ms

/-! ### ranges, subscripts -/
theorem okR_nat {n : Nat} (h : n ≤ 1000) : okR (n : Int) = true := by
  unfold okR
  rw [Bool.and_eq_true, decide_eq_true_eq, decide_eq_true_eq]
  constructor <;> omega
theorem small1000' {n : Nat} (h : n ≤ 1000) : n ≤ sizeLine := Nat.le_trans h (by decide)
theorem rngI_nat {ρ : Ev} {lo hi : Nat} (h1 : lo ≤ 1000) (h2 : hi ≤ 1000) : rngI (rngOf (some (.int (lo : Int))) (some (.int (hi : Int)))) ρ = some (.ok (rangeD lo hi, none), ρ) := by
  have e : rngOf (some (.int (lo : Int))) (some (.int (hi : Int))) = some ((lo : Int), (hi : Int)) := by
    unfold rngOf
    simp only [okR_nat h1, okR_nat h2, Bool.and_self, if_true]
  rw [e]
  have h3 := small1000' h2
  have h4 : (hi : Int) - (lo : Int) ≤ (sizeLine : Nat) := by omega
  unfold rngI
  simp only [h4, if_true]
theorem atI_nat {α : Type} {ds : List α} {i : Nat} (h : i < ds.length) : atI ds (i : Int) = some ds[i] := by
  unfold atI ixN
  have h1 : (0 : Int) ≤ (i : Int) := by omega
  have h2 : (i : Int) < (ds.length : Int) := by omega
  simp only [h1, h2, if_true, Option.bind_some, Int.toNat_natCast]
  exact List.getElem?_eq_getElem h
end Vm
end

section
set_option maxRecDepth 100000
set_option maxHeartbeats 4000000
namespace K01
open PySem PySem.Spec PyProof.Rows L2 Vm
def top (i : Nat) : Stmt := PySem.Challenge.pw_endlessterms_k01_worlds_judged.main.body.getD i (.Pass ⟨0, 0, 0, 0⟩)
def isA (x y : Str) : Option Bool := if x = "InvalidWorld" ∧ y = "InvalidWorld" then some true else if x = "InvalidWorld" ∧ y = "TermError" then some true else if x = "TermError" ∧ y = "InvalidWorld" then some false else if x = "TermError" ∧ y = "TermError" then some true else none
/-- what the top has written -/
structure Txt (K : PySem.W.Frag) (mg : Str → Option Value) : Prop where
  f_is_integer : ∃ f fd, L2.Fun K "is_integer" "is_integer" (top 7) f fd ∧ mg "is_integer" = some (.ref f)
  f_is_from : ∃ f fd, L2.Fun K "is_from" "is_from" (top 8) f fd ∧ mg "is_from" = some (.ref f)
  f_is_word : ∃ f fd, L2.Fun K "is_word" "is_word" (top 9) f fd ∧ mg "is_word" = some (.ref f)
  f_is_ascending : ∃ f fd, L2.Fun K "is_ascending" "is_ascending" (top 10) f fd ∧ mg "is_ascending" = some (.ref f)
  f_is_letter_form : ∃ f fd, L2.Fun K "is_letter_form" "is_letter_form" (top 11) f fd ∧ mg "is_letter_form" = some (.ref f)
  f_told_letters_ok : ∃ f fd, L2.Fun K "told_letters_ok" "told_letters_ok" (top 12) f fd ∧ mg "told_letters_ok" = some (.ref f)
  f_world_ok : ∃ f fd, L2.Fun K "world_ok" "world_ok" (top 13) f fd ∧ mg "world_ok" = some (.ref f)
  f_has_letter : ∃ f fd, L2.Fun K "has_letter" "has_letter" (top 14) f fd ∧ mg "has_letter" = some (.ref f)
  f_need_world : ∃ f fd, L2.Fun K "need_world" "need_world" (top 15) f fd ∧ mg "need_world" = some (.ref f)
  f_is_world : ∃ f fd, L2.Fun K "is_world" "is_world" (top 31) f fd ∧ mg "is_world" = some (.ref f)
  f_is_letter : ∃ f fd, L2.Fun K "is_letter" "is_letter" (top 32) f fd ∧ mg "is_letter" = some (.ref f)
  f_some_terms : ∃ f fd, L2.Fun K "some_terms" "some_terms" (top 38) f fd ∧ mg "some_terms" = some (.ref f)
  f_some_systems : ∃ f fd, L2.Fun K "some_systems" "some_systems" (top 41) f fd ∧ mg "some_systems" = some (.ref f)
  f__law_spring : ∃ f fd, L2.Fun K "_law_spring" "_law_spring" (top 43) f fd ∧ mg "_law_spring" = some (.ref f)
  f__law_take : ∃ f fd, L2.Fun K "_law_take" "_law_take" (top 44) f fd ∧ mg "_law_take" = some (.ref f)
  f__law_pick : ∃ f fd, L2.Fun K "_law_pick" "_law_pick" (top 45) f fd ∧ mg "_law_pick" = some (.ref f)
  f__law_same : ∃ f fd, L2.Fun K "_law_same" "_law_same" (top 46) f fd ∧ mg "_law_same" = some (.ref f)
  f__law_is_word : ∃ f fd, L2.Fun K "_law_is_word" "_law_is_word" (top 47) f fd ∧ mg "_law_is_word" = some (.ref f)
  f__law_is_letter : ∃ f fd, L2.Fun K "_law_is_letter" "_law_is_letter" (top 48) f fd ∧ mg "_law_is_letter" = some (.ref f)
  f__law_is_world : ∃ f fd, L2.Fun K "_law_is_world" "_law_is_world" (top 49) f fd ∧ mg "_law_is_world" = some (.ref f)
  f__law_values : ∃ f fd, L2.Fun K "_law_values" "_law_values" (top 50) f fd ∧ mg "_law_values" = some (.ref f)
  f__law_word : ∃ f fd, L2.Fun K "_law_word" "_law_word" (top 51) f fd ∧ mg "_law_word" = some (.ref f)
  f_law : ∃ f fd, L2.Fun K "law" "law" (top 52) f fd ∧ mg "law" = some (.ref f)
  b_abs : mg "abs" = none
  b_all : mg "all" = none
  b_bool : mg "bool" = none
  b_int : mg "int" = none
  b_isinstance : mg "isinstance" = none
  b_len : mg "len" = none
  b_list : mg "list" = none
  b_max : mg "max" = none
  b_min : mg "min" = none
  b_range : mg "range" = none
  b_set : mg "set" = none
  b_sorted : mg "sorted" = none
  b_str : mg "str" = none
  b_tuple : mg "tuple" = none
  g_SIGNS : ∃ t, mg "SIGNS" = some (.str "abcdefghijklmnopqrstuvwxyz" t)
  x_InvalidWorld : ∃ C, mg "InvalidWorld" = some (.ref C) ∧ PySem.W.excIn K C [.type "ValueError", .type "Exception", .type "BaseException", .type "object"] "ValueError.__new__" = true ∧ PySem.W.keepIn K (.ref C) = true ∧ PySem.W.subIn K (.ref C) (.type "BaseException") = some true ∧ PySem.W.typeIn K (.ref C) = some (.type "type")
  x_TermError : ∃ C, mg "TermError" = some (.ref C) ∧ PySem.W.excIn K C [.type "ValueError", .type "Exception", .type "BaseException", .type "object"] "ValueError.__new__" = true ∧ PySem.W.keepIn K (.ref C) = true ∧ PySem.W.subIn K (.ref C) (.type "BaseException") = some true ∧ PySem.W.typeIn K (.ref C) = some (.type "type")
  isa : IsA K mg isA
section
variable {P : Program} {w : World} {K : PySem.W.Frag} {mg : Str → Option Value} {base : Heap}
/-! is_integer -/
def N_is_integer : List Str := ["value"]
theorem nd_is_integer : N_is_integer.Nodup := by decide +kernel
def pb_is_integer : SF := sRt (eAnd (eUn (unIs isInt) (eVar 0)) (eNot (eUn (unIs isBool) (eVar 0))))
def pf_is_integer : FnS := fnS N_is_integer.length 1 (none) pb_is_integer
theorem cl_is_integer (T : Txt K mg) : Cl P w K mg base "is_integer" (top 7) ["value"] 1 pf_is_integer := by
  have b_bool := T.b_bool
  have b_int := T.b_int
  have b_isinstance := T.b_isinstance
  exact Cl.mk' (io := none) (body := pb_is_integer) (k := 0) T.f_is_integer ⟨rfl, rfl, rfl, nd_is_integer, rfl, by decide +kernel, by decide +kernel⟩ (fun _ _ _ _ _ _ us hl => match us, hl with | [_], _ => rfl) fun X c M fx d => lss_one (ls_ret (le_and M.toMt (lx_isi fx.toFx0 M.toMt kit_int b_isinstance b_int PyProof.Rows.boot_int (lx_var fx.toFx0 0)) (le_one (le_not M.toMt (lx_isi fx.toFx0 M.toMt kit_bool b_isinstance b_bool PyProof.Rows.boot_bool (lx_var fx.toFx0 0))))))
/-! is_from -/
def N_is_from : List Str := ["low", "value"]
theorem nd_is_from : N_is_from.Nodup := by decide +kernel
def pb_is_from : SF := sRt (eAnd (eCall pf_is_integer (npOk 1 (rCons (eVar 1) (rNil)))) (eBin opGe (eVar 1) (eVar 0)))
def pf_is_from : FnS := fnS N_is_from.length 2 (none) pb_is_from
theorem cl_is_from (T : Txt K mg) : Cl P w K mg base "is_from" (top 8) ["low", "value"] 2 pf_is_from := by
  exact Cl.mk' (io := none) (body := pb_is_from) (k := 1) T.f_is_from ⟨rfl, rfl, rfl, nd_is_from, rfl, by decide +kernel, by decide +kernel⟩ (fun _ _ _ _ _ _ us hl => match us, hl with | [_, _], _ => rfl) fun X c M fx d => lss_one (ls_ret (le_and M.toMt (lx_call fx M.toMt (cl_is_integer T) (lr_cons (lx_var fx.toFx0 1) (lr_nil))) (le_one (le_cmp (geB M.toMt) (lx_var fx.toFx0 1) (lx_var fx.toFx0 0) (by rfl)))))
/-! is_word -/
def N_is_word : List Str := ["value", "sign"]
theorem nd_is_word : N_is_word.Nodup := by decide +kernel
def pb_is_word : SF := sRt (eAnd (eUn (unIs isStr) (eVar 0)) (eAnd (eChain opLe opLe (eC (.int 1)) (eUn unLen (eVar 0)) (eC (.int 8))) (eUn unAll (eLc [1] (gN 1) (tYesF) (eBin opIn (eVar 1) (eC (.str "abcdefghijklmnopqrstuvwxyz"))) (iSq (eVar 0))))))
def pf_is_word : FnS := fnS N_is_word.length 1 (none) pb_is_word
theorem cl_is_word (T : Txt K mg) : Cl P w K mg base "is_word" (top 9) ["value"] 1 pf_is_word := by
  have b_all := T.b_all
  have b_isinstance := T.b_isinstance
  have b_len := T.b_len
  have b_str := T.b_str
  obtain ⟨t_SIGNS, g_SIGNS⟩ := T.g_SIGNS
  exact Cl.mk' (io := none) (body := pb_is_word) (k := 0) T.f_is_word ⟨rfl, rfl, rfl, nd_is_word, rfl, by decide +kernel, by decide +kernel⟩ (fun _ _ _ _ _ _ us hl => match us, hl with | [_], _ => rfl) fun X c M fx d => lss_one (ls_ret (le_and M.toMt (lx_isi fx.toFx0 M.toMt kit_str b_isinstance b_str PyProof.Rows.boot_str (lx_var fx.toFx0 0)) (le_and M.toMt (le_chain (leB M.toMt) (leB M.toMt) (le_int) (lx_b1 fx.toFx0 (len1 M.toMt) b_len PySem.boot_len (lx_var fx.toFx0 0)) (le_int)) (le_one (lx_b1 fx.toFx0 (all1 M.toMt) b_all PyProof.Rows.boot_all (lx_lc fx M.toMt [("sign", 1)] (li_seq M.toMt (lx_var fx.toFx0 0)) (fun _ _ fx1 m1 => lxw_name fx1.toFx0 m1 1) (fun _ _ fx1 m1 => lts_nil) (fun _ _ fx1 m1 => le_cmp (inB m1) (lx_var fx1.toFx0 1) (lx_globS fx1.toFx0 m1 g_SIGNS) (by rfl))))))))
/-! is_ascending -/
def N_is_ascending : List Str := ["row", "k"]
theorem nd_is_ascending : N_is_ascending.Nodup := by decide +kernel
def pb_is_ascending : SF := sRt (eUn unAll (eLc [1] (gN 1) (tYesF) (eBin opLt (eBin opIx (eVar 0) (eBin opSub (eVar 1) (eC (.int 1)))) (eBin opIx (eVar 0) (eVar 1))) (iR2 (eC (.int 1)) (eUn unLen (eVar 0)))))
def pf_is_ascending : FnS := fnS N_is_ascending.length 1 (none) pb_is_ascending
theorem cl_is_ascending (T : Txt K mg) : Cl P w K mg base "is_ascending" (top 10) ["row"] 1 pf_is_ascending := by
  have b_all := T.b_all
  have b_len := T.b_len
  have b_range := T.b_range
  exact Cl.mk' (io := none) (body := pb_is_ascending) (k := 0) T.f_is_ascending ⟨rfl, rfl, rfl, nd_is_ascending, rfl, by decide +kernel, by decide +kernel⟩ (fun _ _ _ _ _ _ us hl => match us, hl with | [_], _ => rfl) fun X c M fx d => lss_one (ls_ret (lx_b1 fx.toFx0 (all1 M.toMt) b_all PyProof.Rows.boot_all (lx_lc fx M.toMt [("k", 1)] (lx_r2 fx.toFx0 b_range (le_int) (lx_b1 fx.toFx0 (len1 M.toMt) b_len PySem.boot_len (lx_var fx.toFx0 0))) (fun _ _ fx1 m1 => lxw_name fx1.toFx0 m1 1) (fun _ _ fx1 m1 => lts_nil) (fun _ _ fx1 m1 => le_cmp (ltB m1) (le_ix m1 (lx_var fx1.toFx0 0) (le_bin (subB m1) (lx_var fx1.toFx0 1) (le_int))) (le_ix m1 (lx_var fx1.toFx0 0) (lx_var fx1.toFx0 1)) (by rfl)))))
/-! is_letter_form -/
def N_is_letter_form : List Str := ["value"]
theorem nd_is_letter_form : N_is_letter_form.Nodup := by decide +kernel
def pb_is_letter_form : SF := sRt (eAnd (eUn (unIs isTup) (eVar 0)) (eAnd (eBin opEq (eUn unLen (eVar 0)) (eC (.int 2))) (eAnd (eCall pf_is_word (npOk 1 (rCons (eBin opIx (eVar 0) (eC (.int 0))) (rNil)))) (eCall pf_is_from (npOk 2 (rCons (eC (.int 0)) (rCons (eBin opIx (eVar 0) (eC (.int 1))) (rNil))))))))
def pf_is_letter_form : FnS := fnS N_is_letter_form.length 1 (none) pb_is_letter_form
theorem cl_is_letter_form (T : Txt K mg) : Cl P w K mg base "is_letter_form" (top 11) ["value"] 3 pf_is_letter_form := by
  have b_isinstance := T.b_isinstance
  have b_len := T.b_len
  have b_tuple := T.b_tuple
  exact Cl.mk' (io := none) (body := pb_is_letter_form) (k := 2) T.f_is_letter_form ⟨rfl, rfl, rfl, nd_is_letter_form, rfl, by decide +kernel, by decide +kernel⟩ (fun _ _ _ _ _ _ us hl => match us, hl with | [_], _ => rfl) fun X c M fx d => lss_one (ls_ret (le_and M.toMt (lx_isi fx.toFx0 M.toMt kit_tup b_isinstance b_tuple PyProof.Rows.boot_tuple (lx_var fx.toFx0 0)) (le_and M.toMt (le_cmp (eqB M.toMt) (lx_b1 fx.toFx0 (len1 M.toMt) b_len PySem.boot_len (lx_var fx.toFx0 0)) (le_int) (by rfl)) (le_and M.toMt (lx_call fx M.toMt (cl_is_word T) (lr_cons (le_ix M.toMt (lx_var fx.toFx0 0) (le_int)) (lr_nil))) (le_one (lx_call fx M.toMt (cl_is_from T) (lr_cons (le_int) (lr_cons (le_ix M.toMt (lx_var fx.toFx0 0) (le_int)) (lr_nil)))))))))
/-! told_letters_ok -/
def N_told_letters_ok : List Str := ["letters", "kind", "words", "branches", "word", "many", "one"]
theorem nd_told_letters_ok : N_told_letters_ok.Nodup := by decide +kernel
def pb_told_letters_ok : SF := sSeq (sIf (tOr (tNot (tE (eUn (unIs isTup) (eVar 0)))) (tNot (tE (eUn unAll (eLc [6] (gN 6) (tYesF) (eCall pf_is_letter_form (npOk 1 (rCons (eVar 6) (rNil)))) (iSq (eVar 0))))))) (sRt (eC (.bool false))) (sNx)) (sSeq (sPar 2 3 (eLc [4, 5] (gTupD 2 (gCons' (gN 4) (gCons' (gN 5) (gNil)))) (tYesF) (eVar 4) (iSq (eVar 0))) (eLc [4, 5] (gTupD 2 (gCons' (gN 4) (gCons' (gN 5) (gNil)))) (tYesF) (eVar 5) (iSq (eVar 0)))) (sSeq (sIf (tOr (tNot (tE (eCall pf_is_ascending (npOk 1 (rCons (eVar 2) (rNil)))))) (tOr (tB (eBin opLt (eUn unLen (eVar 0)) (eC (.int 2)))) (tB (eBin opEq (eUn unMax (eVar 3)) (eC (.int 0)))))) (sRt (eC (.bool false))) (sNx)) (sRt (eOr (eBin opEq (eVar 1) (eC (.str "endless"))) (eBin opEq (eUn unMin (eVar 3)) (eC (.int 0)))))))
def pf_told_letters_ok : FnS := fnS N_told_letters_ok.length 2 (none) pb_told_letters_ok
theorem cl_told_letters_ok (T : Txt K mg) : Cl P w K mg base "told_letters_ok" (top 12) ["letters", "kind"] 4 pf_told_letters_ok := by
  have b_all := T.b_all
  have b_isinstance := T.b_isinstance
  have b_len := T.b_len
  have b_max := T.b_max
  have b_min := T.b_min
  have b_tuple := T.b_tuple
  exact Cl.mk' (io := none) (body := pb_told_letters_ok) (k := 3) T.f_told_letters_ok ⟨rfl, rfl, rfl, nd_told_letters_ok, rfl, by decide +kernel, by decide +kernel⟩ (fun _ _ _ _ _ _ us hl => match us, hl with | [_, _], _ => rfl) fun X c M fx d => lss_cons (ls_if ((lw_or (lt_not (lt_E M.toMt (lx_isi fx.toFx0 M.toMt kit_tup b_isinstance b_tuple PyProof.Rows.boot_tuple (lx_var fx.toFx0 0)))) (lw_or1 (lt_not (lt_E M.toMt (lx_b1 fx.toFx0 (all1 M.toMt) b_all PyProof.Rows.boot_all (lx_lc fx M.toMt [("one", 6)] (li_seq M.toMt (lx_var fx.toFx0 0)) (fun _ _ fx1 m1 => lxw_name fx1.toFx0 m1 6) (fun _ _ fx1 m1 => lts_nil) (fun _ _ fx1 m1 => lx_call fx1 m1 (cl_is_letter_form T) (lr_cons (lx_var fx1.toFx0 6) (lr_nil))))))))).pt) (lss_one (ls_ret (le_bool))) (lss_nil)) (lss_cons (lx_par fx.toFx0 M 2 3 (lx_lc fx M.toMt [("word", 4), ("many", 5)] (li_seq M.toMt (lx_var fx.toFx0 0)) (fun _ _ fx1 m1 => lgw_tup m1 (lgws_cons (lxw_name fx1.toFx0 m1 4) (lgws_cons (lxw_name fx1.toFx0 m1 5) (lgws_nil)))) (fun _ _ fx1 m1 => lts_nil) (fun _ _ fx1 m1 => lx_var fx1.toFx0 4)) (fun _ M1 => lx_lc fx M1.toMt [("word", 4), ("many", 5)] (li_seq M1.toMt (lx_var fx.toFx0 0)) (fun _ _ fx1 m1 => lgw_tup m1 (lgws_cons (lxw_name fx1.toFx0 m1 4) (lgws_cons (lxw_name fx1.toFx0 m1 5) (lgws_nil)))) (fun _ _ fx1 m1 => lts_nil) (fun _ _ fx1 m1 => lx_var fx1.toFx0 5))) (lss_cons (ls_if ((lw_or (lt_not (lt_E M.toMt (lx_call fx M.toMt (cl_is_ascending T) (lr_cons (lx_var fx.toFx0 2) (lr_nil))))) (lw_or (lt_cmp (ltB M.toMt) (lx_b1 fx.toFx0 (len1 M.toMt) b_len PySem.boot_len (lx_var fx.toFx0 0)) (le_int) (by rfl)) (lw_or1 (lt_cmp (eqB M.toMt) (lx_b1 fx.toFx0 (max1 M.toMt) b_max PyProof.Rows.boot_max (lx_var fx.toFx0 3)) (le_int) (by rfl))))).pt) (lss_one (ls_ret (le_bool))) (lss_nil)) (lss_one (ls_ret (le_or M.toMt (le_cmp (eqB M.toMt) (lx_var fx.toFx0 1) (le_str) (by rfl)) (le_one (le_cmp (eqB M.toMt) (lx_b1 fx.toFx0 (min1 M.toMt) b_min PyProof.Rows.boot_min (lx_var fx.toFx0 3)) (le_int) (by rfl))))))))
/-! world_ok -/
def N_world_ok : List Str := ["value"]
theorem nd_world_ok : N_world_ok.Nodup := by decide +kernel
def pb_world_ok : SF := sSeq (sIf (tOr (tNot (tE (eUn (unIs isTup) (eVar 0)))) (tOr (tB (eBin opNe (eUn unLen (eVar 0)) (eC (.int 2)))) (tNot (tE (eUn (unIs isStr) (eBin opIx (eVar 0) (eC (.int 1)))))))) (sRt (eC (.bool false))) (sNx)) (sSeq (sIf (tB (eBin opNotIn (eBin opIx (eVar 0) (eC (.int 1))) (eTup (aCons (eC (.str "finite")) (aCons (eC (.str "endless")) (aNil)))))) (sRt (eC (.bool false))) (sNx)) (sRt (eOr (eBin opIsN (eBin opIx (eVar 0) (eC (.int 0))) (eC .none)) (eCall pf_told_letters_ok (npOk 2 (rCons (eBin opIx (eVar 0) (eC (.int 0))) (rCons (eBin opIx (eVar 0) (eC (.int 1))) (rNil))))))))
def pf_world_ok : FnS := fnS N_world_ok.length 1 (none) pb_world_ok
theorem cl_world_ok (T : Txt K mg) : Cl P w K mg base "world_ok" (top 13) ["value"] 5 pf_world_ok := by
  have b_isinstance := T.b_isinstance
  have b_len := T.b_len
  have b_str := T.b_str
  have b_tuple := T.b_tuple
  exact Cl.mk' (io := none) (body := pb_world_ok) (k := 4) T.f_world_ok ⟨rfl, rfl, rfl, nd_world_ok, rfl, by decide +kernel, by decide +kernel⟩ (fun _ _ _ _ _ _ us hl => match us, hl with | [_], _ => rfl) fun X c M fx d => lss_cons (ls_if ((lw_or (lt_not (lt_E M.toMt (lx_isi fx.toFx0 M.toMt kit_tup b_isinstance b_tuple PyProof.Rows.boot_tuple (lx_var fx.toFx0 0)))) (lw_or (lt_cmp (neB M.toMt) (lx_b1 fx.toFx0 (len1 M.toMt) b_len PySem.boot_len (lx_var fx.toFx0 0)) (le_int) (by rfl)) (lw_or1 (lt_not (lt_E M.toMt (lx_isi fx.toFx0 M.toMt kit_str b_isinstance b_str PyProof.Rows.boot_str (le_ix M.toMt (lx_var fx.toFx0 0) (le_int)))))))).pt) (lss_one (ls_ret (le_bool))) (lss_nil)) (lss_cons (ls_if (lt_cmp (notInB M.toMt) (le_ix M.toMt (lx_var fx.toFx0 0) (le_int)) (le_tup (la_cons (le_str) (la_cons (le_str) (la_nil)))) (by rfl)) (lss_one (ls_ret (le_bool))) (lss_nil)) (lss_one (ls_ret (le_or M.toMt (le_cmp (isNB M.toMt) (le_ix M.toMt (lx_var fx.toFx0 0) (le_int)) (le_none) (by rfl)) (le_one (lx_call fx M.toMt (cl_told_letters_ok T) (lr_cons (le_ix M.toMt (lx_var fx.toFx0 0) (le_int)) (lr_cons (le_ix M.toMt (lx_var fx.toFx0 0) (le_int)) (lr_nil)))))))))
/-! has_letter -/
def N_has_letter : List Str := ["world", "word", "many"]
theorem nd_has_letter : N_has_letter.Nodup := by decide +kernel
def pb_has_letter : SF := sRt (eOr (eBin opIsN (eVar 0) (eC .none)) (eOr (eBin opIsN (eBin opIx (eVar 0) (eC (.int 0))) (eC .none)) (eBin opIn (eTup (aCons (eVar 1) (aCons (eVar 2) (aNil)))) (eBin opIx (eVar 0) (eC (.int 0))))))
def pf_has_letter : FnS := fnS N_has_letter.length 3 (none) pb_has_letter
theorem cl_has_letter (T : Txt K mg) : Cl P w K mg base "has_letter" (top 14) ["world", "word", "many"] 1 pf_has_letter := by
  exact Cl.mk' (io := none) (body := pb_has_letter) (k := 0) T.f_has_letter ⟨rfl, rfl, rfl, nd_has_letter, rfl, by decide +kernel, by decide +kernel⟩ (fun _ _ _ _ _ _ us hl => match us, hl with | [_, _, _], _ => rfl) fun X c M fx d => lss_one (ls_ret (le_or M.toMt (le_cmp (isNB M.toMt) (lx_var fx.toFx0 0) (le_none) (by rfl)) (le_or M.toMt (le_cmp (isNB M.toMt) (le_ix M.toMt (lx_var fx.toFx0 0) (le_int)) (le_none) (by rfl)) (le_one (le_cmp (inB M.toMt) (le_tup (la_cons (lx_var fx.toFx0 1) (la_cons (lx_var fx.toFx0 2) (la_nil)))) (le_ix M.toMt (lx_var fx.toFx0 0) (le_int)) (by rfl))))))
/-! need_world -/
def N_need_world : List Str := ["world"]
theorem nd_need_world : N_need_world.Nodup := by decide +kernel
def pb_need_world : SF := sIf (tNot (tE (eCall pf_world_ok (npOk 1 (rCons (eVar 0) (rNil)))))) (sRaise "InvalidWorld") (sNx)
def pf_need_world : FnS := fnS N_need_world.length 1 (none) pb_need_world
theorem cl_need_world (T : Txt K mg) : Cl P w K mg base "need_world" (top 15) ["world"] 6 pf_need_world := by
  obtain ⟨C_InvalidWorld, g_InvalidWorld, q_InvalidWorld, k_InvalidWorld, r1_InvalidWorld, r2_InvalidWorld⟩ := T.x_InvalidWorld
  exact Cl.mk' (io := none) (body := pb_need_world) (k := 5) T.f_need_world ⟨rfl, rfl, rfl, nd_need_world, rfl, by decide +kernel, by decide +kernel⟩ (fun _ _ _ _ _ _ us hl => match us, hl with | [_], _ => rfl) fun X c M fx d => lss_one (ls_if (lt_not (lt_E M.toMt (lx_call fx M.toMt (cl_world_ok T) (lr_cons (lx_var fx.toFx0 0) (lr_nil))))) (lss_one (lx_raise fx.toFx0 M.toMt F.excBase_ValueError g_InvalidWorld q_InvalidWorld k_InvalidWorld r1_InvalidWorld r2_InvalidWorld)) (lss_nil))
/-! is_world -/
def N_is_world : List Str := ["value"]
theorem nd_is_world : N_is_world.Nodup := by decide +kernel
def pb_is_world : SF := sRt (eCall pf_world_ok (npOk 1 (rCons (eVar 0) (rNil))))
def pf_is_world : FnS := fnS N_is_world.length 1 (none) pb_is_world
theorem cl_is_world (T : Txt K mg) : Cl P w K mg base "is_world" (top 31) ["value"] 6 pf_is_world := by
  exact Cl.mk' (io := none) (body := pb_is_world) (k := 5) T.f_is_world ⟨rfl, rfl, rfl, nd_is_world, rfl, by decide +kernel, by decide +kernel⟩ (fun _ _ _ _ _ _ us hl => match us, hl with | [_], _ => rfl) fun X c M fx d => lss_one (ls_ret (lx_call fx M.toMt (cl_world_ok T) (lr_cons (lx_var fx.toFx0 0) (lr_nil))))
/-! is_letter -/
def N_is_letter : List Str := ["world", "value"]
theorem nd_is_letter : N_is_letter.Nodup := by decide +kernel
def pb_is_letter : SF := sSeq (sEx (eCall pf_need_world (npOk 1 (rCons (eVar 0) (rNil))))) (sRt (eAnd (eCall pf_is_letter_form (npOk 1 (rCons (eVar 1) (rNil)))) (eCall pf_has_letter (npOk 3 (rCons (eVar 0) (rCons (eBin opIx (eVar 1) (eC (.int 0))) (rCons (eBin opIx (eVar 1) (eC (.int 1))) (rNil))))))))
def pf_is_letter : FnS := fnS N_is_letter.length 2 (none) pb_is_letter
theorem cl_is_letter (T : Txt K mg) : Cl P w K mg base "is_letter" (top 32) ["world", "value"] 7 pf_is_letter := by
  exact Cl.mk' (io := none) (body := pb_is_letter) (k := 6) T.f_is_letter ⟨rfl, rfl, rfl, nd_is_letter, rfl, by decide +kernel, by decide +kernel⟩ (fun _ _ _ _ _ _ us hl => match us, hl with | [_, _], _ => rfl) fun X c M fx d => lss_cons (ls_expr (lx_call fx M.toMt (cl_need_world T) (lr_cons (lx_var fx.toFx0 0) (lr_nil)))) (lss_one (ls_ret (le_and M.toMt (lx_call fx M.toMt (cl_is_letter_form T) (lr_cons (lx_var fx.toFx0 1) (lr_nil))) (le_one (lx_call fx M.toMt (cl_has_letter T) (lr_cons (lx_var fx.toFx0 0) (lr_cons (le_ix M.toMt (lx_var fx.toFx0 1) (le_int)) (lr_cons (le_ix M.toMt (lx_var fx.toFx0 1) (le_int)) (lr_nil)))))))))
/-! some_terms -/
def N_some_terms : List Str := ["world", "number", "row", "term"]
theorem nd_some_terms : N_some_terms.Nodup := by decide +kernel
def pb_some_terms : SF := sSeq (sEx (eCall pf_need_world (npOk 1 (rCons (eVar 0) (rNil))))) (sNo)
def pf_some_terms : FnS := fnS N_some_terms.length 2 (none) pb_some_terms
theorem cl_some_terms (T : Txt K mg) : Cl P w K mg base "some_terms" (top 38) ["world", "number"] 7 pf_some_terms := by
  exact Cl.mk' (io := none) (body := pb_some_terms) (k := 6) T.f_some_terms ⟨rfl, rfl, rfl, nd_some_terms, rfl, by decide +kernel, by decide +kernel⟩ (fun _ _ _ _ _ _ us hl => match us, hl with | [_, _], _ => rfl) fun X c M fx d => lss_cons (ls_expr (lx_call fx M.toMt (cl_need_world T) (lr_cons (lx_var fx.toFx0 0) (lr_nil)))) (lss_no)
/-! some_systems -/
def N_some_systems : List Str := ["world", "number", "found", "system"]
theorem nd_some_systems : N_some_systems.Nodup := by decide +kernel
def pb_some_systems : SF := sSeq (sEx (eCall pf_need_world (npOk 1 (rCons (eVar 0) (rNil))))) (sNo)
def pf_some_systems : FnS := fnS N_some_systems.length 2 (none) pb_some_systems
theorem cl_some_systems (T : Txt K mg) : Cl P w K mg base "some_systems" (top 41) ["world", "number"] 7 pf_some_systems := by
  exact Cl.mk' (io := none) (body := pb_some_systems) (k := 6) T.f_some_systems ⟨rfl, rfl, rfl, nd_some_systems, rfl, by decide +kernel, by decide +kernel⟩ (fun _ _ _ _ _ _ us hl => match us, hl with | [_, _], _ => rfl) fun X c M fx d => lss_cons (ls_expr (lx_call fx M.toMt (cl_need_world T) (lr_cons (lx_var fx.toFx0 0) (lr_nil)))) (lss_no)
/-! _law_spring -/
def N__law_spring : List Str := ["script", "at", "mixed", "cell", "own"]
theorem nd__law_spring : N__law_spring.Nodup := by decide +kernel
def pb__law_spring : SF := sSeq (sSet 2 (eBin opAdd (eBin opAdd (eC (.int 905969)) (eBin opMul (eC (.int 7001)) (eUn unLen (eSl (eVar 0) (oNo) (oInt (eC (.int 63))))))) (eBin opMul (eC (.int 15731)) (eVar 1)))) (sSeq (sForI (gN 3) (sSet 2 (eBin opMod (eUn unInt (eBin opAdd (eBin opAdd (eBin opMul (eVar 2) (eC (.int 1000003))) (eBin opMul (eUn unInt (eVar 3)) (eC (.int 69069)))) (eC (.int 12345)))) (eBin opAdd (eBin opPow (eC (.int 10)) (eC (.int 30))) (eC (.int 57))))) (iSq (eSl (eVar 0) (oNo) (oInt (eC (.int 63)))))) (sSeq (sSet 4 (eIf (tB (eBin opLt (eVar 1) (eUn unLen (eVar 0)))) (eUn unAbs (eUn unInt (eBin opIx (eVar 0) (eVar 1)))) (eC (.int 0)))) (sRt (eLst (aCons (eBin opMax (eC (.int 0)) (eBin opSub (eVar 4) (eBin opPow (eC (.int 10)) (eC (.int 18))))) (aCons (eVar 2) (aCons (eC (.int 0)) (aNil))))))))
def pf__law_spring : FnS := fnS N__law_spring.length 2 (none) pb__law_spring
theorem cl__law_spring (T : Txt K mg) : Cl P w K mg base "_law_spring" (top 43) ["script", "at"] 1 pf__law_spring := by
  have b_abs := T.b_abs
  have b_int := T.b_int
  have b_len := T.b_len
  have b_max := T.b_max
  exact Cl.mk' (io := none) (body := pb__law_spring) (k := 0) T.f__law_spring ⟨rfl, rfl, rfl, nd__law_spring, rfl, by decide +kernel, by decide +kernel⟩ (fun _ _ _ _ _ _ us hl => match us, hl with | [_, _], _ => rfl) fun X c M fx d => lss_cons (lx_set fx.toFx0 d nd__law_spring 2 (le_bin (addB M.toMt) (le_bin (addB M.toMt) (le_int) (le_bin (mulB M.toMt) (le_int) (lx_b1 fx.toFx0 (len1 M.toMt) b_len PySem.boot_len (le_slice M.toMt (lx_var fx.toFx0 0) (lo_no) (lo_int (le_int)))))) (le_bin (mulB M.toMt) (le_int) (lx_var fx.toFx0 1)))) (lss_cons (ls_forI M (li_seq M.toMt (le_slice M.toMt (lx_var fx.toFx0 0) (lo_no) (lo_int (le_int)))) (fun _ M1 => lx_gname fx.toFx0 d M1.toMt 3) (fun _ M1 => lss_one (lx_set fx.toFx0 d nd__law_spring 2 (le_bin (modB M1.toMt) (lx_t1 fx.toFx0 (int1 M1.toMt) b_int PyProof.Rows.boot_int (le_bin (addB M1.toMt) (le_bin (addB M1.toMt) (le_bin (mulB M1.toMt) (lx_var fx.toFx0 2) (le_int)) (le_bin (mulB M1.toMt) (lx_t1 fx.toFx0 (int1 M1.toMt) b_int PyProof.Rows.boot_int (lx_var fx.toFx0 3)) (le_int))) (le_int))) (le_bin (addB M1.toMt) (le_bin (powB M1.toMt) (le_int) (le_int)) (le_int)))))) (lss_cons (lx_set fx.toFx0 d nd__law_spring 4 (le_if (lt_cmp (ltB M.toMt) (lx_var fx.toFx0 1) (lx_b1 fx.toFx0 (len1 M.toMt) b_len PySem.boot_len (lx_var fx.toFx0 0)) (by rfl)) (lx_b1 fx.toFx0 (abs1 M.toMt) b_abs PyProof.Rows.boot_abs (lx_t1 fx.toFx0 (int1 M.toMt) b_int PyProof.Rows.boot_int (le_ix M.toMt (lx_var fx.toFx0 0) (lx_var fx.toFx0 1)))) (le_int))) (lss_one (ls_ret (le_lst (la_cons (lx_b2 fx.toFx0 (max2 M.toMt) b_max PyProof.Rows.boot_max (le_int) (le_bin (subB M.toMt) (lx_var fx.toFx0 4) (le_bin (powB M.toMt) (le_int) (le_int)))) (la_cons (lx_var fx.toFx0 2) (la_cons (le_int) (la_nil)))))))))
/-! _law_take -/
def N__law_take : List Str := ["spring", "many", "one", "two", "digit"]
theorem nd__law_take : N__law_take.Nodup := by decide +kernel
def pb__law_take : SF := sSeq (sIf (tB (eBin opGt (eBin opIx (eVar 0) (eC (.int 0))) (eC (.int 0)))) (sSeq (sSet 4 (eBin opMod (eUn unInt (eBin opIx (eVar 0) (eC (.int 0)))) (eVar 1))) (sSeq (sPutIx 0 (eC (.int 0)) (eBin opDiv (eBin opIx (eVar 0) (eC (.int 0))) (eVar 1))) (sRt (eVar 4)))) (sNx)) (sSeq (sPutIx 0 (eC (.int 2)) (eBin opAdd (eBin opIx (eVar 0) (eC (.int 2))) (eC (.int 1)))) (sSeq (sSet 2 (eBin opMod (eUn unInt (eBin opAdd (eBin opPow (eBin opAdd (eBin opIx (eVar 0) (eC (.int 1))) (eBin opMul (eC (.int 6364136223)) (eBin opIx (eVar 0) (eC (.int 2))))) (eC (.int 2))) (eBin opMul (eC (.int 1442695041)) (eBin opIx (eVar 0) (eC (.int 2)))))) (eBin opAdd (eBin opPow (eC (.int 10)) (eC (.int 28))) (eC (.int 331))))) (sSeq (sSet 3 (eBin opMod (eUn unInt (eBin opAdd (eBin opMul (eVar 2) (eVar 2)) (eBin opMul (eC (.int 4050300157)) (eBin opIx (eVar 0) (eC (.int 2)))))) (eBin opAdd (eBin opPow (eC (.int 10)) (eC (.int 26))) (eC (.int 67))))) (sRt (eBin opMod (eUn unInt (eBin opDiv (eVar 3) (eBin opPow (eC (.int 10)) (eC (.int 7))))) (eVar 1))))))
def pf__law_take : FnS := fnS N__law_take.length 2 (some 0) pb__law_take
theorem cl__law_take (T : Txt K mg) : Cl P w K mg base "_law_take" (top 44) ["spring", "many"] 1 pf__law_take := by
  have b_int := T.b_int
  exact Cl.mk' (io := some 0) (body := pb__law_take) (k := 0) T.f__law_take ⟨rfl, rfl, rfl, nd__law_take, rfl, by decide +kernel, by decide +kernel⟩ (fun _ _ _ _ _ _ us hl => match us, hl with | [_, _], _ => rfl) fun X c M fx d => lss_cons (ls_if (lt_cmp (gtB M.toMt) (le_ix M.toMt (lx_var fx.toFx0 0) (le_int)) (le_int) (by rfl)) (lss_cons (lx_set fx.toFx0 d nd__law_take 4 (le_bin (modB M.toMt) (lx_t1 fx.toFx0 (int1 M.toMt) b_int PyProof.Rows.boot_int (le_ix M.toMt (lx_var fx.toFx0 0) (le_int))) (lx_var fx.toFx0 1))) (lss_cons (lx_putIx fx.toFx0 0 (le_bin (divB M.toMt) (le_ix M.toMt (lx_var fx.toFx0 0) (le_int)) (lx_var fx.toFx0 1)) (le_int)) (lss_one (ls_ret (lx_var fx.toFx0 4))))) (lss_nil)) (lss_cons (lx_putIx fx.toFx0 0 (le_bin (addB M.toMt) (le_ix M.toMt (lx_var fx.toFx0 0) (le_int)) (le_int)) (le_int)) (lss_cons (lx_set fx.toFx0 d nd__law_take 2 (le_bin (modB M.toMt) (lx_t1 fx.toFx0 (int1 M.toMt) b_int PyProof.Rows.boot_int (le_bin (addB M.toMt) (le_bin (powB M.toMt) (le_bin (addB M.toMt) (le_ix M.toMt (lx_var fx.toFx0 0) (le_int)) (le_bin (mulB M.toMt) (le_int) (le_ix M.toMt (lx_var fx.toFx0 0) (le_int)))) (le_int)) (le_bin (mulB M.toMt) (le_int) (le_ix M.toMt (lx_var fx.toFx0 0) (le_int))))) (le_bin (addB M.toMt) (le_bin (powB M.toMt) (le_int) (le_int)) (le_int)))) (lss_cons (lx_set fx.toFx0 d nd__law_take 3 (le_bin (modB M.toMt) (lx_t1 fx.toFx0 (int1 M.toMt) b_int PyProof.Rows.boot_int (le_bin (addB M.toMt) (le_bin (mulB M.toMt) (lx_var fx.toFx0 2) (lx_var fx.toFx0 2)) (le_bin (mulB M.toMt) (le_int) (le_ix M.toMt (lx_var fx.toFx0 0) (le_int))))) (le_bin (addB M.toMt) (le_bin (powB M.toMt) (le_int) (le_int)) (le_int)))) (lss_one (ls_ret (le_bin (modB M.toMt) (lx_t1 fx.toFx0 (int1 M.toMt) b_int PyProof.Rows.boot_int (le_bin (divB M.toMt) (lx_var fx.toFx0 3) (le_bin (powB M.toMt) (le_int) (le_int)))) (lx_var fx.toFx0 1)))))))
/-! _law_pick -/
def N__law_pick : List Str := ["spring", "things"]
theorem nd__law_pick : N__law_pick.Nodup := by decide +kernel
def pb__law_pick : SF := sRt (eBin opIx (eVar 1) (eCallIo pf__law_take 0 0 (npOk 2 (rIo 0 (rCons (eUn unLen (eVar 1)) (rNil))))))
def pf__law_pick : FnS := fnS N__law_pick.length 2 (some 0) pb__law_pick
theorem cl__law_pick (T : Txt K mg) : Cl P w K mg base "_law_pick" (top 45) ["spring", "things"] 2 pf__law_pick := by
  have b_len := T.b_len
  exact Cl.mk' (io := some 0) (body := pb__law_pick) (k := 1) T.f__law_pick ⟨rfl, rfl, rfl, nd__law_pick, rfl, by decide +kernel, by decide +kernel⟩ (fun _ _ _ _ _ _ us hl => match us, hl with | [_, _], _ => rfl) fun X c M fx d => lss_one (ls_ret (le_ix M.toMt (lx_var fx.toFx0 1) (lx_callIo fx M.toMt (cl__law_take T) 0 0 (lx_io fx.toFx0 (lr_cons (lx_b1 fx.toFx0 (len1 M.toMt) b_len PySem.boot_len (lx_var fx.toFx0 1)) (lr_nil))))))
/-! _law_same -/
def N__law_same : List Str := ["found", "due", "k"]
theorem nd__law_same : N__law_same.Nodup := by decide +kernel
def pb__law_same (rec_ : FnS) : SF := sSeq (sIf (tE (eUn (unIs fun d => isTup d || isList d) (eVar 1))) (sSeq (sIf (tOr (tB (eBin opNe (eUn (unIs isTup) (eVar 0)) (eUn (unIs isTup) (eVar 1)))) (tOr (tB (eBin opNe (eUn (unIs isList) (eVar 0)) (eUn (unIs isList) (eVar 1)))) (tB (eBin opNe (eUn unLen (eVar 0)) (eUn unLen (eVar 1)))))) (sRt (eC (.bool false))) (sNx)) (sRt (eBin opEq (eLc [2] (gN 2) (tNot (tE (eCall rec_ (npOk 2 (rCons (eBin opIx (eVar 0) (eVar 2)) (rCons (eBin opIx (eVar 1) (eVar 2)) (rNil))))))) (eVar 2) (iR1 (eUn unLen (eVar 1)))) (eLst (aNil))))) (sNx)) (sSeq (sIf (tB (eBin opIsN (eVar 1) (eC .none))) (sRt (eBin opIsN (eVar 0) (eC .none))) (sNx)) (sSeq (sIf (tOr (tE (eUn (unIs isBool) (eVar 1))) (tE (eUn (unIs isBool) (eVar 0)))) (sRt (eAnd (eUn (unIs isBool) (eVar 1)) (eAnd (eUn (unIs isBool) (eVar 0)) (eBin opEq (eVar 0) (eVar 1))))) (sNx)) (sSeq (sIf (tE (eUn (unIs isStr) (eVar 1))) (sRt (eAnd (eUn (unIs isStr) (eVar 0)) (eBin opEq (eVar 0) (eVar 1)))) (sNx)) (sRt (eAnd (eUn (unIs isInt) (eVar 0)) (eBin opEq (eVar 0) (eVar 1)))))))
def pf__law_same : Nat → FnS
  | 0 => fnS N__law_same.length 2 (none) sNo
  | n + 1 => fnS N__law_same.length 2 (none) (pb__law_same (pf__law_same n))
theorem io__law_same (n : Nat) : (pf__law_same n).io = none := by cases n <;> rfl
theorem cl__law_same (n : Nat) (T : Txt K mg) : Cl P w K mg base "_law_same" (top 46) ["found", "due"] (n + 1) (pf__law_same n) := by
  have b_bool := T.b_bool
  have b_int := T.b_int
  have b_isinstance := T.b_isinstance
  have b_len := T.b_len
  have b_list := T.b_list
  have b_range := T.b_range
  have b_str := T.b_str
  have b_tuple := T.b_tuple
  induction n with
  | zero => exact Cl.mk' (io := none) (body := sNo) (k := 0 + 0) T.f__law_same ⟨rfl, rfl, rfl, nd__law_same, rfl, by decide +kernel, by decide +kernel⟩ (fun _ _ _ _ _ _ us hl => match us, hl with | [_, _], _ => rfl) fun X c M fx d => lss_no
  | succ n ih =>
    exact Cl.mk' (io := none) (body := pb__law_same (pf__law_same n)) (k := n + 1 + 0) T.f__law_same ⟨rfl, rfl, rfl, nd__law_same, rfl, by decide +kernel, by decide +kernel⟩ (fun _ _ _ _ _ _ us hl => match us, hl with | [_, _], _ => rfl) fun X c M fx d => lss_cons (ls_if (lt_E M.toMt (lx_isi2 fx.toFx0 M.toMt kit_tup kit_list b_isinstance b_tuple PyProof.Rows.boot_tuple b_list PyProof.Rows.boot_list (lx_var fx.toFx0 1))) (lss_cons (ls_if ((lw_or (lt_cmp (neB M.toMt) (lx_isi fx.toFx0 M.toMt kit_tup b_isinstance b_tuple PyProof.Rows.boot_tuple (lx_var fx.toFx0 0)) (lx_isi fx.toFx0 M.toMt kit_tup b_isinstance b_tuple PyProof.Rows.boot_tuple (lx_var fx.toFx0 1)) (by rfl)) (lw_or (lt_cmp (neB M.toMt) (lx_isi fx.toFx0 M.toMt kit_list b_isinstance b_list PyProof.Rows.boot_list (lx_var fx.toFx0 0)) (lx_isi fx.toFx0 M.toMt kit_list b_isinstance b_list PyProof.Rows.boot_list (lx_var fx.toFx0 1)) (by rfl)) (lw_or1 (lt_cmp (neB M.toMt) (lx_b1 fx.toFx0 (len1 M.toMt) b_len PySem.boot_len (lx_var fx.toFx0 0)) (lx_b1 fx.toFx0 (len1 M.toMt) b_len PySem.boot_len (lx_var fx.toFx0 1)) (by rfl))))).pt) (lss_one (ls_ret (le_bool))) (lss_nil)) (lss_one (ls_ret (le_cmp (eqB M.toMt) (lx_lc fx M.toMt [("k", 2)] (lx_r1 fx.toFx0 b_range (lx_b1 fx.toFx0 (len1 M.toMt) b_len PySem.boot_len (lx_var fx.toFx0 1))) (fun _ _ fx1 m1 => lxw_name fx1.toFx0 m1 2) (fun _ _ fx1 m1 => lts_one (lt_not (lt_E m1 (lx_call fx1 m1 ih (hlv := by omega) (hio := io__law_same n) (lr_cons (le_ix m1 (lx_var fx1.toFx0 0) (lx_var fx1.toFx0 2)) (lr_cons (le_ix m1 (lx_var fx1.toFx0 1) (lx_var fx1.toFx0 2)) (lr_nil))))))) (fun _ _ fx1 m1 => lx_var fx1.toFx0 2)) (le_lst (la_nil)) (by rfl))))) (lss_nil)) (lss_cons (ls_if (lt_cmp (isNB M.toMt) (lx_var fx.toFx0 1) (le_none) (by rfl)) (lss_one (ls_ret (le_cmp (isNB M.toMt) (lx_var fx.toFx0 0) (le_none) (by rfl)))) (lss_nil)) (lss_cons (ls_if ((lw_or (lt_E M.toMt (lx_isi fx.toFx0 M.toMt kit_bool b_isinstance b_bool PyProof.Rows.boot_bool (lx_var fx.toFx0 1))) (lw_or1 (lt_E M.toMt (lx_isi fx.toFx0 M.toMt kit_bool b_isinstance b_bool PyProof.Rows.boot_bool (lx_var fx.toFx0 0))))).pt) (lss_one (ls_ret (le_and M.toMt (lx_isi fx.toFx0 M.toMt kit_bool b_isinstance b_bool PyProof.Rows.boot_bool (lx_var fx.toFx0 1)) (le_and M.toMt (lx_isi fx.toFx0 M.toMt kit_bool b_isinstance b_bool PyProof.Rows.boot_bool (lx_var fx.toFx0 0)) (le_one (le_cmp (eqB M.toMt) (lx_var fx.toFx0 0) (lx_var fx.toFx0 1) (by rfl))))))) (lss_nil)) (lss_cons (ls_if (lt_E M.toMt (lx_isi fx.toFx0 M.toMt kit_str b_isinstance b_str PyProof.Rows.boot_str (lx_var fx.toFx0 1))) (lss_one (ls_ret (le_and M.toMt (lx_isi fx.toFx0 M.toMt kit_str b_isinstance b_str PyProof.Rows.boot_str (lx_var fx.toFx0 0)) (le_one (le_cmp (eqB M.toMt) (lx_var fx.toFx0 0) (lx_var fx.toFx0 1) (by rfl)))))) (lss_nil)) (lss_one (ls_ret (le_and M.toMt (lx_isi fx.toFx0 M.toMt kit_int b_isinstance b_int PyProof.Rows.boot_int (lx_var fx.toFx0 0)) (le_one (le_cmp (eqB M.toMt) (lx_var fx.toFx0 0) (lx_var fx.toFx0 1) (by rfl)))))))))
/-! _law_is_word -/
def N__law_is_word : List Str := ["value", "sign"]
theorem nd__law_is_word : N__law_is_word.Nodup := by decide +kernel
def pb__law_is_word : SF := sRt (eAnd (eUn (unIs isStr) (eVar 0)) (eAnd (eChain opLe opLe (eC (.int 1)) (eUn unLen (eVar 0)) (eC (.int 8))) (eBin opEq (eLc [1] (gN 1) (tB (eBin opNotIn (eVar 1) (eC (.str "abcdefghijklmnopqrstuvwxyz")))) (eVar 1) (iSq (eVar 0))) (eLst (aNil)))))
def pf__law_is_word : FnS := fnS N__law_is_word.length 1 (none) pb__law_is_word
theorem cl__law_is_word (T : Txt K mg) : Cl P w K mg base "_law_is_word" (top 47) ["value"] 1 pf__law_is_word := by
  have b_isinstance := T.b_isinstance
  have b_len := T.b_len
  have b_str := T.b_str
  exact Cl.mk' (io := none) (body := pb__law_is_word) (k := 0) T.f__law_is_word ⟨rfl, rfl, rfl, nd__law_is_word, rfl, by decide +kernel, by decide +kernel⟩ (fun _ _ _ _ _ _ us hl => match us, hl with | [_], _ => rfl) fun X c M fx d => lss_one (ls_ret (le_and M.toMt (lx_isi fx.toFx0 M.toMt kit_str b_isinstance b_str PyProof.Rows.boot_str (lx_var fx.toFx0 0)) (le_and M.toMt (le_chain (leB M.toMt) (leB M.toMt) (le_int) (lx_b1 fx.toFx0 (len1 M.toMt) b_len PySem.boot_len (lx_var fx.toFx0 0)) (le_int)) (le_one (le_cmp (eqB M.toMt) (lx_lc fx M.toMt [("sign", 1)] (li_seq M.toMt (lx_var fx.toFx0 0)) (fun _ _ fx1 m1 => lxw_name fx1.toFx0 m1 1) (fun _ _ fx1 m1 => lts_one (lt_cmp (notInB m1) (lx_var fx1.toFx0 1) (le_str) (by rfl))) (fun _ _ fx1 m1 => lx_var fx1.toFx0 1)) (le_lst (la_nil)) (by rfl))))))
/-! _law_is_letter -/
def N__law_is_letter : List Str := ["value"]
theorem nd__law_is_letter : N__law_is_letter.Nodup := by decide +kernel
def pb__law_is_letter : SF := sSeq (sIf (tOr (tNot (tE (eUn (unIs isTup) (eVar 0)))) (tOr (tB (eBin opNe (eUn unLen (eVar 0)) (eC (.int 2)))) (tNot (tE (eCall pf__law_is_word (npOk 1 (rCons (eBin opIx (eVar 0) (eC (.int 0))) (rNil)))))))) (sRt (eC (.bool false))) (sNx)) (sRt (eAnd (eUn (unIs isInt) (eBin opIx (eVar 0) (eC (.int 1)))) (eAnd (eNot (eUn (unIs isBool) (eBin opIx (eVar 0) (eC (.int 1))))) (eBin opGe (eBin opIx (eVar 0) (eC (.int 1))) (eC (.int 0))))))
def pf__law_is_letter : FnS := fnS N__law_is_letter.length 1 (none) pb__law_is_letter
theorem cl__law_is_letter (T : Txt K mg) : Cl P w K mg base "_law_is_letter" (top 48) ["value"] 2 pf__law_is_letter := by
  have b_bool := T.b_bool
  have b_int := T.b_int
  have b_isinstance := T.b_isinstance
  have b_len := T.b_len
  have b_tuple := T.b_tuple
  exact Cl.mk' (io := none) (body := pb__law_is_letter) (k := 1) T.f__law_is_letter ⟨rfl, rfl, rfl, nd__law_is_letter, rfl, by decide +kernel, by decide +kernel⟩ (fun _ _ _ _ _ _ us hl => match us, hl with | [_], _ => rfl) fun X c M fx d => lss_cons (ls_if ((lw_or (lt_not (lt_E M.toMt (lx_isi fx.toFx0 M.toMt kit_tup b_isinstance b_tuple PyProof.Rows.boot_tuple (lx_var fx.toFx0 0)))) (lw_or (lt_cmp (neB M.toMt) (lx_b1 fx.toFx0 (len1 M.toMt) b_len PySem.boot_len (lx_var fx.toFx0 0)) (le_int) (by rfl)) (lw_or1 (lt_not (lt_E M.toMt (lx_call fx M.toMt (cl__law_is_word T) (lr_cons (le_ix M.toMt (lx_var fx.toFx0 0) (le_int)) (lr_nil)))))))).pt) (lss_one (ls_ret (le_bool))) (lss_nil)) (lss_one (ls_ret (le_and M.toMt (lx_isi fx.toFx0 M.toMt kit_int b_isinstance b_int PyProof.Rows.boot_int (le_ix M.toMt (lx_var fx.toFx0 0) (le_int))) (le_and M.toMt (le_not M.toMt (lx_isi fx.toFx0 M.toMt kit_bool b_isinstance b_bool PyProof.Rows.boot_bool (le_ix M.toMt (lx_var fx.toFx0 0) (le_int)))) (le_one (le_cmp (geB M.toMt) (le_ix M.toMt (lx_var fx.toFx0 0) (le_int)) (le_int) (by rfl)))))))
/-! _law_is_world -/
def N__law_is_world : List Str := ["value", "letters", "words", "one"]
theorem nd__law_is_world : N__law_is_world.Nodup := by decide +kernel
def pb__law_is_world : SF := sSeq (sIf (tOr (tNot (tE (eUn (unIs isTup) (eVar 0)))) (tOr (tB (eBin opNe (eUn unLen (eVar 0)) (eC (.int 2)))) (tOr (tNot (tE (eUn (unIs isStr) (eBin opIx (eVar 0) (eC (.int 1)))))) (tB (eBin opNotIn (eBin opIx (eVar 0) (eC (.int 1))) (eTup (aCons (eC (.str "finite")) (aCons (eC (.str "endless")) (aNil))))))))) (sRt (eC (.bool false))) (sNx)) (sSeq (sSet 1 (eBin opIx (eVar 0) (eC (.int 0)))) (sSeq (sIf (tB (eBin opIsN (eVar 1) (eC .none))) (sRt (eC (.bool true))) (sNx)) (sSeq (sIf (tOr (tNot (tE (eUn (unIs isTup) (eVar 1)))) (tOr (tB (eBin opLt (eUn unLen (eVar 1)) (eC (.int 2)))) (tB (eBin opNe (eLc [3] (gN 3) (tNot (tE (eCall pf__law_is_letter (npOk 1 (rCons (eVar 3) (rNil)))))) (eVar 3) (iSq (eVar 1))) (eLst (aNil)))))) (sRt (eC (.bool false))) (sNx)) (sSeq (sSet 2 (eLc [3] (gN 3) (tYesF) (eBin opIx (eVar 3) (eC (.int 0))) (iSq (eVar 1)))) (sSeq (sIf (tOr (tB (eBin opNe (eVar 2) (eUn unSortSet (eVar 2)))) (tB (eBin opEq (eLc [3] (gN 3) (tB (eBin opGt (eBin opIx (eVar 3) (eC (.int 1))) (eC (.int 0)))) (eVar 3) (iSq (eVar 1))) (eLst (aNil))))) (sRt (eC (.bool false))) (sNx)) (sRt (eOr (eBin opEq (eBin opIx (eVar 0) (eC (.int 1))) (eC (.str "endless"))) (eBin opNe (eLc [3] (gN 3) (tB (eBin opEq (eBin opIx (eVar 3) (eC (.int 1))) (eC (.int 0)))) (eVar 3) (iSq (eVar 1))) (eLst (aNil))))))))))
def pf__law_is_world : FnS := fnS N__law_is_world.length 1 (none) pb__law_is_world
theorem cl__law_is_world (T : Txt K mg) : Cl P w K mg base "_law_is_world" (top 49) ["value"] 3 pf__law_is_world := by
  have b_isinstance := T.b_isinstance
  have b_len := T.b_len
  have b_set := T.b_set
  have b_sorted := T.b_sorted
  have b_str := T.b_str
  have b_tuple := T.b_tuple
  exact Cl.mk' (io := none) (body := pb__law_is_world) (k := 2) T.f__law_is_world ⟨rfl, rfl, rfl, nd__law_is_world, rfl, by decide +kernel, by decide +kernel⟩ (fun _ _ _ _ _ _ us hl => match us, hl with | [_], _ => rfl) fun X c M fx d => lss_cons (ls_if ((lw_or (lt_not (lt_E M.toMt (lx_isi fx.toFx0 M.toMt kit_tup b_isinstance b_tuple PyProof.Rows.boot_tuple (lx_var fx.toFx0 0)))) (lw_or (lt_cmp (neB M.toMt) (lx_b1 fx.toFx0 (len1 M.toMt) b_len PySem.boot_len (lx_var fx.toFx0 0)) (le_int) (by rfl)) (lw_or (lt_not (lt_E M.toMt (lx_isi fx.toFx0 M.toMt kit_str b_isinstance b_str PyProof.Rows.boot_str (le_ix M.toMt (lx_var fx.toFx0 0) (le_int))))) (lw_or1 (lt_cmp (notInB M.toMt) (le_ix M.toMt (lx_var fx.toFx0 0) (le_int)) (le_tup (la_cons (le_str) (la_cons (le_str) (la_nil)))) (by rfl)))))).pt) (lss_one (ls_ret (le_bool))) (lss_nil)) (lss_cons (lx_set fx.toFx0 d nd__law_is_world 1 (le_ix M.toMt (lx_var fx.toFx0 0) (le_int))) (lss_cons (ls_if (lt_cmp (isNB M.toMt) (lx_var fx.toFx0 1) (le_none) (by rfl)) (lss_one (ls_ret (le_bool))) (lss_nil)) (lss_cons (ls_if ((lw_or (lt_not (lt_E M.toMt (lx_isi fx.toFx0 M.toMt kit_tup b_isinstance b_tuple PyProof.Rows.boot_tuple (lx_var fx.toFx0 1)))) (lw_or (lt_cmp (ltB M.toMt) (lx_b1 fx.toFx0 (len1 M.toMt) b_len PySem.boot_len (lx_var fx.toFx0 1)) (le_int) (by rfl)) (lw_or1 (lt_cmp (neB M.toMt) (lx_lc fx M.toMt [("one", 3)] (li_seq M.toMt (lx_var fx.toFx0 1)) (fun _ _ fx1 m1 => lxw_name fx1.toFx0 m1 3) (fun _ _ fx1 m1 => lts_one (lt_not (lt_E m1 (lx_call fx1 m1 (cl__law_is_letter T) (lr_cons (lx_var fx1.toFx0 3) (lr_nil)))))) (fun _ _ fx1 m1 => lx_var fx1.toFx0 3)) (le_lst (la_nil)) (by rfl))))).pt) (lss_one (ls_ret (le_bool))) (lss_nil)) (lss_cons (lx_setLc fx M.toMt 2 [("one", 3)] (li_seq M.toMt (lx_var fx.toFx0 1)) (fun _ _ fx1 m1 => lxw_name fx1.toFx0 m1 3) (fun _ _ fx1 m1 => lts_nil) (fun _ _ fx1 m1 => le_ix m1 (lx_var fx1.toFx0 3) (le_int))) (lss_cons (ls_if ((lw_or (lt_cmp (neB M.toMt) (lx_var fx.toFx0 2) (lx_sortset fx.toFx0 M.toMt b_sorted b_set (lx_var fx.toFx0 2)) (by rfl)) (lw_or1 (lt_cmp (eqB M.toMt) (lx_lc fx M.toMt [("one", 3)] (li_seq M.toMt (lx_var fx.toFx0 1)) (fun _ _ fx1 m1 => lxw_name fx1.toFx0 m1 3) (fun _ _ fx1 m1 => lts_one (lt_cmp (gtB m1) (le_ix m1 (lx_var fx1.toFx0 3) (le_int)) (le_int) (by rfl))) (fun _ _ fx1 m1 => lx_var fx1.toFx0 3)) (le_lst (la_nil)) (by rfl)))).pt) (lss_one (ls_ret (le_bool))) (lss_nil)) (lss_one (ls_ret (le_or M.toMt (le_cmp (eqB M.toMt) (le_ix M.toMt (lx_var fx.toFx0 0) (le_int)) (le_str) (by rfl)) (le_one (le_cmp (neB M.toMt) (lx_lc fx M.toMt [("one", 3)] (li_seq M.toMt (lx_var fx.toFx0 1)) (fun _ _ fx1 m1 => lxw_name fx1.toFx0 m1 3) (fun _ _ fx1 m1 => lts_one (lt_cmp (eqB m1) (le_ix m1 (lx_var fx1.toFx0 3) (le_int)) (le_int) (by rfl))) (fun _ _ fx1 m1 => lx_var fx1.toFx0 3)) (le_lst (la_nil)) (by rfl)))))))))))
/-! _law_values -/
def N__law_values : List Str := ["spring", "words", "letters", "found", "one", "k", "kind", "word"]
theorem nd__law_values : N__law_values.Nodup := by decide +kernel
def pb__law_values : SF := sSeq (sSet 1 (eCallIo pf__law_pick 0 0 (npOk 2 (rIo 0 (rCons (eLst (aCons (eLst (aCons (eC (.str "a")) (aCons (eC (.str "f")) (aNil)))) (aCons (eLst (aCons (eC (.str "o")) (aCons (eC (.str "s")) (aNil)))) (aCons (eLst (aCons (eC (.str "a")) (aCons (eC (.str "b")) (aCons (eC (.str "cc")) (aNil))))) (aCons (eLst (aCons (eC (.str "abcdefgh")) (aCons (eC (.str "z")) (aNil)))) (aCons (eLst (aCons (eC (.str "e")) (aNil))) (aCons (eLst (aCons (eC (.str "a")) (aCons (eC (.str "ab")) (aCons (eC (.str "b")) (aCons (eC (.str "ba")) (aCons (eC (.str "c")) (aNil))))))) (aNil)))))))) (rNil)))))) (sSeq (sSet 2 (eUn unTuple (eLc [7] (gN 7) (tYesF) (eTup (aCons (eVar 7) (aCons (eCallIo pf__law_take 0 0 (npOk 2 (rIo 0 (rCons (eC (.int 4)) (rNil))))) (aNil)))) (iSq (eVar 1))))) (sSeq (sPar 5 6 (eCallIo pf__law_take 0 0 (npOk 2 (rIo 0 (rCons (eUn unLen (eVar 2)) (rNil))))) (eCallIo pf__law_pick 0 0 (npOk 2 (rIo 0 (rCons (eLst (aCons (eC (.str "finite")) (aCons (eC (.str "endless")) (aNil)))) (rNil)))))) (sSeq (sSet 3 (eLst (aCons (eTup (aCons (eVar 2) (aCons (eVar 6) (aNil)))) (aCons (eTup (aCons (eC .none) (aCons (eVar 6) (aNil)))) (aCons (eTup (aCons (eVar 2) (aCons (eC (.str "finite")) (aNil)))) (aCons (eTup (aCons (eVar 2) (aCons (eC (.str "endless")) (aNil)))) (aCons (eTup (aCons (eRevT (eVar 2)) (aCons (eVar 6) (aNil)))) (aCons (eTup (aCons (eBin opAdd (eVar 2) (eSl (eVar 2) (oNo) (oInt (eC (.int 1))))) (aCons (eVar 6) (aNil)))) (aNil))))))))) (sSeq (sSet 3 (eBin opAdd (eVar 3) (eLst (aCons (eTup (aCons (eUn unList (eVar 2)) (aCons (eVar 6) (aNil)))) (aCons (eLst (aCons (eVar 2) (aCons (eVar 6) (aNil)))) (aCons (eTup (aCons (eVar 2) (aNil))) (aCons (eTup (aCons (eVar 2) (aCons (eVar 6) (aCons (eVar 6) (aNil))))) (aNil)))))))) (sSeq (sForI (gN 4) (sSet 3 (eBin opAdd (eVar 3) (eLst (aCons (eTup (aCons (eBin opAdd (eBin opAdd (eSl (eVar 2) (oNo) (oInt (eVar 5))) (eTup (aCons (eVar 4) (aNil)))) (eSl (eVar 2) (oInt (eBin opAdd (eVar 5) (eC (.int 1)))) (oNo))) (aCons (eVar 6) (aNil)))) (aCons (eTup (aCons (eBin opAdd (eVar 2) (eTup (aCons (eVar 4) (aNil)))) (aCons (eVar 6) (aNil)))) (aNil)))))) (iSq (eLst (aCons (eC .none) (aCons (eC (.str "a")) (aCons (eTup (aCons (eC (.str "a")) (aNil))) (aCons (eTup (aCons (eC (.str "")) (aCons (eC (.int 1)) (aNil)))) (aCons (eTup (aCons (eC (.str "abcdefghi")) (aCons (eC (.int 0)) (aNil)))) (aCons (eTup (aCons (eC (.str "A")) (aCons (eC (.int 1)) (aNil)))) (aCons (eTup (aCons (eC (.str "a1")) (aCons (eC (.int 0)) (aNil)))) (aCons (eTup (aCons (eC (.str "a")) (aCons (eUn unNeg (eC (.int 1))) (aNil)))) (aCons (eTup (aCons (eC (.str "a")) (aCons (eC (.bool true)) (aNil)))) (aCons (eTup (aCons (eC (.str "a")) (aCons (eC .none) (aNil)))) (aCons (eTup (aCons (eC (.str "a")) (aCons (eBin opPow (eC (.int 10)) (eC (.int 30))) (aNil)))) (aCons (eLst (aCons (eC (.str "a")) (aCons (eC (.int 0)) (aNil)))) (aCons (eTup (aCons (eC (.str "zz")) (aCons (eC (.int 0)) (aNil)))) (aCons (eTup (aCons (eC (.str "zz")) (aCons (eC (.int 3)) (aNil)))) (aCons (eTup (aCons (eC (.str "a")) (aCons (eC (.int 0)) (aCons (eC (.int 0)) (aNil))))) (aNil))))))))))))))))))) (sSeq (sSet 3 (eBin opAdd (eBin opAdd (eVar 3) (eLc [4] (gN 4) (tYesF) (eTup (aCons (eVar 2) (aCons (eVar 4) (aNil)))) (iSq (eLst (aCons (eC (.str "Finite")) (aCons (eC (.str "")) (aCons (eC .none) (aCons (eC (.int 0)) (aCons (eTup (aCons (eC (.str "finite")) (aNil))) (aCons (eC (.str "open")) (aNil))))))))))) (eLst (aCons (eC .none) (aCons (eTup (aNil)) (aCons (eC (.int 7)) (aCons (eC (.str "world")) (aCons (eC (.bool true)) (aCons (eTup (aCons (eTup (aNil)) (aCons (eVar 6) (aNil)))) (aNil)))))))))) (sRt (eBin opAdd (eVar 3) (eLst (aCons (eTup (aCons (eTup (aCons (eTup (aCons (eC (.str "a")) (aCons (eC (.int 0)) (aNil)))) (aCons (eTup (aCons (eC (.str "b")) (aCons (eC (.int 0)) (aNil)))) (aNil)))) (aCons (eC (.str "finite")) (aNil)))) (aCons (eTup (aCons (eTup (aCons (eTup (aCons (eC (.str "a")) (aCons (eC (.int 1)) (aNil)))) (aCons (eTup (aCons (eC (.str "b")) (aCons (eC (.int 2)) (aNil)))) (aNil)))) (aCons (eC (.str "finite")) (aNil)))) (aCons (eTup (aCons (eTup (aCons (eTup (aCons (eC (.str "a")) (aCons (eC (.int 0)) (aNil)))) (aCons (eTup (aCons (eC (.str "b")) (aCons (eC (.int 0)) (aNil)))) (aNil)))) (aCons (eC (.str "endless")) (aNil)))) (aNil)))))))))))))
def pf__law_values : FnS := fnS N__law_values.length 1 (some 0) pb__law_values
theorem cl__law_values (T : Txt K mg) : Cl P w K mg base "_law_values" (top 50) ["spring"] 3 pf__law_values := by
  have b_len := T.b_len
  have b_list := T.b_list
  have b_tuple := T.b_tuple
  exact Cl.mk' (io := some 0) (body := pb__law_values) (k := 2) T.f__law_values ⟨rfl, rfl, rfl, nd__law_values, rfl, by decide +kernel, by decide +kernel⟩ (fun _ _ _ _ _ _ us hl => match us, hl with | [_], _ => rfl) fun X c M fx d => lss_cons (lx_set fx.toFx0 d nd__law_values 1 (lx_callIo fx M.toMt (cl__law_pick T) 0 0 (lx_io fx.toFx0 (lr_cons (le_lst (la_cons (le_lst (la_cons (le_str) (la_cons (le_str) (la_nil)))) (la_cons (le_lst (la_cons (le_str) (la_cons (le_str) (la_nil)))) (la_cons (le_lst (la_cons (le_str) (la_cons (le_str) (la_cons (le_str) (la_nil))))) (la_cons (le_lst (la_cons (le_str) (la_cons (le_str) (la_nil)))) (la_cons (le_lst (la_cons (le_str) (la_nil))) (la_cons (le_lst (la_cons (le_str) (la_cons (le_str) (la_cons (le_str) (la_cons (le_str) (la_cons (le_str) (la_nil))))))) (la_nil)))))))) (lr_nil))))) (lss_cons (lx_set fx.toFx0 d nd__law_values 2 (lx_t1 fx.toFx0 (tuple1 M.toMt) b_tuple PyProof.Rows.boot_tuple (lx_lc fx M.toMt [("word", 7)] (li_seq M.toMt (lx_var fx.toFx0 1)) (fun _ _ fx1 m1 => lxw_name fx1.toFx0 m1 7) (fun _ _ fx1 m1 => lts_nil) (fun _ _ fx1 m1 => le_tup (la_cons (lx_var fx1.toFx0 7) (la_cons (lx_callIo fx1 m1 (cl__law_take T) 0 0 (lx_io fx1.toFx0 (lr_cons (le_int) (lr_nil)))) (la_nil))))))) (lss_cons (lx_par fx.toFx0 M 5 6 (lx_callIo fx M.toMt (cl__law_take T) 0 0 (lx_io fx.toFx0 (lr_cons (lx_b1 fx.toFx0 (len1 M.toMt) b_len PySem.boot_len (lx_var fx.toFx0 2)) (lr_nil)))) (fun _ M2 => lx_callIo fx M2.toMt (cl__law_pick T) 0 0 (lx_io fx.toFx0 (lr_cons (le_lst (la_cons (le_str) (la_cons (le_str) (la_nil)))) (lr_nil))))) (lss_cons (lx_set fx.toFx0 d nd__law_values 3 (le_lst (la_cons (le_tup (la_cons (lx_var fx.toFx0 2) (la_cons (lx_var fx.toFx0 6) (la_nil)))) (la_cons (le_tup (la_cons (le_none) (la_cons (lx_var fx.toFx0 6) (la_nil)))) (la_cons (le_tup (la_cons (lx_var fx.toFx0 2) (la_cons (le_str) (la_nil)))) (la_cons (le_tup (la_cons (lx_var fx.toFx0 2) (la_cons (le_str) (la_nil)))) (la_cons (le_tup (la_cons (le_revT M.toMt (lx_var fx.toFx0 2)) (la_cons (lx_var fx.toFx0 6) (la_nil)))) (la_cons (le_tup (la_cons (le_bin (addB M.toMt) (lx_var fx.toFx0 2) (le_slice M.toMt (lx_var fx.toFx0 2) (lo_no) (lo_int (le_int)))) (la_cons (lx_var fx.toFx0 6) (la_nil)))) (la_nil))))))))) (lss_cons (lx_set fx.toFx0 d nd__law_values 3 (le_bin (addB M.toMt) (lx_var fx.toFx0 3) (le_lst (la_cons (le_tup (la_cons (lx_t1 fx.toFx0 (list1 M.toMt) b_list PyProof.Rows.boot_list (lx_var fx.toFx0 2)) (la_cons (lx_var fx.toFx0 6) (la_nil)))) (la_cons (le_lst (la_cons (lx_var fx.toFx0 2) (la_cons (lx_var fx.toFx0 6) (la_nil)))) (la_cons (le_tup (la_cons (lx_var fx.toFx0 2) (la_nil))) (la_cons (le_tup (la_cons (lx_var fx.toFx0 2) (la_cons (lx_var fx.toFx0 6) (la_cons (lx_var fx.toFx0 6) (la_nil))))) (la_nil)))))))) (lss_cons (ls_forI M (li_seq M.toMt (le_lst (la_cons (le_none) (la_cons (le_str) (la_cons (le_tup (la_cons (le_str) (la_nil))) (la_cons (le_tup (la_cons (le_str) (la_cons (le_int) (la_nil)))) (la_cons (le_tup (la_cons (le_str) (la_cons (le_int) (la_nil)))) (la_cons (le_tup (la_cons (le_str) (la_cons (le_int) (la_nil)))) (la_cons (le_tup (la_cons (le_str) (la_cons (le_int) (la_nil)))) (la_cons (le_tup (la_cons (le_str) (la_cons (le_un (negU M.toMt) (le_int)) (la_nil)))) (la_cons (le_tup (la_cons (le_str) (la_cons (le_bool) (la_nil)))) (la_cons (le_tup (la_cons (le_str) (la_cons (le_none) (la_nil)))) (la_cons (le_tup (la_cons (le_str) (la_cons (le_bin (powB M.toMt) (le_int) (le_int)) (la_nil)))) (la_cons (le_lst (la_cons (le_str) (la_cons (le_int) (la_nil)))) (la_cons (le_tup (la_cons (le_str) (la_cons (le_int) (la_nil)))) (la_cons (le_tup (la_cons (le_str) (la_cons (le_int) (la_nil)))) (la_cons (le_tup (la_cons (le_str) (la_cons (le_int) (la_cons (le_int) (la_nil))))) (la_nil)))))))))))))))))) (fun _ M1 => lx_gname fx.toFx0 d M1.toMt 4) (fun _ M1 => lss_one (lx_set fx.toFx0 d nd__law_values 3 (le_bin (addB M1.toMt) (lx_var fx.toFx0 3) (le_lst (la_cons (le_tup (la_cons (le_bin (addB M1.toMt) (le_bin (addB M1.toMt) (le_slice M1.toMt (lx_var fx.toFx0 2) (lo_no) (lo_int (lx_var fx.toFx0 5))) (le_tup (la_cons (lx_var fx.toFx0 4) (la_nil)))) (le_slice M1.toMt (lx_var fx.toFx0 2) (lo_int (le_bin (addB M1.toMt) (lx_var fx.toFx0 5) (le_int))) (lo_no))) (la_cons (lx_var fx.toFx0 6) (la_nil)))) (la_cons (le_tup (la_cons (le_bin (addB M1.toMt) (lx_var fx.toFx0 2) (le_tup (la_cons (lx_var fx.toFx0 4) (la_nil)))) (la_cons (lx_var fx.toFx0 6) (la_nil)))) (la_nil)))))))) (lss_cons (lx_set fx.toFx0 d nd__law_values 3 (le_bin (addB M.toMt) (le_bin (addB M.toMt) (lx_var fx.toFx0 3) (lx_lc fx M.toMt [("one", 4)] (li_seq M.toMt (le_lst (la_cons (le_str) (la_cons (le_str) (la_cons (le_none) (la_cons (le_int) (la_cons (le_tup (la_cons (le_str) (la_nil))) (la_cons (le_str) (la_nil))))))))) (fun _ _ fx1 m1 => lxw_name fx1.toFx0 m1 4) (fun _ _ fx1 m1 => lts_nil) (fun _ _ fx1 m1 => le_tup (la_cons (lx_var fx1.toFx0 2) (la_cons (lx_var fx1.toFx0 4) (la_nil)))))) (le_lst (la_cons (le_none) (la_cons (le_tup (la_nil)) (la_cons (le_int) (la_cons (le_str) (la_cons (le_bool) (la_cons (le_tup (la_cons (le_tup (la_nil)) (la_cons (lx_var fx.toFx0 6) (la_nil)))) (la_nil)))))))))) (lss_one (ls_ret (le_bin (addB M.toMt) (lx_var fx.toFx0 3) (le_lst (la_cons (le_tup (la_cons (le_tup (la_cons (le_tup (la_cons (le_str) (la_cons (le_int) (la_nil)))) (la_cons (le_tup (la_cons (le_str) (la_cons (le_int) (la_nil)))) (la_nil)))) (la_cons (le_str) (la_nil)))) (la_cons (le_tup (la_cons (le_tup (la_cons (le_tup (la_cons (le_str) (la_cons (le_int) (la_nil)))) (la_cons (le_tup (la_cons (le_str) (la_cons (le_int) (la_nil)))) (la_nil)))) (la_cons (le_str) (la_nil)))) (la_cons (le_tup (la_cons (le_tup (la_cons (le_tup (la_cons (le_str) (la_cons (le_int) (la_nil)))) (la_cons (le_tup (la_cons (le_str) (la_cons (le_int) (la_nil)))) (la_nil)))) (la_cons (le_str) (la_nil)))) (la_nil))))))))))))))
/-! _law_word -/
def N__law_word : List Str := ["which", "value", "word"]
theorem nd__law_word : N__law_word.Nodup := by decide +kernel
def pb__law_word : SF := sSeq (sSet 2 (eC (.str ""))) (sSeq (sTry isA (sIf (tB (eBin opEq (eVar 0) (eC (.int 0)))) (sEx (eCall pf_is_letter (npOk 2 (rCons (eVar 1) (rCons (eTup (aCons (eC (.str "a")) (aCons (eC (.int 0)) (aNil)))) (rNil)))))) (sIf (tB (eBin opEq (eVar 0) (eC (.int 1)))) (sEx (eCall pf_some_terms (npOk 2 (rCons (eVar 1) (rCons (eC (.int 1)) (rNil)))))) (sEx (eCall pf_some_systems (npOk 2 (rCons (eVar 1) (rCons (eC (.int 1)) (rNil)))))))) (("InvalidWorld", (sSet 2 (eC (.str "world")))) :: ("TermError", (sSet 2 (eC (.str "other")))) :: [])) (sRt (eVar 2)))
def pf__law_word : FnS := fnS N__law_word.length 2 (none) pb__law_word
theorem cl__law_word (T : Txt K mg) : Cl P w K mg base "_law_word" (top 51) ["which", "value"] 8 pf__law_word := by
  obtain ⟨C_InvalidWorld, g_InvalidWorld, q_InvalidWorld, k_InvalidWorld, r1_InvalidWorld, r2_InvalidWorld⟩ := T.x_InvalidWorld
  obtain ⟨C_TermError, g_TermError, q_TermError, k_TermError, r1_TermError, r2_TermError⟩ := T.x_TermError
  exact Cl.mk' (io := none) (body := pb__law_word) (k := 7) T.f__law_word ⟨rfl, rfl, rfl, nd__law_word, rfl, by decide +kernel, by decide +kernel⟩ (fun _ _ _ _ _ _ us hl => match us, hl with | [_, _], _ => rfl) fun X c M fx d => lss_cons (lx_set fx.toFx0 d nd__law_word 2 (le_str)) (lss_cons (ls_try M d.stack d.frame (fun _ _ hX1 M1 => lss_one (ls_if (lt_cmp (eqB M1.toMt) (lx_var (fx.tr hX1).toFx0 0) (le_int) (by rfl)) (lss_one (ls_expr (lx_call (fx.tr hX1) M1.toMt (cl_is_letter T) (lr_cons (lx_var (fx.tr hX1).toFx0 1) (lr_cons (le_tup (la_cons (le_str) (la_cons (le_int) (la_nil)))) (lr_nil)))))) (lss_one (ls_if (lt_cmp (eqB M1.toMt) (lx_var (fx.tr hX1).toFx0 0) (le_int) (by rfl)) (lss_one (ls_expr (lx_call (fx.tr hX1) M1.toMt (cl_some_terms T) (lr_cons (lx_var (fx.tr hX1).toFx0 1) (lr_cons (le_int) (lr_nil)))))) (lss_one (ls_expr (lx_call (fx.tr hX1) M1.toMt (cl_some_systems T) (lr_cons (lx_var (fx.tr hX1).toFx0 1) (lr_cons (le_int) (lr_nil)))))))))) (lx_hd fx.toFx0 M T.isa g_InvalidWorld (fun _ hS => lss_one (lx_set (fx.suite hS) (d.suite hS) nd__law_word 2 (le_str))) (lx_hd fx.toFx0 M T.isa g_TermError (fun _ hS => lss_one (lx_set (fx.suite hS) (d.suite hS) nd__law_word 2 (le_str))) (.nil)))) (lss_one (ls_ret (lx_var fx.toFx0 2))))
/-! law -/
def N_law : List Str := ["script", "at", "nat", "spring", "values", "value", "world", "due", "some", "one", "which"]
theorem nd_law : N_law.Nodup := by decide +kernel
def pb_law : SF := sSeq (sForI (gN 1) (sSeq (sSet 3 (eCall pf__law_spring (npOk 2 (rCons (eVar 0) (rCons (eVar 1) (rNil)))))) (sSeq (sSet 4 (eCallIo pf__law_values 0 3 (npOk 1 (rIo 3 (rNil))))) (sSeq (sForI (gN 5) (sSeq (sSet 7 (eCall pf__law_is_world (npOk 1 (rCons (eVar 5) (rNil))))) (sIf (tOr (tNot (tE (eCall (pf__law_same 6) (npOk 2 (rCons (eLst (aCons (eCall pf_is_world (npOk 1 (rCons (eVar 5) (rNil)))) (aCons (eCallK pf_is_world 1 0 1 [0] (rNil) (rCons (eVar 5) (rNil))) (aNil)))) (rCons (eLst (aCons (eVar 7) (aCons (eVar 7) (aNil)))) (rNil))))))) (tAnd (tNot (tE (eVar 7))) (tB (eBin opNe (eLc [10] (gN 10) (tYesF) (eCall pf__law_word (npOk 2 (rCons (eVar 10) (rCons (eVar 5) (rNil))))) (iR1 (eC (.int 3)))) (eBin opMul (eLst (aCons (eC (.str "world")) (aNil))) (eC (.int 3))))))) (sRt (eC (.bool false))) (sNx))) (iSq (eVar 4))) (sForI (gN 6) (sSeq (sSet 8 (eLst (aCons (eTup (aCons (eC (.str "a")) (aCons (eC (.int 0)) (aNil)))) (aCons (eTup (aCons (eC (.str "f")) (aCons (eC (.int 2)) (aNil)))) (aCons (eTup (aCons (eC (.str "zz")) (aCons (eC (.int 3)) (aNil)))) (aCons (eTup (aCons (eC (.str "")) (aCons (eC (.int 0)) (aNil)))) (aCons (eTup (aCons (eC (.str "a")) (aCons (eUn unNeg (eC (.int 1))) (aNil)))) (aCons (eTup (aCons (eC (.str "a")) (aCons (eC (.bool true)) (aNil)))) (aCons (eLst (aCons (eC (.str "a")) (aCons (eC (.int 0)) (aNil)))) (aCons (eC (.str "a")) (aCons (eC .none) (aCons (eTup (aCons (eC (.str "a")) (aCons (eC (.int 0)) (aCons (eC (.int 0)) (aNil))))) (aCons (eTup (aCons (eC (.str "b")) (aCons (eBin opPow (eC (.int 10)) (eC (.int 30))) (aNil)))) (aCons (eTup (aCons (eC (.str "B")) (aCons (eC (.int 0)) (aNil)))) (aNil))))))))))))))) (sForI (gN 9) (sSeq (sSet 7 (eAnd (eCall pf__law_is_letter (npOk 1 (rCons (eVar 9) (rNil)))) (eOr (eBin opIsN (eBin opIx (eVar 6) (eC (.int 0))) (eC .none)) (eBin opIn (eVar 9) (eBin opIx (eVar 6) (eC (.int 0))))))) (sIf (tNot (tE (eCall (pf__law_same 6) (npOk 2 (rCons (eLst (aCons (eCall pf_is_letter (npOk 2 (rCons (eVar 6) (rCons (eVar 9) (rNil))))) (aCons (eCallK pf_is_letter 2 0 2 [1, 0] (rNil) (rCons (eVar 9) (rCons (eVar 6) (rNil)))) (aNil)))) (rCons (eLst (aCons (eVar 7) (aCons (eVar 7) (aNil)))) (rNil))))))) (sRt (eC (.bool false))) (sNx))) (iSq (eBin opAdd (eVar 8) (eIf (tB (eBin opIsN (eBin opIx (eVar 6) (eC (.int 0))) (eC .none))) (eLst (aNil)) (eUn unList (eBin opIx (eVar 6) (eC (.int 0))))))))) (iSq (eLc [5] (gN 5) (tAnd (tE (eCall pf__law_is_world (npOk 1 (rCons (eVar 5) (rNil))))) (tOr (tB (eBin opIsN (eBin opIx (eVar 5) (eC (.int 0))) (eC .none))) (tB (eBin opLt (eUn unLen (eBin opIx (eVar 5) (eC (.int 0)))) (eC (.int 5)))))) (eVar 5) (iSq (eSl (eVar 4) (oNo) (oInt (eC (.int 4))))))))))) (iR1 (eBin opMax (eC (.int 2)) (eBin opMin (eC (.int 6)) (eUn unLen (eVar 0)))))) (sSeq (sSet 2 (eTup (aCons (eTup (aCons (eC (.str "o")) (aCons (eC (.int 0)) (aNil)))) (aCons (eTup (aCons (eC (.str "s")) (aCons (eC (.int 1)) (aNil)))) (aNil))))) (sRt (eCall (pf__law_same 6) (npOk 2 (rCons (eLst (aCons (eCall pf_is_world (npOk 1 (rCons (eTup (aCons (eVar 2) (aCons (eC (.str "finite")) (aNil)))) (rNil)))) (aCons (eCall pf_is_world (npOk 1 (rCons (eTup (aCons (eSl (eVar 2) (oInt (eC (.int 1))) (oNo)) (aCons (eC (.str "endless")) (aNil)))) (rNil)))) (aCons (eCall pf_is_letter (npOk 2 (rCons (eTup (aCons (eC .none) (aCons (eC (.str "endless")) (aNil)))) (rCons (eTup (aCons (eC (.str "s")) (aCons (eC (.int 2)) (aNil)))) (rNil))))) (aCons (eCall pf_is_letter (npOk 2 (rCons (eTup (aCons (eVar 2) (aCons (eC (.str "finite")) (aNil)))) (rCons (eTup (aCons (eC (.str "s")) (aCons (eC (.int 2)) (aNil)))) (rNil))))) (aNil)))))) (rCons (eLst (aCons (eC (.bool true)) (aCons (eC (.bool false)) (aCons (eC (.bool true)) (aCons (eC (.bool false)) (aNil)))))) (rNil)))))))
def pf_law : FnS := fnS N_law.length 1 (none) pb_law
theorem cl_law (T : Txt K mg) : Cl P w K mg base "law" (top 52) ["script"] 9 pf_law := by
  have b_len := T.b_len
  have b_list := T.b_list
  have b_max := T.b_max
  have b_min := T.b_min
  have b_range := T.b_range
  exact Cl.mk' (io := none) (body := pb_law) (k := 8) T.f_law ⟨rfl, rfl, rfl, nd_law, rfl, by decide +kernel, by decide +kernel⟩ (fun _ _ _ _ _ _ us hl => match us, hl with | [_], _ => rfl) fun X c M fx d => lss_cons (ls_forI M (lx_r1 fx.toFx0 b_range (lx_b2 fx.toFx0 (max2 M.toMt) b_max PyProof.Rows.boot_max (le_int) (lx_b2 fx.toFx0 (min2 M.toMt) b_min PyProof.Rows.boot_min (le_int) (lx_b1 fx.toFx0 (len1 M.toMt) b_len PySem.boot_len (lx_var fx.toFx0 0))))) (fun _ M1 => lx_gname fx.toFx0 d M1.toMt 1) (fun _ M1 => lss_cons (lx_set fx.toFx0 d nd_law 3 (lx_call fx M1.toMt (cl__law_spring T) (lr_cons (lx_var fx.toFx0 0) (lr_cons (lx_var fx.toFx0 1) (lr_nil))))) (lss_cons (lx_set fx.toFx0 d nd_law 4 (lx_callIo fx M1.toMt (cl__law_values T) 0 3 (lx_io fx.toFx0 (lr_nil)))) (lss_cons (ls_forI M1 (li_seq M1.toMt (lx_var fx.toFx0 4)) (fun _ M4 => lx_gname fx.toFx0 d M4.toMt 5) (fun _ M4 => lss_cons (lx_set fx.toFx0 d nd_law 7 (lx_call fx M4.toMt (cl__law_is_world T) (lr_cons (lx_var fx.toFx0 5) (lr_nil)))) (lss_one (ls_if ((lw_or (lt_not (lt_E M4.toMt (lx_call fx M4.toMt (cl__law_same 6 T) (lr_cons (le_lst (la_cons (lx_call fx M4.toMt (cl_is_world T) (lr_cons (lx_var fx.toFx0 5) (lr_nil))) (la_cons (lx_callK0 (ks := ["value"]) fx M4.toMt (cl_is_world T) 1 [0] (fun _ _ _ _ _ _ us ws h1 h2 => match us, ws, h1, h2 with | [], [_], _, _ => rfl) (lk_cons (lx_var fx.toFx0 5) (lk_nil))) (la_nil)))) (lr_cons (le_lst (la_cons (lx_var fx.toFx0 7) (la_cons (lx_var fx.toFx0 7) (la_nil)))) (lr_nil)))))) (lw_or1 ((lw_and (lt_not (lt_E M4.toMt (lx_var fx.toFx0 7))) (lw_and1 (lt_cmp (neB M4.toMt) (lx_lc fx M4.toMt [("which", 10)] (lx_r1 fx.toFx0 b_range (le_int)) (fun _ _ fx1 m1 => lxw_name fx1.toFx0 m1 10) (fun _ _ fx1 m1 => lts_nil) (fun _ _ fx1 m1 => lx_call fx1 m1 (cl__law_word T) (lr_cons (lx_var fx1.toFx0 10) (lr_cons (lx_var fx1.toFx0 5) (lr_nil))))) (le_bin (mulB M4.toMt) (le_lst (la_cons (le_str) (la_nil))) (le_int)) (by rfl)))).pt))).pt) (lss_one (ls_ret (le_bool))) (lss_nil))))) (lss_one (ls_forI M1 (li_seq M1.toMt (lx_lc fx M1.toMt [("value", 5)] (li_seq M1.toMt (le_slice M1.toMt (lx_var fx.toFx0 4) (lo_no) (lo_int (le_int)))) (fun _ _ fx1 m1 => lxw_name fx1.toFx0 m1 5) (fun _ _ fx1 m1 => lts_one ((lw_and (lt_E m1 (lx_call fx1 m1 (cl__law_is_world T) (lr_cons (lx_var fx1.toFx0 5) (lr_nil)))) (lw_and1 ((lw_or (lt_cmp (isNB m1) (le_ix m1 (lx_var fx1.toFx0 5) (le_int)) (le_none) (by rfl)) (lw_or1 (lt_cmp (ltB m1) (lx_b1 fx1.toFx0 (len1 m1) b_len PySem.boot_len (le_ix m1 (lx_var fx1.toFx0 5) (le_int))) (le_int) (by rfl)))).pt))).pt)) (fun _ _ fx1 m1 => lx_var fx1.toFx0 5))) (fun _ M2 => lx_gname fx.toFx0 d M2.toMt 6) (fun _ M2 => lss_cons (lx_set fx.toFx0 d nd_law 8 (le_lst (la_cons (le_tup (la_cons (le_str) (la_cons (le_int) (la_nil)))) (la_cons (le_tup (la_cons (le_str) (la_cons (le_int) (la_nil)))) (la_cons (le_tup (la_cons (le_str) (la_cons (le_int) (la_nil)))) (la_cons (le_tup (la_cons (le_str) (la_cons (le_int) (la_nil)))) (la_cons (le_tup (la_cons (le_str) (la_cons (le_un (negU M2.toMt) (le_int)) (la_nil)))) (la_cons (le_tup (la_cons (le_str) (la_cons (le_bool) (la_nil)))) (la_cons (le_lst (la_cons (le_str) (la_cons (le_int) (la_nil)))) (la_cons (le_str) (la_cons (le_none) (la_cons (le_tup (la_cons (le_str) (la_cons (le_int) (la_cons (le_int) (la_nil))))) (la_cons (le_tup (la_cons (le_str) (la_cons (le_bin (powB M2.toMt) (le_int) (le_int)) (la_nil)))) (la_cons (le_tup (la_cons (le_str) (la_cons (le_int) (la_nil)))) (la_nil))))))))))))))) (lss_one (ls_forI M2 (li_seq M2.toMt (le_bin (addB M2.toMt) (lx_var fx.toFx0 8) (le_if (lt_cmp (isNB M2.toMt) (le_ix M2.toMt (lx_var fx.toFx0 6) (le_int)) (le_none) (by rfl)) (le_lst (la_nil)) (lx_t1 fx.toFx0 (list1 M2.toMt) b_list PyProof.Rows.boot_list (le_ix M2.toMt (lx_var fx.toFx0 6) (le_int)))))) (fun _ M3 => lx_gname fx.toFx0 d M3.toMt 9) (fun _ M3 => lss_cons (lx_set fx.toFx0 d nd_law 7 (le_and M3.toMt (lx_call fx M3.toMt (cl__law_is_letter T) (lr_cons (lx_var fx.toFx0 9) (lr_nil))) (le_one (le_or M3.toMt (le_cmp (isNB M3.toMt) (le_ix M3.toMt (lx_var fx.toFx0 6) (le_int)) (le_none) (by rfl)) (le_one (le_cmp (inB M3.toMt) (lx_var fx.toFx0 9) (le_ix M3.toMt (lx_var fx.toFx0 6) (le_int)) (by rfl))))))) (lss_one (ls_if (lt_not (lt_E M3.toMt (lx_call fx M3.toMt (cl__law_same 6 T) (lr_cons (le_lst (la_cons (lx_call fx M3.toMt (cl_is_letter T) (lr_cons (lx_var fx.toFx0 6) (lr_cons (lx_var fx.toFx0 9) (lr_nil)))) (la_cons (lx_callK0 (ks := ["value", "world"]) fx M3.toMt (cl_is_letter T) 2 [1, 0] (fun _ _ _ _ _ _ us ws h1 h2 => match us, ws, h1, h2 with | [], [_, _], _, _ => rfl) (lk_cons (lx_var fx.toFx0 9) (lk_cons (lx_var fx.toFx0 6) (lk_nil)))) (la_nil)))) (lr_cons (le_lst (la_cons (lx_var fx.toFx0 7) (la_cons (lx_var fx.toFx0 7) (la_nil)))) (lr_nil)))))) (lss_one (ls_ret (le_bool))) (lss_nil))))))))))))) (lss_cons (lx_set fx.toFx0 d nd_law 2 (le_tup (la_cons (le_tup (la_cons (le_str) (la_cons (le_int) (la_nil)))) (la_cons (le_tup (la_cons (le_str) (la_cons (le_int) (la_nil)))) (la_nil))))) (lss_one (ls_ret (lx_call fx M.toMt (cl__law_same 6 T) (lr_cons (le_lst (la_cons (lx_call fx M.toMt (cl_is_world T) (lr_cons (le_tup (la_cons (lx_var fx.toFx0 2) (la_cons (le_str) (la_nil)))) (lr_nil))) (la_cons (lx_call fx M.toMt (cl_is_world T) (lr_cons (le_tup (la_cons (le_slice M.toMt (lx_var fx.toFx0 2) (lo_int (le_int)) (lo_no)) (la_cons (le_str) (la_nil)))) (lr_nil))) (la_cons (lx_call fx M.toMt (cl_is_letter T) (lr_cons (le_tup (la_cons (le_none) (la_cons (le_str) (la_nil)))) (lr_cons (le_tup (la_cons (le_str) (la_cons (le_int) (la_nil)))) (lr_nil)))) (la_cons (lx_call fx M.toMt (cl_is_letter T) (lr_cons (le_tup (la_cons (lx_var fx.toFx0 2) (la_cons (le_str) (la_nil)))) (lr_cons (le_tup (la_cons (le_str) (la_cons (le_int) (la_nil)))) (lr_nil)))) (la_nil)))))) (lr_cons (le_lst (la_cons (le_bool) (la_cons (le_bool) (la_cons (le_bool) (la_cons (le_bool) (la_nil)))))) (lr_nil)))))))
end
end K01
end

section
set_option maxRecDepth 100000
set_option maxHeartbeats 4000000
namespace K01
open PySem PySem.Spec PyProof.Rows L2 Vm
def intB (d : D) : Bool := isInt d && !isBool d
theorem s_is_integer (d : D) : pf_is_integer.sem [d] = some (.ok (false, .bool (intB d)), .none) := by
  simp -implicitDefEqProofs [pf_is_integer, pb_is_integer, slots0_none, N_is_integer]
  cases d <;> rfl
def geB (l : Int) : D → Bool
  | .int i => decide (l ≤ i)
  | _ => false
theorem s_is_from (l : Int) (d : D) : pf_is_from.sem [.int l, d] = some (.ok (false, .bool (geB l d)), .none) := by
  simp -implicitDefEqProofs [pf_is_from, pb_is_from, slots0_none, N_is_from, s_is_integer]
  cases d <;> rfl
abbrev AZ : Str := "abcdefghijklmnopqrstuvwxyz"
def sgn (k : Nat) : Bool := subStr ⟨#[k]⟩ AZ
def wordB : D → Bool
  | .str x => decide (1 ≤ x.length) && (decide (x.length ≤ 8) && x.cps.toList.all sgn)
  | _ => false
def notSgn : D → Bool
  | .str y => !subStr y AZ
  | _ => true
theorem small {n : Nat} (h : n ≤ 1000) : n ≤ sizeLine := Nat.le_trans h (by decide)
theorem fit_str {n : Nat} {x : Str} (h : fit n (.str x) = true) : PyData.strOk x = true ∧ x.length ≤ 1000 := by
  have h : (PyData.strOk x && decide (x.length ≤ 1000)) = true := by cases n <;> exact h
  rw [Bool.and_eq_true, decide_eq_true_eq] at h
  exact h
theorem fit_sign {n : Nat} {x : Str} (h : PyData.strOk x = true) {k : Nat} (hk : k ∈ x.cps.toList) : fit n (.str ⟨#[k]⟩) = true := by
  have e : fit n (.str ⟨#[k]⟩) = (PyData.strOk ⟨#[k]⟩ && decide ((⟨#[k]⟩ : Str).length ≤ 1000)) := by cases n <;> rfl
  rw [e]
  unfold PyData.strOk at h ⊢
  rw [Array.all_eq_true_iff_forall_mem] at h
  have := h k (by simpa using hk)
  simp at this
  simp -implicitDefEqProofs [this, Str.length]
theorem s_is_word {n : Nat} (d : D) (h : fit n d = true) : pf_is_word.sem [d] = some (.ok (false, .bool (wordB d)), .none) := by
  cases d with
  | str x =>
    have hx : x.length ≤ sizeLine := small (fit_str h).2
    have hx' : x.cps.size ≤ sizeLine := hx
    simp -implicitDefEqProofs [pf_is_word, pb_is_word, slots0_none, N_is_word, isStr, unLen, hx, opLe]
    by_cases h1 : 1 ≤ x.length
    · have h1' : (1 : Int) ≤ (x.length : Int) := by omega
      simp -implicitDefEqProofs [h1, h1']
      by_cases h2 : x.length ≤ 8
      · have h2' : (x.length : Int) ≤ 8 := by omega
        simp -implicitDefEqProofs [h2, h2', itemsS, hx', canWipe, wipeE, notOwn]
        rw [comp_all (fun d => match d with | .str y => .bool (subStr y AZ) | _ => .none)]
        · simp -implicitDefEqProofs [unAll, restE, List.map_map, Function.comp_def, boolsOf_map, wordB, h1, h2]
          rfl
        · intro d hd
          obtain ⟨k, hk, rfl⟩ := List.mem_map.mp hd
          exact ⟨[.val (.str x), .val (.str ⟨#[k]⟩)], by simp, ⟨.v (.bool (subStr ⟨#[k]⟩ AZ)), by simp -implicitDefEqProofs [opIn], rfl⟩, rfl, rfl⟩
      · have h2' : ¬ (x.length : Int) ≤ 8 := by omega
        simp -implicitDefEqProofs [h2, h2', wordB]
    · have h1' : ¬ (1 : Int) ≤ (x.length : Int) := by omega
      simp -implicitDefEqProofs [h1, h1', wordB]
  | _ => simp -implicitDefEqProofs [pf_is_word, pb_is_word, slots0_none, N_is_word, isStr, wordB]
theorem s_law_is_word {n : Nat} (d : D) (h : fit n d = true) : pf__law_is_word.sem [d] = some (.ok (false, .bool (wordB d)), .none) := by
  cases d with
  | str x =>
    have hx : x.length ≤ sizeLine := small (fit_str h).2
    have hx' : x.cps.size ≤ sizeLine := hx
    simp -implicitDefEqProofs [pf__law_is_word, pb__law_is_word, slots0_none, N__law_is_word, isStr, unLen, hx, opLe]
    by_cases h1 : 1 ≤ x.length
    · have h1' : (1 : Int) ≤ (x.length : Int) := by omega
      simp -implicitDefEqProofs [h1, h1']
      by_cases h2 : x.length ≤ 8
      · have h2' : (x.length : Int) ≤ 8 := by omega
        simp -implicitDefEqProofs [h2, h2', itemsS, hx', canWipe, wipeE, notOwn]
        rw [comp_gen notSgn id]
        · have hs : shp (.list (((x.cps.toList.map fun k => PyData.str ⟨#[k]⟩).filter notSgn))) = true := by
            refine fit_shp (n := 1) ?_
            show (decide _ && List.all _ (fit 0)) = true
            rw [Bool.and_eq_true, decide_eq_true_eq, List.all_eq_true]
            refine ⟨Nat.le_trans (List.length_filter_le _ _) (by rw [List.length_map, Array.length_toList]; exact (fit_str h).2), ?_⟩
            intro d hd
            obtain ⟨k, hk, rfl⟩ := List.mem_map.mp (List.mem_filter.mp hd).1
            exact fit_sign (fit_str h).1 hk
          simp -implicitDefEqProofs only [List.map_id_fun, id_eq, List.nil_append]
          simp -implicitDefEqProofs [restE, opEq, hs, eqv_nil, wordB, h1, h2]
          rw [Bool.eq_iff_iff]
          simp -implicitDefEqProofs [sgn, notSgn]
          constructor
          · intro H i hi
            exact H _ (Array.getElem_mem hi)
          · intro H a ha
            obtain ⟨i, hi, rfl⟩ := Array.getElem_of_mem ha
            exact H i hi
        · intro d hd
          obtain ⟨k, hk, rfl⟩ := List.mem_map.mp hd
          exact ⟨[.val (.str x), .val (.str ⟨#[k]⟩)], by simp, by simp -implicitDefEqProofs [opNotIn, notSgn], fun _ => ⟨.v (.str ⟨#[k]⟩), by simp, rfl⟩, rfl, rfl⟩
      · have h2' : ¬ (x.length : Int) ≤ 8 := by omega
        simp -implicitDefEqProofs [h2, h2', wordB]
    · have h1' : ¬ (1 : Int) ≤ (x.length : Int) := by omega
      simp -implicitDefEqProofs [h1, h1', wordB]
  | _ => simp -implicitDefEqProofs [pf__law_is_word, pb__law_is_word, slots0_none, N__law_is_word, isStr, wordB]

/-! ### rising rows -/
def okKeys (ks : List Key) : Prop := sameK ks = true ∧ (∀ k ∈ ks, fit 0 (kD k) = true) ∧ ks.length ≤ 1000
def ascAt (ks : List Key) : D → D
  | .int i => .bool (match ks[i.toNat - 1]?, ks[i.toNat]? with
    | some a, some b => ltK a b
    | _, _ => true)
  | _ => .none
theorem kD_none (k : Key) : isNone (kD k) = false := by cases k <;> rfl
theorem range_of {lo hi : Nat} {d : D} (h : d ∈ rangeD lo hi) : ∃ k : Nat, d = .int ((lo + k : Nat) : Int) ∧ lo + k < hi := by
  unfold rangeD at h
  obtain ⟨k, hk, rfl⟩ := List.mem_map.mp h
  rw [List.mem_range] at hk
  exact ⟨k, by push_cast; rfl, by omega⟩
theorem s_is_ascending (ks : List Key) (h : okKeys ks) : pf_is_ascending.sem [.list (ks.map kD)] = some (.ok (false, .bool (chainB ks)), .none) := by
  obtain ⟨h1, h2, h3⟩ := h
  have r3 : rngI (rngOf (some (.int 1)) (some (.int (ks.length : Int)))) [Sl.val (.list (ks.map kD)), Sl.emp] = _ := rngI_nat (lo := 1) (by decide) h3
  simp -implicitDefEqProofs only [pf_is_ascending, p_sem, List.length_cons, List.length_nil, Nat.zero_add, if_true, slots0_none, N_is_ascending, List.map_cons, List.map_nil, Nat.reduceSub, List.replicate_succ, List.replicate_zero, List.cons_append, List.nil_append, pb_is_ascending, p_rt, p_un, p_lc, p_iR2, p_C, p_bE_ok, p_var, List.getElem?_cons_zero, p_slVal, p_rdv, p_opt1, unLen, Option.map_some, p_holdv, List.length_map, r3]
  have cw : canWipe [1] [Sl.val (.list (ks.map kD)), Sl.emp] = true := rfl
  have hw : lentE none (wipeE [Sl.val (.list (ks.map kD)), Sl.emp] [1]) = [Sl.val (.list (ks.map kD)), Sl.emp] := rfl
  rw [cw, hw, if_pos rfl, comp_all (ascAt ks)]
  · have e : (rangeD (1 : Nat) ks.length).map (ascAt ks) = ((List.range (ks.length - 1)).map fun i => PyData.bool (match ks[i]?, ks[i + 1]? with | some a, some b => ltK a b | _, _ => true)) := by
      unfold rangeD
      have : ((ks.length : Int) - ((1 : Nat) : Int)).toNat = ks.length - 1 := by omega
      rw [this, List.map_map]
      apply List.map_congr_left
      intro i _
      have e1 : (((1 : Nat) : Int) + (i : Int)).toNat = i + 1 := by omega
      simp -implicitDefEqProofs only [Function.comp_apply, ascAt, e1, Nat.add_sub_cancel]
    rw [e]
    simp -implicitDefEqProofs only [List.nil_append, p_compE, p_bE_ok, p_rdf, p_opt1, unAll, boolsOf_map, Option.map_some, p_bS_ok, p_endR, p_retv, p_end0]
    rw [chain_range, List.all_map]
    rfl
  · intro d hd
    obtain ⟨k, rfl, hk⟩ := range_of hd
    have k1 : k < (ks.map kD).length := by rw [List.length_map]; omega
    have k2 : k + 1 < (ks.map kD).length := by rw [List.length_map]; omega
    have e1 : (((1 + k : Nat) : Int) - 1) = (k : Int) := by omega
    have e2 : ((1 + k : Nat) : Int) = ((k + 1 : Nat) : Int) := by omega
    have a1 : atI (ks.map kD) (k : Int) = some (kD (ks[k]'(by omega))) := by rw [atI_nat k1]; simp
    have a2 : atI (ks.map kD) ((k + 1 : Nat) : Int) = some (kD (ks[k + 1]'(by omega))) := by rw [atI_nat k2]; simp
    have m1 : ks[k]'(by omega) ∈ ks := List.getElem_mem _
    have m2 : ks[k + 1]'(by omega) ∈ ks := List.getElem_mem _
    have g1 := fit_shp (h2 _ m1)
    have g2 := fit_shp (h2 _ m2)
    have g3 := sameK_alike h1 _ (List.mem_map_of_mem m1) _ (List.mem_map_of_mem m2)
    have op : opLt (kD (ks[k]'(by omega))) (kD (ks[k + 1]'(by omega))) = some (.v (.bool (ltK (ks[k]'(by omega)) (ks[k + 1]'(by omega))))) := by
      unfold opLt
      rw [g1, g2, g3, kD_none]
      rfl
    refine ⟨[.val (.list (ks.map kD)), .val (.int ((1 + k : Nat) : Int))], rfl, ⟨.v (.bool (ltK (ks[k]'(by omega)) (ks[k + 1]'(by omega)))), ?_, ?_⟩, rfl, rfl⟩
    · simp -implicitDefEqProofs only [p_bin, p_var, List.getElem?_cons_zero, List.getElem?_cons_succ, p_slVal, p_bE_ok, p_C, p_rdv, p_holdv, p_opt2, opSub, Option.map_some, opIx, e1, a1]
      rw [e2, a2]
      simp -implicitDefEqProofs only [Option.map_some, p_bE_ok, p_rdv, p_holdv, p_opt2, op]
    · rw [p_standv]
      have e3 : (((1 + k : Nat) : Int)).toNat = k + 1 := by omega
      simp -implicitDefEqProofs only [ascAt, e3, Nat.add_sub_cancel, List.getElem?_eq_getElem (show k < ks.length by omega), List.getElem?_eq_getElem (show k + 1 < ks.length by omega)]
end K01
end

section
set_option maxRecDepth 100000
set_option maxHeartbeats 4000000
namespace K01
open PySem PySem.Spec PyProof.Rows L2 Vm
theorem fit_tup {n : Nat} {xs : List D} (h : fit n (.tuple xs) = true) : ∃ m, n = m + 1 ∧ (∀ x ∈ xs, fit m x = true) ∧ xs.length ≤ 1000 := by
  cases n with
  | zero => cases h
  | succ m =>
    have h : (decide (xs.length ≤ 1000) && xs.all (fit m)) = true := h
    rw [Bool.and_eq_true, decide_eq_true_eq, List.all_eq_true] at h
    exact ⟨m, rfl, h.2, h.1⟩
theorem at0 {α : Type} {a : α} {r : List α} : atI (a :: r) 0 = some a := atI_nat (i := 0) (ds := a :: r) (by simp)
theorem at1 {α : Type} {a b : α} {r : List α} : atI (a :: b :: r) 1 = some b := atI_nat (i := 1) (ds := a :: b :: r) (by simp)
@[simp] theorem ix0 {a : D} {r : List D} : opIx (.tuple (a :: r)) (.int 0) = some (.v a) := by
  show (atI (a :: r) 0).map RV.v = _
  rw [at0]; rfl
@[simp] theorem ix1 {a b : D} {r : List D} : opIx (.tuple (a :: b :: r)) (.int 1) = some (.v b) := by
  show (atI (a :: b :: r) 1).map RV.v = _
  rw [at1]; rfl
def letterB : D → Bool
  | .tuple [w, m] => wordB w && geB 0 m
  | _ => false
theorem s_is_letter_form {n : Nat} (d : D) (h : fit n d = true) : pf_is_letter_form.sem [d] = some (.ok (false, .bool (letterB d)), .none) := by
  cases d with
  | tuple xs =>
    obtain ⟨m, rfl, hm, _⟩ := fit_tup h
    match xs, hm with
    | [], _ => simp -implicitDefEqProofs [pf_is_letter_form, pb_is_letter_form, slots0_none, N_is_letter_form, isTup, unLen, opEq, letterB]
    | [a], _ => simp -implicitDefEqProofs [pf_is_letter_form, pb_is_letter_form, slots0_none, N_is_letter_form, isTup, unLen, opEq, letterB]
    | [a, b], hm =>
      have h1 := s_is_word a (hm a (by simp))
      have h2 := s_is_from 0 b
      simp -implicitDefEqProofs [pf_is_letter_form, pb_is_letter_form, slots0_none, N_is_letter_form, isTup, unLen, opEq, letterB, h1, h2]
      cases wordB a <;> simp -implicitDefEqProofs
    | a :: b :: c :: r, _ =>
      have : ((r.length : Int) + 1 + 1 + 1 == 2) = false := by rw [beq_eq_false_iff_ne]; omega
      simp -implicitDefEqProofs [pf_is_letter_form, pb_is_letter_form, slots0_none, N_is_letter_form, isTup, unLen, opEq, letterB, this]
  | _ => simp -implicitDefEqProofs [pf_is_letter_form, pb_is_letter_form, slots0_none, N_is_letter_form, isTup, letterB]
theorem s_law_is_letter {n : Nat} (d : D) (h : fit n d = true) : pf__law_is_letter.sem [d] = some (.ok (false, .bool (letterB d)), .none) := by
  cases d with
  | tuple xs =>
    obtain ⟨m, rfl, hm, _⟩ := fit_tup h
    match xs, hm with
    | [], _ => simp -implicitDefEqProofs [pf__law_is_letter, pb__law_is_letter, slots0_none, N__law_is_letter, isTup, unLen, opNe, letterB]
    | [a], _ => simp -implicitDefEqProofs [pf__law_is_letter, pb__law_is_letter, slots0_none, N__law_is_letter, isTup, unLen, opNe, letterB]
    | [a, b], hm =>
      have h1 := s_law_is_word a (hm a (by simp))
      simp -implicitDefEqProofs [pf__law_is_letter, pb__law_is_letter, slots0_none, N__law_is_letter, isTup, unLen, opNe, letterB, h1]
      cases wordB a with
      | false => simp -implicitDefEqProofs
      | true =>
        simp -implicitDefEqProofs
        cases b <;> simp -implicitDefEqProofs [Vm.isInt, isBool, geB, opGe]
    | a :: b :: c :: r, _ =>
      have : ((r.length : Int) + 1 + 1 + 1 == 2) = false := by rw [beq_eq_false_iff_ne]; omega
      simp -implicitDefEqProofs [pf__law_is_letter, pb__law_is_letter, slots0_none, N__law_is_letter, isTup, unLen, opNe, letterB, this]
  | _ => simp -implicitDefEqProofs [pf__law_is_letter, pb__law_is_letter, slots0_none, N__law_is_letter, isTup, letterB]
end K01
end

section
set_option maxRecDepth 100000
set_option maxHeartbeats 4000000
namespace K01
open PySem PySem.Spec PyProof.Rows L2 Vm
def lt (p : Str × Int) : D := .tuple [.str p.1, .int p.2]
theorem letter_of {d : D} (h : letterB d = true) : ∃ p : Str × Int, d = lt p ∧ 0 ≤ p.2 := by
  cases d with
  | tuple xs =>
    match xs, h with
    | [w, m], h =>
      have h : (wordB w && geB 0 m) = true := h
      rw [Bool.and_eq_true] at h
      cases w with
      | str x =>
        cases m with
        | int i => exact ⟨(x, i), rfl, by simpa [geB] using h.2⟩
        | _ => cases h.2
      | _ => cases h.1
    | [], h => cases h
    | [_], h => cases h
    | _ :: _ :: _ :: _, h => cases h
  | _ => cases h
theorem letters_of : ∀ {xs : List D}, xs.all letterB = true → ∃ ps : List (Str × Int), xs = ps.map lt ∧ ∀ p ∈ ps, 0 ≤ p.2
  | [], _ => ⟨[], rfl, by simp⟩
  | x :: r, h => by
    rw [List.all_cons, Bool.and_eq_true] at h
    obtain ⟨p, rfl, hp⟩ := letter_of h.1
    obtain ⟨ps, rfl, hs⟩ := letters_of h.2
    exact ⟨p :: ps, rfl, fun q hq => by
      rcases List.mem_cons.mp hq with rfl | hq
      · exact hp
      · exact hs q hq⟩
def maxI : List Int → Int
  | n :: r => r.foldl max n
  | [] => 0
def minI : List Int → Int
  | n :: r => r.foldl min n
  | [] => 0
def keysW (ps : List (Str × Int)) : List Key := ps.map fun p => .inr p.1
def d0 : D → D
  | .tuple (a :: _) => a
  | _ => .none
def d1 : D → D
  | .tuple (_ :: b :: _) => b
  | _ => .none
/-- told letters that are letters, of a kind -/
def toldP (ps : List (Str × Int)) (kd : Str) : Bool := chainB (keysW ps) && (decide (2 ≤ ps.length) && (!(maxI (ps.map (·.2)) == 0) && (kd == "endless" || minI (ps.map (·.2)) == 0)))
theorem keysW_ok {n : Nat} {ps : List (Str × Int)} (h : fit n (.tuple (ps.map lt)) = true) (hl : ps.length ≤ 1000) : okKeys (keysW ps) := by
  obtain ⟨m, rfl, hm, hl⟩ := fit_tup h
  refine ⟨?_, fun k hk => ?_, by simpa [keysW] using hl⟩
  · unfold sameK
    rw [Bool.or_eq_true]
    right
    rw [List.all_eq_true]
    intro k hk
    obtain ⟨p, _, rfl⟩ := List.mem_map.mp hk
    rfl
  · obtain ⟨p, hp, rfl⟩ := List.mem_map.mp hk
    have := hm (lt p) (List.mem_map_of_mem hp)
    obtain ⟨m', rfl, hm', _⟩ := fit_tup this
    have := fit_str (hm' (.str p.1) (by simp))
    show (PyData.strOk p.1 && decide (p.1.length ≤ 1000)) = true
    rw [this.1, decide_eq_true this.2]; rfl
def pOf : D → Str × Int
  | .tuple [.str w, .int m] => (w, m)
  | _ => ("", 0)
theorem pOf_lt {ps : List (Str × Int)} : (ps.map lt).map pOf = ps := by
  rw [List.map_map]
  exact List.map_id'' (fun p => rfl) ps
def toldD (xs : List D) (kd : Str) : Bool := xs.all letterB && toldP (xs.map pOf) kd
theorem lt2 (a b : Int) : opLt (.int a) (.int b) = some (.v (.bool (decide (a < b)))) := by
  unfold opLt
  rw [if_pos (by simp [PySem.W.alike, isNone]), PySem.W.dataLt_int]
theorem eq2 (a b : Int) : opEq (.int a) (.int b) = some (.v (.bool (a == b))) := by simp [opEq]
theorem max_of {ns : List Int} (h : ns ≠ []) : unMax (.list (ns.map .int)) = some (.v (.int (maxI ns))) := by
  cases ns with
  | nil => exact absurd rfl h
  | cons n r =>
    have := intsOf_map id (n :: r)
    simp only [List.map_id_fun, id_eq] at this
    unfold unMax
    simp only [this]
    rfl
theorem min_of {ns : List Int} (h : ns ≠ []) : unMin (.list (ns.map .int)) = some (.v (.int (minI ns))) := by
  cases ns with
  | nil => exact absurd rfl h
  | cons n r =>
    have := intsOf_map id (n :: r)
    simp only [List.map_id_fun, id_eq] at this
    unfold unMin
    simp only [this]
    rfl
theorem s_told {n : Nat} (xs : List D) (kd : Str) (h : fit n (.tuple xs) = true) (hk : shp (.str kd) = true) :
    pf_told_letters_ok.sem [.tuple xs, .str kd] = some (.ok (false, .bool (toldD xs kd)), .none) := by
  obtain ⟨m, rfl, hm, hl⟩ := fit_tup h
  have c1 : compL [6] (gN 6) tYesF (eCall pf_is_letter_form (npOk 1 (rCons (eVar 6) rNil))) xs [] [.val (.tuple xs), .val (.str kd), .emp, .emp, .emp, .emp, .emp] = some (xs.map fun d => .bool (letterB d), [.val (.tuple xs), .val (.str kd), .emp, .emp, .emp, .emp, .emp]) := by
    rw [comp_all (fun d => .bool (letterB d))]
    · rfl
    · intro d hd
      have := s_is_letter_form d (hm d hd)
      exact ⟨[.val (.tuple xs), .val (.str kd), .emp, .emp, .emp, .emp, .val d], rfl, ⟨.v (.bool (letterB d)), by simp -implicitDefEqProofs [this], rfl⟩, rfl, rfl⟩
  have g1 : unAll (.list (xs.map fun d => .bool (letterB d))) = some (.v (.bool (xs.all letterB))) := by
    simp only [unAll, boolsOf_map, Option.map_some]
    rw [List.all_map]; rfl
  cases ha : xs.all letterB with
  | false =>
    simp -implicitDefEqProofs [-List.map_map, pf_told_letters_ok, pb_told_letters_ok, slots0_none, N_told_letters_ok, isTup, canWipe, notOwn, wipeE, c1, g1, restE, ha, toldD]
  | true =>
    obtain ⟨ps, hps, hp⟩ := letters_of ha
    have c2 : compL [4, 5] (gTupD 2 (gCons' (gN 4) (gCons' (gN 5) Vm.gNil))) tYesF (eVar 4) xs [] [.val (.tuple xs), .val (.str kd), .emp, .emp, .emp, .emp, .emp] = some ((keysW ps).map kD, [.val (.tuple xs), .val (.str kd), .emp, .emp, .emp, .emp, .emp]) := by
      rw [comp_all d0]
      · rw [hps]; simp [keysW, kD, d0, lt, Function.comp_def]
      · intro d hd
        rw [hps] at hd
        obtain ⟨p, hp, rfl⟩ := List.mem_map.mp hd
        exact ⟨[.val (.tuple xs), .val (.str kd), .emp, .emp, .val (.str p.1), .val (.int p.2), .emp], rfl, ⟨.v (.str p.1), rfl, rfl⟩, rfl, rfl⟩
    have c3 : compL [4, 5] (gTupD 2 (gCons' (gN 4) (gCons' (gN 5) Vm.gNil))) tYesF (eVar 5) xs [] [.val (.tuple xs), .val (.str kd), .emp, .emp, .emp, .emp, .emp] = some ((ps.map (·.2)).map .int, [.val (.tuple xs), .val (.str kd), .emp, .emp, .emp, .emp, .emp]) := by
      rw [comp_all d1]
      · rw [hps]; simp [d1, lt, Function.comp_def]
      · intro d hd
        rw [hps] at hd
        obtain ⟨p, hp, rfl⟩ := List.mem_map.mp hd
        exact ⟨[.val (.tuple xs), .val (.str kd), .emp, .emp, .val (.str p.1), .val (.int p.2), .emp], rfl, ⟨.v (.int p.2), rfl, rfl⟩, rfl, rfl⟩
    have hlp : ps.length = xs.length := by rw [hps, List.length_map]
    have hk1 := keysW_ok (n := m + 1) (ps := ps) (by rw [← hps]; exact h) (by omega)
    have asc := s_is_ascending (keysW ps) hk1
    have e0 : xs.map pOf = ps := by rw [hps]; exact pOf_lt
    cases hc : chainB (keysW ps) with
    | false =>
      simp -implicitDefEqProofs [-List.map_map, pf_told_letters_ok, pb_told_letters_ok, slots0_none, N_told_letters_ok, isTup, canWipe, notOwn, wipeE, c1, c2, c3, g1, restE, ha, toldD, asc, hc, e0, toldP]
    | true =>
      by_cases h2 : 2 ≤ ps.length
      · have h2' : decide ((xs.length : Int) < 2) = false := by rw [decide_eq_false_iff_not]; omega
        have ne : ps.map (·.2) ≠ [] := by
          intro q
          have := congrArg List.length q
          simp at this
          rw [this] at h2
          simp at h2
        have mx := max_of ne
        have mn := min_of ne
        have q1 : opEq (.str kd) (.str "endless") = some (.v (.bool (kd == "endless"))) := by
          have : shp (.str ("endless" : Str)) = true := by decide +kernel
          simp [opEq, hk, this]
        have gT : toldD xs kd = (!(maxI (ps.map (·.2)) == 0) && (kd == "endless" || minI (ps.map (·.2)) == 0)) := by
          unfold toldD toldP
          rw [ha, e0, hc, decide_eq_true h2]
          rfl
        rw [gT]
        generalize ps.map (·.2) = ns at *
        by_cases h0 : maxI ns = 0
        · simp -implicitDefEqProofs [-List.map_map, pf_told_letters_ok, pb_told_letters_ok, slots0_none, N_told_letters_ok, isTup, canWipe, notOwn, wipeE, c1, c2, c3, g1, restE, ha, asc, hc, unLen, lt2, h2', mx, eq2, h0]
        · have h0' : (maxI ns == 0) = false := by rw [beq_eq_false_iff_ne]; exact h0
          by_cases h1 : kd = "endless"
          · have h1' : (kd == ("endless" : Str)) = true := by rw [h1]; exact beq_self_eq_true _
            simp -implicitDefEqProofs [-List.map_map, pf_told_letters_ok, pb_told_letters_ok, slots0_none, N_told_letters_ok, isTup, canWipe, notOwn, wipeE, c1, c2, c3, g1, restE, ha, asc, hc, unLen, lt2, h2', mx, eq2, h0', q1, h1', -beq_iff_eq]
          · have h1' : (kd == ("endless" : Str)) = false := by rw [beq_eq_false_iff_ne]; exact h1
            simp -implicitDefEqProofs [-List.map_map, pf_told_letters_ok, pb_told_letters_ok, slots0_none, N_told_letters_ok, isTup, canWipe, notOwn, wipeE, c1, c2, c3, g1, restE, ha, asc, hc, unLen, lt2, h2', mx, eq2, h0', q1, h1', mn, -beq_iff_eq]
      · have h2' : decide ((xs.length : Int) < 2) = true := by rw [decide_eq_true_eq]; omega
        simp -implicitDefEqProofs [-List.map_map, pf_told_letters_ok, pb_told_letters_ok, slots0_none, N_told_letters_ok, isTup, canWipe, notOwn, wipeE, c1, c2, c3, g1, restE, ha, toldD, asc, hc, e0, toldP, unLen, lt2, h2, h2']
end K01
end

section
set_option maxRecDepth 100000
set_option maxHeartbeats 4000000
namespace K01
open PySem PySem.Spec PyProof.Rows L2 Vm
def kindB (k : Str) : Bool := k == "finite" || k == "endless"
def worldT (a : D) (k : Str) : Bool := kindB k && (isNone a || (match a with | .tuple xs => toldD xs k | _ => false))
def worldB : D → Bool
  | .tuple [a, .str k] => worldT a k
  | _ => false
theorem shpF : shp (.str ("finite" : Str)) = true := by decide +kernel
theorem shpE : shp (.str ("endless" : Str)) = true := by decide +kernel
theorem shpFE : shp (.tuple [.str ("finite" : Str), .str ("endless" : Str)]) = true := by decide +kernel
theorem beqC (a b : Str) : (a == b) = (b == a) := by
  rw [Bool.eq_iff_iff, beq_iff_eq, beq_iff_eq]
  exact ⟨Eq.symm, Eq.symm⟩
theorem shp_str {n : Nat} {k : Str} (h : fit n (.str k) = true) : shp (.str k) = true := by
  obtain ⟨a, b⟩ := fit_str h
  refine fit_shp (n := 0) ?_
  show (PyData.strOk k && decide (k.length ≤ 1000)) = true
  rw [a, decide_eq_true b]; rfl
theorem any_kind (k : Str) : anyEq [.str ("finite" : Str), .str ("endless" : Str)] (.str k) = kindB k := by
  unfold anyEq kindB
  simp only [List.any_cons, List.any_nil, eqv_str, Bool.or_false]
  rw [beqC, beqC (_ : Str) k]
theorem notIn_kind {k : Str} (h : shp (.str k) = true) : opNotIn (.str k) (.tuple [.str ("finite" : Str), .str ("endless" : Str)]) = some (.v (.bool (!kindB k))) := by
  show (if shp (.str k) && shp (.tuple [.str ("finite" : Str), .str ("endless" : Str)]) then some (RV.v (.bool (!anyEq [.str ("finite" : Str), .str ("endless" : Str)] (.str k)))) else none) = _
  rw [h, shpFE, any_kind]
  rfl
theorem eq_end {k : Str} (h : shp (.str k) = true) : opEq (.str k) (.str ("endless" : Str)) = some (.v (.bool (k == "endless"))) := by
  have := shpE
  simp [opEq, h, this]
theorem len2 : ((2 : Nat) : Int) = 2 := rfl
theorem s_world_ok {n : Nat} (d : D) (h : fit n d = true) : pf_world_ok.sem [d] = some (.ok (false, .bool (worldB d)), .none) := by
  cases d with
  | tuple xs =>
    obtain ⟨m, rfl, hm, _⟩ := fit_tup h
    match xs, hm with
    | [], _ => simp -implicitDefEqProofs [pf_world_ok, pb_world_ok, slots0_none, N_world_ok, isTup, unLen, opNe, worldB]
    | [a], _ => simp -implicitDefEqProofs [pf_world_ok, pb_world_ok, slots0_none, N_world_ok, isTup, unLen, opNe, worldB]
    | a :: b :: c :: r, _ =>
      have : ((r.length : Int) + 1 + 1 + 1 == 2) = false := by rw [beq_eq_false_iff_ne]; omega
      simp -implicitDefEqProofs [pf_world_ok, pb_world_ok, slots0_none, N_world_ok, isTup, unLen, opNe, worldB, this]
    | [a, b], hm =>
      cases b with
      | str k =>
        have hk := shp_str (hm (.str k) (by simp))
        have ni := notIn_kind hk
        cases hkb : kindB k with
        | false => simp -implicitDefEqProofs [pf_world_ok, pb_world_ok, slots0_none, N_world_ok, isTup, unLen, opNe, worldB, worldT, isStr, ni, hkb]
        | true =>
          cases a with
          | none => simp -implicitDefEqProofs [pf_world_ok, pb_world_ok, slots0_none, N_world_ok, isTup, unLen, opNe, worldB, worldT, isStr, ni, hkb, opIsN, isNone]
          | tuple ys =>
            have t := s_told ys k (hm (.tuple ys) (by simp)) hk
            simp -implicitDefEqProofs [pf_world_ok, pb_world_ok, slots0_none, N_world_ok, isTup, unLen, opNe, worldB, worldT, isStr, ni, hkb, opIsN, isNone, t]
          | _ =>
            simp -implicitDefEqProofs [pf_world_ok, pb_world_ok, slots0_none, N_world_ok, isTup, unLen, opNe, worldB, worldT, isStr, ni, hkb, opIsN, isNone, pf_told_letters_ok, pb_told_letters_ok, N_told_letters_ok]
      | _ => simp -implicitDefEqProofs [pf_world_ok, pb_world_ok, slots0_none, N_world_ok, isTup, unLen, opNe, worldB, isStr]
  | _ => simp -implicitDefEqProofs [pf_world_ok, pb_world_ok, slots0_none, N_world_ok, isTup, worldB]
end K01
end

section
set_option maxRecDepth 100000
set_option maxHeartbeats 4000000
namespace K01
open PySem PySem.Spec PyProof.Rows L2 Vm
theorem any_pos {ns : List Int} (h : ∀ n ∈ ns, 0 ≤ n) (ne : ns ≠ []) : ns.any (fun n => decide (0 < n)) = !(maxI ns == 0) := by
  cases ns with
  | nil => exact absurd rfl ne
  | cons n r =>
    obtain ⟨h1, h2⟩ := foldl_max r n
    have hm : maxI (n :: r) = r.foldl max n := rfl
    rw [hm, Bool.eq_iff_iff, List.any_eq_true, Bool.not_eq_true', beq_eq_false_iff_ne]
    constructor
    · rintro ⟨x, hx, q⟩
      have := h2 x hx
      have := of_decide_eq_true q
      omega
    · intro q
      have := h _ h1
      exact ⟨_, h1, decide_eq_true (by omega)⟩
theorem any_zero {ns : List Int} (h : ∀ n ∈ ns, 0 ≤ n) (ne : ns ≠ []) : ns.any (fun n => n == 0) = (minI ns == 0) := by
  cases ns with
  | nil => exact absurd rfl ne
  | cons n r =>
    obtain ⟨h1, h2⟩ := foldl_min r n
    have hm : minI (n :: r) = r.foldl min n := rfl
    rw [hm, Bool.eq_iff_iff, List.any_eq_true, beq_iff_eq]
    constructor
    · rintro ⟨x, hx, q⟩
      have q := beq_iff_eq.mp q
      have := h2 x hx
      have := h _ h1
      omega
    · intro q
      exact ⟨_, h1, beq_iff_eq.mpr q⟩
def posD : D → Bool
  | .tuple (_ :: .int i :: _) => decide (0 < i)
  | _ => false
def zeroD : D → Bool
  | .tuple (_ :: .int i :: _) => i == 0
  | _ => false
theorem fit_filter {m : Nat} {xs : List D} (hm : ∀ x ∈ xs, fit m x = true) (hl : xs.length ≤ 1000) (p : D → Bool) : fit (m + 1) (.list (xs.filter p)) = true := by
  show (decide _ && List.all _ (fit m)) = true
  rw [Bool.and_eq_true, decide_eq_true_eq, List.all_eq_true]
  exact ⟨Nat.le_trans (List.length_filter_le _ _) hl, fun x hx => hm x (List.mem_filter.mp hx).1⟩
theorem fit_map {ks : List Key} (h : ∀ k ∈ ks, fit 0 (kD k) = true) (hl : ks.length ≤ 1000) : fit 1 (.list (ks.map kD)) = true := by
  show (decide _ && List.all _ (fit 0)) = true
  rw [Bool.and_eq_true, decide_eq_true_eq, List.all_eq_true, List.length_map]
  refine ⟨hl, fun x hx => ?_⟩
  obtain ⟨k, hk, rfl⟩ := List.mem_map.mp hx
  exact h k hk
theorem keysOf_map : ∀ ks : List Key, keysOf (ks.map kD) = some ks
  | [] => rfl
  | .inl i :: r => by
    show (match keyOf' (.int i), keysOf (r.map kD) with | some k, some ks => some (k :: ks) | _, _ => none) = _
    rw [keysOf_map r]; rfl
  | .inr x :: r => by
    show (match keyOf' (.str x), keysOf (r.map kD) with | some k, some ks => some (k :: ks) | _, _ => none) = _
    rw [keysOf_map r]; rfl
theorem dedup_mem : ∀ (r L : List Key) (k : Key), k ∈ dedup L r → k ∈ L ∨ k ∈ r
  | [], L, k, h => .inl h
  | x :: r, L, k, h => by
    rcases dedup_mem r (addK L x) k h with h | h
    · unfold addK at h
      split at h
      · exact .inl h
      · rcases List.mem_append.mp h with h | h
        · exact .inl h
        · exact .inr (by rw [List.mem_singleton.mp h]; exact List.mem_cons_self)
    · exact .inr (List.mem_cons_of_mem _ h)
/-- sorted(set(..)) of keys of one sort, compared with the row -/
theorem sortset_ne {ks : List Key} (h : okKeys ks) : unSortSet (.list (ks.map kD)) = some (.f (.list ((sortK (dedup [] ks)).map kD))) ∧ opNe (.list (ks.map kD)) (.list ((sortK (dedup [] ks)).map kD)) = some (.v (.bool (!chainB ks))) := by
  obtain ⟨h1, h2, h3⟩ := h
  have hd := dedup_len ks []
  simp only [List.length_nil, Nat.zero_add] at hd
  have hmem : ∀ k ∈ dedup [] ks, k ∈ ks := fun k hk => by
    rcases dedup_mem ks [] k hk with h | h
    · cases h
    · exact h
  have hs : sameK (dedup [] ks) = true := by
    unfold sameK at h1 ⊢
    rw [Bool.or_eq_true, List.all_eq_true, List.all_eq_true] at h1 ⊢
    exact h1.imp (fun q k hk => q k (hmem k hk)) fun q k hk => q k (hmem k hk)
  constructor
  · unfold unSortSet
    simp only [keysOf_map]
    rw [if_pos ⟨by have : scanBound = 4096 := rfl; omega, hs⟩]
  · have g1 := fit_shp (fit_map h2 h3)
    have hperm := List.mergeSort_perm (dedup [] ks) leK
    have g2 : fit 1 (.list ((sortK (dedup [] ks)).map kD)) = true := fit_map (fun k hk => h2 k (hmem k (hperm.mem_iff.mp hk))) (by unfold sortK; rw [List.length_mergeSort]; omega)
    have g2 := fit_shp g2
    unfold opNe
    rw [g1, g2, eqv_keysL]
    have e : decide (ks = sortK (dedup [] ks)) = chainB ks := by
      rw [Bool.eq_iff_iff, decide_eq_true_eq, chain_iff, ← sortset_iff]
      exact eq_comm
    rw [e]
    rfl

theorem ne2 (a b : Int) : opNe (.int a) (.int b) = some (.v (.bool (!(a == b)))) := by simp [opNe]
theorem gt2 (a b : Int) : opGt (.int a) (.int b) = some (.v (.bool (decide (b < a)))) := rfl
theorem nil_ne {m : Nat} {xs : List D} (hm : ∀ x ∈ xs, fit m x = true) (hl : xs.length ≤ 1000) (hn : m ≤ 60) (p : D → Bool) : opNe (.list (xs.filter p)) (.list []) = some (.v (.bool (xs.any p))) ∧ opEq (.list (xs.filter p)) (.list []) = some (.v (.bool (!xs.any p))) := by
  have g := fit_shp (fit_filter hm hl p) (by omega)
  have s0 : shp (.list ([] : List D)) = true := shp_nil
  have e : (xs.filter p).isEmpty = !xs.any p := by
    rw [Bool.eq_iff_iff]; simp
  constructor
  · unfold opNe
    rw [g, s0, eqv_nil, e, Bool.not_not]
    rfl
  · unfold opEq
    rw [g, s0, eqv_nil, e]
    rfl
theorem s_law_is_world {n : Nat} (d : D) (h : fit n d = true) (hn : n ≤ 50) : pf__law_is_world.sem [d] = some (.ok (false, .bool (worldB d)), .none) := by
  cases d with
  | tuple xs =>
    obtain ⟨m, rfl, hm, _⟩ := fit_tup h
    match xs, hm with
    | [], _ => simp -implicitDefEqProofs [pf__law_is_world, pb__law_is_world, slots0_none, N__law_is_world, isTup, unLen, opNe, worldB]
    | [a], _ => simp -implicitDefEqProofs [pf__law_is_world, pb__law_is_world, slots0_none, N__law_is_world, isTup, unLen, opNe, worldB]
    | a :: b :: c :: r, _ =>
      have : ((r.length : Int) + 1 + 1 + 1 == 2) = false := by rw [beq_eq_false_iff_ne]; omega
      simp -implicitDefEqProofs [pf__law_is_world, pb__law_is_world, slots0_none, N__law_is_world, isTup, unLen, opNe, worldB, this]
    | [a, b], hm =>
      cases b with
      | str k =>
        have hk := shp_str (hm (.str k) (by simp))
        have ni := notIn_kind hk
        cases hkb : kindB k with
        | false => simp -implicitDefEqProofs [pf__law_is_world, pb__law_is_world, slots0_none, N__law_is_world, isTup, unLen, opNe, worldB, worldT, isStr, ni, hkb]
        | true =>
          cases a with
          | none => simp -implicitDefEqProofs [pf__law_is_world, pb__law_is_world, slots0_none, N__law_is_world, isTup, unLen, opNe, worldB, worldT, isStr, ni, hkb, opIsN, isNone]
          | tuple ys =>
            obtain ⟨m', rfl, hy, hyl⟩ := fit_tup (hm (.tuple ys) (by simp))
            -- too few
            by_cases h2 : 2 ≤ ys.length
            · have h2' : decide ((ys.length : Int) < 2) = false := by rw [decide_eq_false_iff_not]; omega
              have c1 : compL [3] (gN 3) (Vm.tNot (tE (eCall pf__law_is_letter (npOk 1 (rCons (eVar 3) rNil))))) (eVar 3) ys [] [.val (.tuple [.tuple ys, .str k]), .val (.tuple ys), .emp, .emp] = some (ys.filter fun d => !letterB d, [.val (.tuple [.tuple ys, .str k]), .val (.tuple ys), .emp, .emp]) := by
                rw [comp_gen (fun d => !letterB d) id]
                · simp
                · intro d hd
                  have := s_law_is_letter d (hy d hd)
                  exact ⟨[.val (.tuple [.tuple ys, .str k]), .val (.tuple ys), .emp, .val d], rfl, by simp -implicitDefEqProofs [this], fun _ => ⟨.v d, rfl, rfl⟩, rfl, rfl⟩
              have e1 := (nil_ne hy hyl (by omega) fun d => !letterB d).1
              have e2 : (ys.any fun d => !letterB d) = !ys.all letterB := by rw [Bool.eq_iff_iff]; simp
              rw [e2] at e1
              cases ha : ys.all letterB with
              | false =>
                simp -implicitDefEqProofs [pf__law_is_world, pb__law_is_world, slots0_none, N__law_is_world, isTup, unLen, worldB, worldT, isStr, ni, hkb, opIsN, isNone, toldD, lt2, h2', c1, e1, ha, canWipe, notOwn, wipeE, restE, ne2]
              | true =>
                obtain ⟨ps, hps, hp⟩ := letters_of ha
                have hlp : ps.length = ys.length := by rw [hps, List.length_map]
                have hk1 := keysW_ok (n := m' + 1) (ps := ps) (by rw [← hps]; exact hm (.tuple ys) (by simp)) (by omega)
                obtain ⟨ss, sn⟩ := sortset_ne hk1
                have e0 : ys.map pOf = ps := by rw [hps]; exact pOf_lt
                have ne : ps.map (·.2) ≠ [] := by
                  intro q
                  have := congrArg List.length q
                  simp at this
                  rw [this] at hlp
                  simp at hlp
                  omega
                have hge : ∀ z ∈ ps.map (·.2), 0 ≤ z := fun z hz => by
                  obtain ⟨p, hpp, rfl⟩ := List.mem_map.mp hz
                  exact hp p hpp
                have ap : ys.any posD = !(maxI (ps.map (·.2)) == 0) := by
                  rw [← any_pos hge ne, hps, List.any_map, List.any_map]; rfl
                have az : ys.any zeroD = (minI (ps.map (·.2)) == 0) := by
                  rw [← any_zero hge ne, hps, List.any_map, List.any_map]; rfl
                have c2 : compL [3] (gN 3) tYesF (eBin opIx (eVar 3) (eC (.int 0))) ys [] [.val (.tuple [.tuple ys, .str k]), .val (.tuple ys), .emp, .emp] = some ((keysW ps).map kD, [.val (.tuple [.tuple ys, .str k]), .val (.tuple ys), .emp, .emp]) := by
                  rw [comp_all d0]
                  · rw [hps]; simp [keysW, kD, d0, lt, Function.comp_def]
                  · intro d hd
                    rw [hps] at hd
                    obtain ⟨p, hp, rfl⟩ := List.mem_map.mp hd
                    exact ⟨[.val (.tuple [.tuple ys, .str k]), .val (.tuple ys), .emp, .val (lt p)], rfl, ⟨.v (.str p.1), by simp -implicitDefEqProofs [lt], rfl⟩, rfl, rfl⟩
                have c3 : ∀ s2, compL [3] (gN 3) (Vm.tB (eBin opGt (eBin opIx (eVar 3) (eC (.int 1))) (eC (.int 0)))) (eVar 3) ys [] [.val (.tuple [.tuple ys, .str k]), .val (.tuple ys), s2, .emp] = some (ys.filter posD, [.val (.tuple [.tuple ys, .str k]), .val (.tuple ys), s2, .emp]) := fun s2 => by
                  rw [comp_gen posD id]
                  · simp
                  · intro d hd
                    rw [hps] at hd
                    obtain ⟨p, hp, rfl⟩ := List.mem_map.mp hd
                    exact ⟨[.val (.tuple [.tuple ys, .str k]), .val (.tuple ys), s2, .val (lt p)], rfl, by simp -implicitDefEqProofs [lt, gt2, posD], fun _ => ⟨.v (lt p), rfl, rfl⟩, rfl, rfl⟩
                have c4 : ∀ s2, compL [3] (gN 3) (Vm.tB (eBin opEq (eBin opIx (eVar 3) (eC (.int 1))) (eC (.int 0)))) (eVar 3) ys [] [.val (.tuple [.tuple ys, .str k]), .val (.tuple ys), s2, .emp] = some (ys.filter zeroD, [.val (.tuple [.tuple ys, .str k]), .val (.tuple ys), s2, .emp]) := fun s2 => by
                  rw [comp_gen zeroD id]
                  · simp
                  · intro d hd
                    rw [hps] at hd
                    obtain ⟨p, hp, rfl⟩ := List.mem_map.mp hd
                    exact ⟨[.val (.tuple [.tuple ys, .str k]), .val (.tuple ys), s2, .val (lt p)], rfl, by simp -implicitDefEqProofs [lt, eq2, zeroD], fun _ => ⟨.v (lt p), rfl, rfl⟩, rfl, rfl⟩
                have e3 := (nil_ne hy hyl (by omega) posD).2
                have e4 := (nil_ne hy hyl (by omega) zeroD).1
                have q1 := eq_end hk
                rw [ap] at e3
                rw [az] at e4
                have gT : toldD ys k = (chainB (keysW ps) && (!(maxI (ps.map (·.2)) == 0) && (k == "endless" || minI (ps.map (·.2)) == 0))) := by
                  unfold toldD toldP
                  rw [ha, e0, decide_eq_true (by omega : 2 ≤ ps.length)]
                  simp
                have gW : worldB (.tuple [.tuple ys, .str k]) = toldD ys k := by
                  show (kindB k && (isNone (.tuple ys) || toldD ys k)) = _
                  rw [hkb]; rfl
                rw [gW, gT]
                generalize ps.map (·.2) = ns at *
                generalize (keysW ps).map kD = W at *
                generalize ((sortK (dedup [] (keysW ps))).map kD) = W2 at *
                cases hc : chainB (keysW ps) with
                | false =>
                  rw [hc] at sn
                  simp -implicitDefEqProofs [pf__law_is_world, pb__law_is_world, slots0_none, N__law_is_world, isTup, unLen, isStr, ni, hkb, opIsN, isNone, lt2, h2', c1, e1, ha, canWipe, notOwn, wipeE, restE, ne2, c2, ss, sn]
                | true =>
                  rw [hc] at sn
                  cases h0 : maxI ns == 0 with
                  | true =>
                    rw [h0] at e3
                    simp -implicitDefEqProofs [pf__law_is_world, pb__law_is_world, slots0_none, N__law_is_world, isTup, unLen, isStr, ni, hkb, opIsN, isNone, lt2, h2', c1, e1, ha, canWipe, notOwn, wipeE, restE, ne2, c2, ss, sn, c3, e3]
                  | false =>
                    rw [h0] at e3
                    cases h1 : k == "endless" with
                    | true =>
                      rw [h1] at q1
                      simp -implicitDefEqProofs [pf__law_is_world, pb__law_is_world, slots0_none, N__law_is_world, isTup, unLen, isStr, ni, hkb, opIsN, isNone, lt2, h2', c1, e1, ha, canWipe, notOwn, wipeE, restE, ne2, c2, ss, sn, c3, e3, q1]
                    | false =>
                      rw [h1] at q1
                      simp -implicitDefEqProofs [pf__law_is_world, pb__law_is_world, slots0_none, N__law_is_world, isTup, unLen, isStr, ni, hkb, opIsN, isNone, lt2, h2', c1, e1, ha, canWipe, notOwn, wipeE, restE, ne2, c2, ss, sn, c3, e3, q1, c4, e4]
            · have h2' : decide ((ys.length : Int) < 2) = true := by rw [decide_eq_true_eq]; omega
              have h3 : decide (2 ≤ ys.length) = false := by rw [decide_eq_false_iff_not]; exact h2
              simp -implicitDefEqProofs [pf__law_is_world, pb__law_is_world, slots0_none, N__law_is_world, isTup, unLen, opNe, worldB, worldT, isStr, ni, hkb, opIsN, isNone, toldD, toldP, lt2, h2', h3, List.length_map]
          | _ =>
            simp -implicitDefEqProofs [pf__law_is_world, pb__law_is_world, slots0_none, N__law_is_world, isTup, unLen, opNe, worldB, worldT, isStr, ni, hkb, opIsN, isNone]
      | _ => simp -implicitDefEqProofs [pf__law_is_world, pb__law_is_world, slots0_none, N__law_is_world, isTup, unLen, opNe, worldB, isStr]
  | _ => simp -implicitDefEqProofs [pf__law_is_world, pb__law_is_world, slots0_none, N__law_is_world, isTup, worldB]
end K01
end

section
set_option maxRecDepth 100000
set_option maxHeartbeats 4000000
namespace K01
open PySem PySem.Spec PyProof.Rows L2 Vm
abbrev IW : Xn := ⟨"InvalidWorld", none⟩
theorem s_need_world {n : Nat} (d : D) (h : fit n d = true) : pf_need_world.sem [d] = if worldB d = true then some (.ok (false, .none), .none) else some (.error IW, .none) := by
  have := s_world_ok d h
  cases hb : worldB d with
  | true =>
    rw [hb] at this
    simp -implicitDefEqProofs [pf_need_world, pb_need_world, slots0_none, N_need_world, this]
  | false =>
    rw [hb] at this
    simp -implicitDefEqProofs [pf_need_world, pb_need_world, slots0_none, N_need_world, this]
theorem s_is_world {n : Nat} (d : D) (h : fit n d = true) : pf_is_world.sem [d] = some (.ok (false, .bool (worldB d)), .none) := by
  have := s_world_ok d h
  simp -implicitDefEqProofs [pf_is_world, pb_is_world, slots0_none, N_is_world, this]
theorem s_some_terms {n : Nat} (d e : D) (h : fit n d = true) (hb : worldB d = false) : pf_some_terms.sem [d, e] = some (.error IW, .none) := by
  have := s_need_world d h
  rw [hb] at this
  simp -implicitDefEqProofs [pf_some_terms, pb_some_terms, slots0_none, N_some_terms, this]
theorem s_some_systems {n : Nat} (d e : D) (h : fit n d = true) (hb : worldB d = false) : pf_some_systems.sem [d, e] = some (.error IW, .none) := by
  have := s_need_world d h
  rw [hb] at this
  simp -implicitDefEqProofs [pf_some_systems, pb_some_systems, slots0_none, N_some_systems, this]
theorem s_is_letter_no {n : Nat} (d e : D) (h : fit n d = true) (hb : worldB d = false) : pf_is_letter.sem [d, e] = some (.error IW, .none) := by
  have := s_need_world d h
  rw [hb] at this
  simp -implicitDefEqProofs [pf_is_letter, pb_is_letter, slots0_none, N_is_letter, this]
/-- a letter of a world -/
def ofWorld (a v : D) : Bool := isNone a || (match a with | .tuple ys => anyEq ys v | _ => false)
theorem s_has_letter {m m2 : Nat} {a k w x : D} (h : fit (m + 1) (.tuple [a, k]) = true) (hv : fit m2 (.tuple [w, x]) = true) (hm : m ≤ 50) (hm2 : m2 ≤ 50) (ha : isNone a = true ∨ ∃ ys, a = .tuple ys) : pf_has_letter.sem [.tuple [a, k], w, x] = some (.ok (false, .bool (ofWorld a (.tuple [w, x]))), .none) := by
  obtain ⟨m', e, hh, _⟩ := fit_tup h
  cases e
  have sv := fit_shp hv (by omega)
  rcases ha with ha | ⟨ys, rfl⟩
  · cases a with
    | none => simp -implicitDefEqProofs [pf_has_letter, pb_has_letter, slots0_none, N_has_letter, opIsN, isNone, ofWorld]
    | _ => cases ha
  · have sy := fit_shp (hh (.tuple ys) (by simp)) (by omega)
    have oi : opIn (.tuple [w, x]) (.tuple ys) = some (.v (.bool (anyEq ys (.tuple [w, x])))) := by
      show (if shp (.tuple [w, x]) && shp (.tuple ys) then some (RV.v (.bool (anyEq ys (.tuple [w, x])))) else none) = _
      rw [sv, sy]; rfl
    simp -implicitDefEqProofs [pf_has_letter, pb_has_letter, slots0_none, N_has_letter, opIsN, isNone, ofWorld, oi]
theorem world_of {d : D} (h : worldB d = true) : ∃ a k, d = .tuple [a, .str k] ∧ (isNone a = true ∨ ∃ ys, a = .tuple ys) := by
  cases d with
  | tuple xs =>
    match xs, h with
    | [a, .str k], h =>
      refine ⟨a, k, rfl, ?_⟩
      have h : worldT a k = true := h
      unfold worldT at h
      rw [Bool.and_eq_true, Bool.or_eq_true] at h
      rcases h.2 with h | h
      · exact .inl h
      · cases a with
        | tuple ys => exact .inr ⟨ys, rfl⟩
        | _ => cases h
    | [_, .none], h => cases h
    | [_, .bool _], h => cases h
    | [_, .int _], h => cases h
    | [_, .list _], h => cases h
    | [_, .tuple _], h => cases h
    | [_, .dict _], h => cases h
    | [], h => cases h
    | [_], h => cases h
    | _ :: _ :: _ :: _, h => simp [worldB] at h
  | _ => cases h
theorem letter_tup {v : D} (h : letterB v = true) : ∃ w x, v = .tuple [w, x] := by
  obtain ⟨p, rfl, _⟩ := letter_of h
  exact ⟨_, _, rfl⟩
theorem s_is_letter {m m2 : Nat} {a v : D} {k : Str} (h : fit (m + 1) (.tuple [a, .str k]) = true) (hv : fit m2 v = true) (hm : m ≤ 50) (hm2 : m2 ≤ 50) (hb : worldB (.tuple [a, .str k]) = true) :
    pf_is_letter.sem [.tuple [a, .str k], v] = some (.ok (false, .bool (letterB v && ofWorld a v)), .none) := by
  have nw := s_need_world _ h
  rw [hb] at nw
  have lf := s_is_letter_form v hv
  obtain ⟨a', k', e, ha⟩ := world_of hb
  cases e
  cases hl : letterB v with
  | false =>
    rw [hl] at lf
    simp -implicitDefEqProofs [pf_is_letter, pb_is_letter, slots0_none, N_is_letter, nw, lf]
  | true =>
    rw [hl] at lf
    obtain ⟨w, x, rfl⟩ := letter_tup hl
    have hh := s_has_letter h hv hm hm2 ha
    simp -implicitDefEqProofs [pf_is_letter, pb_is_letter, slots0_none, N_is_letter, nw, lf, hh]
theorem s_law_word {n : Nat} (d : D) (h : fit n d = true) (hb : worldB d = false) (i : Nat) (hi : i < 3) : pf__law_word.sem [.int i, d] = some (.ok (false, .str "world"), .none) := by
  have e1 := s_is_letter_no d (.tuple [.str "a", .int 0]) h hb
  have e2 := s_some_terms d (.int 1) h hb
  have e3 := s_some_systems d (.int 1) h hb
  have c : isA "InvalidWorld" "InvalidWorld" = some true := by decide +kernel
  have : i = 0 ∨ i = 1 ∨ i = 2 := by omega
  rcases this with rfl | rfl | rfl
  · simp -implicitDefEqProofs [pf__law_word, pb__law_word, slots0_none, N__law_word, eq2, e1, catchS, c]
  · simp -implicitDefEqProofs [pf__law_word, pb__law_word, slots0_none, N__law_word, eq2, e2, catchS, c]
  · simp -implicitDefEqProofs [pf__law_word, pb__law_word, slots0_none, N__law_word, eq2, e3, catchS, c]

theorem io_same' (n : Nat) : (pf__law_same n).io = none := by cases n <;> rfl
theorem s_same_bool (n : Nat) (a b : Bool) : (pf__law_same (n + 1)).sem [.bool a, .bool b] = some (.ok (false, .bool (a == b)), .none) := by
  have e : opEq (.bool a) (.bool b) = some (.v (.bool (a == b))) := by simp [opEq]
  simp -implicitDefEqProofs [pf__law_same, pb__law_same, slots0_none, N__law_same, isTup, isList, opIsN, isNone, isBool, e]
theorem s_same_bools (n : Nat) (bs : List Bool) (h : bs.length ≤ 1000) : (pf__law_same (n + 2)).sem [.list (bs.map .bool), .list (bs.map .bool)] = some (.ok (false, .bool true), .none) := by
  have hl : (bs.map PyData.bool).length = bs.length := List.length_map ..
  have r : rngI (rngOf (some (.int 0)) (some (.int (bs.length : Int)))) [.val (.list (bs.map .bool)), .val (.list (bs.map .bool)), .emp] = some (.ok (rangeD 0 bs.length, none), [.val (.list (bs.map .bool)), .val (.list (bs.map .bool)), .emp]) := rngI_nat (lo := 0) (by decide) h
  have c : compL [2] (gN 2) (Vm.tNot (tE (eCall (pf__law_same (n + 1)) (npOk 2 (rCons (eBin opIx (eVar 0) (eVar 2)) (rCons (eBin opIx (eVar 1) (eVar 2)) rNil)))))) (eVar 2) (rangeD 0 bs.length) [] [.val (.list (bs.map .bool)), .val (.list (bs.map .bool)), .emp] = some ([], [.val (.list (bs.map .bool)), .val (.list (bs.map .bool)), .emp]) := by
    rw [comp_gen (fun _ => false) id]
    · simp
    · intro d hd
      obtain ⟨k, rfl, hk⟩ := range_of (lo := 0) hd
      have hk' : k < (bs.map PyData.bool).length := by rw [hl]; omega
      have e0 : ((0 + k : Nat) : Int) = (k : Int) := by omega
      have ix : opIx (.list (bs.map .bool)) (.int (k : Int)) = some (.v (.bool (bs[k]'(by omega)))) := by
        show (atI (bs.map PyData.bool) (k : Int)).map RV.v = _
        rw [atI_nat hk']
        simp
      refine ⟨[.val (.list (bs.map .bool)), .val (.list (bs.map .bool)), .val (.int (k : Int))], by rw [e0]; rfl, ?_, (fun z => absurd z (by decide)), rfl, rfl⟩
      simp -implicitDefEqProofs [ix, s_same_bool]
  have s0 : shp (.list ([] : List D)) = true := shp_nil
  have e : opEq (.list []) (.list []) = some (.v (.bool true)) := by
    unfold opEq
    rw [s0, eqv_nil]; rfl
  have n1 : opNe (.bool false) (.bool false) = some (.v (.bool false)) := by simp [opNe]
  have n2 : opNe (.bool true) (.bool true) = some (.v (.bool false)) := by simp [opNe]
  have hp : pf__law_same (n + 2) = fnS N__law_same.length 2 none (pb__law_same (pf__law_same (n + 1))) := rfl
  rw [hp]
  generalize pf__law_same (n + 1) = R at c ⊢
  simp -implicitDefEqProofs [pb__law_same, slots0_none, N__law_same, isTup, isList, n1, n2, unLen, ne2, r, c, canWipe, notOwn, wipeE, restE, e]
end K01
end

section
set_option maxRecDepth 100000
set_option maxHeartbeats 4000000
namespace K01
open PySem PySem.Spec PyProof.Rows L2 Vm
theorem slots0_io {n : Nat} {d : D} {r : List D} : slots0 n (some 0) (d :: r) = .own .io d :: (r.map Sl.val ++ List.replicate (n - (r.length + 1)) .emp) := by
  unfold slots0
  rw [List.length_cons, List.range_succ_eq_map, List.zipWith_cons_cons, List.cons_append]
  congr 1
  congr 1
  apply List.ext_getElem?
  intro i
  rw [List.getElem?_zipWith, List.getElem?_map, List.getElem?_map]
  by_cases h : i < r.length
  · rw [List.getElem?_range h, List.getElem?_eq_getElem h]; rfl
  · rw [List.getElem?_eq_none (l := r) (by omega), List.getElem?_eq_none (by simpa using h)]; rfl
@[simp] theorem p_outN {ρ : Ev} {x : Except Xn (Bool × D)} {i : Nat} : endR (some i) ρ (some x) = (outOf (some i) ρ).map fun o => (x, o) := by
  unfold endR
  cases outOf (some i) ρ <;> rfl
@[simp] theorem p_outOf {ρ : Ev} {i : Nat} : outOf (some i) ρ = (match ρ[i]? with | some (.own .io d) => some d | _ => none) := rfl
theorem at2 {α : Type} {a b c : α} {r : List α} : atI (a :: b :: c :: r) 2 = some c := atI_nat (i := 2) (ds := a :: b :: c :: r) (by simp)
theorem ixL0 {a : D} {r : List D} : opIx (.list (a :: r)) (.int 0) = some (.v a) := by
  show (atI (a :: r) 0).map RV.v = _
  rw [at0]; rfl
theorem ixL1 {a b : D} {r : List D} : opIx (.list (a :: b :: r)) (.int 1) = some (.v b) := by
  show (atI (a :: b :: r) 1).map RV.v = _
  rw [at1]; rfl
theorem ixL2 {a b c : D} {r : List D} : opIx (.list (a :: b :: c :: r)) (.int 2) = some (.v c) := by
  show (atI (a :: b :: c :: r) 2).map RV.v = _
  rw [at2]; rfl
theorem set0 {a b c v : D} : ixSet [a, b, c] (some (.int 0)) v = some [v, b, c] := rfl
theorem set2 {a b c v : D} : ixSet [a, b, c] (some (.int 2)) v = some [a, b, v] := rfl
/-- a spring after n draws -/
def Pur (n : Nat) (p : D) : Prop := ∃ a b c : Int, p = .list [.int a, .int b, .int c] ∧ 0 ≤ a ∧ 0 ≤ b ∧ b < 10 ^ 30 + 57 ∧ 0 ≤ c ∧ c ≤ n
theorem big {x : Int} (h0 : 0 ≤ x) (h : x < 10 ^ 60) : x.natAbs < 2 ^ 4000 := by
  have h1 : x.natAbs < 10 ^ 60 := by omega
  exact Nat.lt_of_lt_of_le h1 (by decide +kernel)
theorem pow_of {b : Int} {e : Nat} (hb : b.natAbs < 2 ^ 4000) (he : e ≤ 1000) : opPow (.int b) (.int (e : Int)) = some (.v (.int (b ^ e))) := by
  show (if 0 ≤ (e : Int) ∧ (e : Int) ≤ 1000 ∧ b.natAbs < 2 ^ 4000 then some (RV.v (.int (b ^ (e : Int).toNat))) else none) = _
  rw [if_pos ⟨by omega, by omega, hb⟩]
  rfl
theorem p10 : (10 : Int).natAbs < 2 ^ 4000 := by decide +kernel
theorem mod_of {a b : Int} (h : 0 < b) : opMod (.int a) (.int b) = some (.v (.int (a % b))) := by
  show (if 0 < b then some (RV.v (.int (a % b))) else none) = _
  rw [if_pos h]
theorem div_of {a b : Int} (h : 0 < b) (hb : b < 10 ^ 60) : opDiv (.int a) (.int b) = some (.v (.int (a / b))) := by
  show (if 0 < b ∧ b.natAbs < 2 ^ 4000 then some (RV.v (.int (a / b))) else none) = _
  rw [if_pos ⟨h, big (by omega) hb⟩]
theorem mul_of {a b : Int} (h : mulOk a b = true) : opMul (.int a) (.int b) = some (.v (.int (a * b))) := by
  show (if mulOk a b = true then some (RV.v (.int (a * b))) else none) = _
  rw [if_pos h]
theorem mulL {a b : Int} (h0 : 0 ≤ a) (h : a < 10 ^ 19) : mulOk a b = true := by
  unfold mulOk
  have : a.natAbs < 2 ^ 64 := by
    have : a.natAbs < 10 ^ 19 := by omega
    omega
  rw [decide_eq_true this]; rfl
theorem mulR {a b : Int} (h0 : 0 ≤ b) (h : b < 10 ^ 19) : mulOk a b = true := by
  unfold mulOk
  have : b.natAbs < 2 ^ 64 := by
    have : b.natAbs < 10 ^ 19 := by omega
    omega
  rw [decide_eq_true this]; simp
theorem mulB' {a b : Int} (h0 : 0 ≤ a) (h : a < 10 ^ 60) (g0 : 0 ≤ b) (g : b < 10 ^ 60) : mulOk a b = true := by
  unfold mulOk
  rw [decide_eq_true (big h0 h), decide_eq_true (big g0 g)]; simp
theorem add_int {a b : Int} : opAdd (.int a) (.int b) = some (.v (.int (a + b))) := rfl
theorem un_int {a : Int} : unInt (.int a) = some (.v (.int a)) := rfl
theorem s_take {n : Nat} {p : D} {m : Int} (hp : Pur n p) (hn : n ≤ 1000) (hm : 0 < m) (hm2 : m ≤ 1000) : ∃ dg p', pf__law_take.sem [p, .int m] = some (.ok (false, .int dg), p') ∧ 0 ≤ dg ∧ dg < m ∧ Pur (n + 1) p' := by
  obtain ⟨a, b, c, rfl, ha, hb, hb2, hc, hc2⟩ := hp
  by_cases h0 : 0 < a
  · refine ⟨a % m, .list [.int (a / m), .int b, .int c], ?_, Int.emod_nonneg _ (by omega), Int.emod_lt_of_pos _ hm, ⟨a / m, b, c, rfl, Int.ediv_nonneg ha (by omega), hb, hb2, hc, by omega⟩⟩
    have d1 := div_of (a := a) hm (by omega)
    have m1 := mod_of (a := a) hm
    have g1 : decide (0 < a) = true := decide_eq_true h0
    simp -implicitDefEqProofs [pf__law_take, pb__law_take, slots0_io, N__law_take, ixL0, gt2, g1, un_int, m1, d1, set0]
  · have g1 : decide (0 < a) = false := decide_eq_false h0
    have e1 : opPow (.int 10) (.int 28) = some (.v (.int (10 ^ 28))) := pow_of (b := 10) (e := 28) p10 (by decide)
    have e2 : opPow (.int 10) (.int 26) = some (.v (.int (10 ^ 26))) := pow_of (b := 10) (e := 26) p10 (by decide)
    have e3 : opPow (.int 10) (.int 7) = some (.v (.int (10 ^ 7))) := pow_of (b := 10) (e := 7) p10 (by decide)
    have hbase : (b + 6364136223 * (c + 1)).natAbs < 2 ^ 4000 := big (by omega) (by omega)
    have e4 : opPow (.int (b + 6364136223 * (c + 1))) (.int 2) = some (.v (.int ((b + 6364136223 * (c + 1)) ^ 2))) := pow_of (e := 2) hbase (by decide)
    have q1 := mul_of (mulL (a := 6364136223) (b := c + 1) (by decide) (by decide))
    have q2 := mul_of (mulL (a := 1442695041) (b := c + 1) (by decide) (by decide))
    have q3 := mul_of (mulL (a := 4050300157) (b := c + 1) (by decide) (by decide))
    have m1 := mod_of (a := (b + 6364136223 * (c + 1)) ^ 2 + 1442695041 * (c + 1)) (b := 10 ^ 28 + 331) (by decide)
    generalize h1 : ((b + 6364136223 * (c + 1)) ^ 2 + 1442695041 * (c + 1)) % (10 ^ 28 + 331) = one at m1
    have o1 : 0 ≤ one := by rw [← h1]; exact Int.emod_nonneg _ (by decide)
    have o2 : one < 10 ^ 28 + 331 := by rw [← h1]; exact Int.emod_lt_of_pos _ (by decide)
    have q4 := mul_of (mulB' o1 (by omega) o1 (by omega))
    have m2 := mod_of (a := one * one + 4050300157 * (c + 1)) (b := 10 ^ 26 + 67) (by decide)
    generalize (one * one + 4050300157 * (c + 1)) % (10 ^ 26 + 67) = two at m2
    have d1 := div_of (a := two) (b := 10 ^ 7) (by decide) (by decide)
    have m3 := mod_of (a := two / 10 ^ 7) hm
    refine ⟨two / 10 ^ 7 % m, .list [.int a, .int b, .int (c + 1)], ?_, Int.emod_nonneg _ (by omega), Int.emod_lt_of_pos _ hm, ⟨a, b, c + 1, rfl, ha, hb, hb2, by omega, by omega⟩⟩
    generalize (10 : Int) ^ 28 = t28 at *
    generalize (10 : Int) ^ 26 = t26 at *
    generalize (10 : Int) ^ 7 = t7 at *
    simp -implicitDefEqProofs [pf__law_take, pb__law_take, slots0_io, N__law_take, ixL0, ixL1, ixL2, gt2, g1, un_int, set2, add_int, e1, e2, e3, e4, q1, q2, q3, q4, m1, m2, m3, d1]
end K01
end

section
set_option maxRecDepth 100000
set_option maxHeartbeats 4000000
namespace K01
open PySem PySem.Spec PyProof.Rows L2 Vm
theorem ixL {ds : List D} {i : Int} (h0 : 0 ≤ i) (h : i < ds.length) : ∃ d ∈ ds, opIx (.list ds) (.int i) = some (.v d) := by
  obtain ⟨k, rfl⟩ : ∃ k : Nat, i = (k : Int) := ⟨i.toNat, by omega⟩
  have hk : k < ds.length := by omega
  refine ⟨ds[k], List.getElem_mem hk, ?_⟩
  show (atI ds (k : Int)).map RV.v = _
  rw [atI_nat hk]; rfl
theorem s_pick {n : Nat} {p : D} {ts : List D} (hp : Pur n p) (hn : n ≤ 1000) (h0 : ts ≠ []) (hl : ts.length ≤ 1000) : ∃ d ∈ ts, ∃ p', pf__law_pick.sem [p, .list ts] = some (.ok (false, d), p') ∧ Pur (n + 1) p' := by
  have hpos : 0 < ts.length := List.length_pos_iff.mpr h0
  obtain ⟨dg, p', e, g0, g1, hp'⟩ := s_take (m := (ts.length : Int)) hp hn (by omega) (by omega)
  obtain ⟨d, hd, ix⟩ := ixL g0 g1
  obtain ⟨a, b, c, rfl, _⟩ := hp
  obtain ⟨a', b', c', rfl, q⟩ := hp'
  refine ⟨d, hd, .list [.int a', .int b', .int c'], ?_, ⟨a', b', c', rfl, q⟩⟩
  have mk : maskOk 0 [none, some (PyData.int (ts.length : Int))] = true := rfl
  simp -implicitDefEqProofs [pf__law_pick, pb__law_pick, slots0_io, N__law_pick, unLen, mk, e, ix]
theorem cut_sub {ds : List D} {lo hi : Option Int} {d : D} (h : d ∈ cutD ds lo hi) : d ∈ ds := by
  unfold Vm.cutD at h
  exact List.mem_of_mem_drop (List.mem_of_mem_take h)
theorem cut_len {ds : List D} {lo hi : Option Int} : (cutD ds lo hi).length ≤ ds.length := by
  unfold Vm.cutD
  rw [List.length_take, List.length_drop]
  omega
theorem s_spring (ns : List Int) (at_ : Nat) (hl : ns.length ≤ 63) (ha : at_ ≤ 100) : ∃ p, pf__law_spring.sem [.list (ns.map .int), .int at_] = some (.ok (true, p), .none) ∧ Pur 0 p := by
  have hc := cut_len (ds := ns.map PyData.int) (lo := none) (hi := some 63)
  rw [List.length_map] at hc
  have hcm : ∀ d ∈ cutD (ns.map PyData.int) none (some 63), ∃ z, d = .int z := fun d hd => by
    obtain ⟨z, _, rfl⟩ := List.mem_map.mp (cut_sub hd)
    exact ⟨z, rfl⟩
  generalize hcd : cutD (ns.map PyData.int) none (some 63) = cs at hc hcm
  have sl : opSl (.list (ns.map PyData.int)) none (some 63) = some (.f (.list cs)) := by rw [← hcd]; rfl
  have q1 := mul_of (mulL (a := 7001) (b := (cs.length : Int)) (by decide) (by decide))
  have q2 := mul_of (mulL (a := 15731) (b := (at_ : Int)) (by decide) (by decide))
  have e30 : opPow (.int 10) (.int 30) = some (.v (.int (10 ^ 30))) := pow_of (b := 10) (e := 30) p10 (by decide)
  have e18 : opPow (.int 10) (.int 18) = some (.v (.int (10 ^ 18))) := pow_of (b := 10) (e := 18) p10 (by decide)
  -- the loop
  have lp := for_inv (g := gN 3) (f := sSet 2 (eBin opMod (eUn unInt (eBin opAdd (eBin opAdd (eBin opMul (eVar 2) (eC (.int 1000003))) (eBin opMul (eUn unInt (eVar 3)) (eC (.int 69069)))) (eC (.int 12345)))) (eBin opAdd (eBin opPow (eC (.int 10)) (eC (.int 30))) (eC (.int 57)))))
    (fun r ρ => ∃ (mx : Int) (cl : Sl), ρ = [.val (.list (ns.map .int)), .val (.int at_), .val (.int mx), cl, .emp] ∧ freeB (some cl) = true ∧ 0 ≤ mx ∧ mx < 10 ^ 30 + 57) cs
    [.val (.list (ns.map .int)), .val (.int at_), .val (.int (905969 + 7001 * (cs.length : Int) + 15731 * at_)), .emp, .emp] ⟨_, .emp, rfl, rfl, by omega, by omega⟩ (fun d r ρ ⟨mx, cl, e, hf, h0, h1⟩ hd => by
      obtain ⟨z, rfl⟩ := hcm d hd
      subst e
      have q3 := mul_of (mulR (a := mx) (b := 1000003) (by decide) (by decide))
      have q4 := mul_of (mulR (a := z) (b := 69069) (by decide) (by decide))
      have m1 := mod_of (a := mx * 1000003 + z * 69069 + 12345) (b := 10 ^ 30 + 57) (by decide)
      have o1 := Int.emod_nonneg (mx * 1000003 + z * 69069 + 12345) (b := 10 ^ 30 + 57) (by decide)
      have o2 := Int.emod_lt_of_pos (mx * 1000003 + z * 69069 + 12345) (b := 10 ^ 30 + 57) (by decide)
      generalize (mx * 1000003 + z * 69069 + 12345) % (10 ^ 30 + 57) = mx' at m1 o1 o2
      refine ⟨[.val (.list (ns.map .int)), .val (.int at_), .val (.int mx), .val (.int z), .emp], [.val (.list (ns.map .int)), .val (.int at_), .val (.int mx'), .val (.int z), .emp], ?_, ?_, mx', .val (.int z), rfl, rfl, o1, o2⟩
      · simp -implicitDefEqProofs [hf]
      · clear o2 h1
        generalize (10 : Int) ^ 30 = t at *
        simp -implicitDefEqProofs [q3, q4, un_int, add_int, e30, m1])
  obtain ⟨ρ', e, mx, cl, rfl, hf, h0, h1⟩ := lp
  have hatl : ∃ own : Int, 0 ≤ own ∧ ∀ cl, eIf (Vm.tB (eBin opLt (eVar 1) (eUn unLen (eVar 0)))) (eUn unAbs (eUn unInt (eBin opIx (eVar 0) (eVar 1)))) (eC (.int 0)) [.val (.list (ns.map .int)), .val (.int at_), .val (.int mx), cl, .emp] = some (.ok (.v (.int own)), [.val (.list (ns.map .int)), .val (.int at_), .val (.int mx), cl, .emp]) := by
    by_cases hlt : (at_ : Int) < (ns.length : Int)
    · obtain ⟨d, hd, ix⟩ := ixL (ds := ns.map PyData.int) (i := (at_ : Int)) (by omega) (by rw [List.length_map]; exact hlt)
      obtain ⟨z, _, rfl⟩ := List.mem_map.mp hd
      have g1 : decide ((at_ : Int) < (ns.length : Int)) = true := decide_eq_true hlt
      refine ⟨if z < 0 then -z else z, by split <;> omega, fun cl => ?_⟩
      simp -implicitDefEqProofs [unLen, lt2, g1, ix, un_int, unAbs]
      intro q; omega
    · have g1 : decide ((at_ : Int) < (ns.length : Int)) = false := decide_eq_false hlt
      exact ⟨0, by omega, fun cl => by
        simp -implicitDefEqProofs [unLen, lt2, g1]
        intro q; omega⟩
  obtain ⟨own, ho, he⟩ := hatl
  have mxo : opMax (.int 0) (.int (own - 10 ^ 18)) = some (.v (.int (if own - 10 ^ 18 > 0 then own - 10 ^ 18 else 0))) := rfl
  refine ⟨.list [.int (if own - 10 ^ 18 > 0 then own - 10 ^ 18 else 0), .int mx, .int 0], ?_, ⟨_, mx, 0, rfl, by split <;> omega, h0, h1, by omega, by omega⟩⟩
  clear h1
  generalize (if own - 10 ^ 18 > 0 then own - 10 ^ 18 else 0) = w at *
  generalize (10 : Int) ^ 18 = t18 at *
  have su : opSub (.int own) (.int t18) = some (.v (.int (own - t18))) := rfl
  simp -implicitDefEqProofs [-p_if, pf__law_spring, pb__law_spring, slots0_none, N__law_spring, sl, unLen, q1, q2, add_int, e, he, e18, su, mxo]
end K01
end

section
set_option maxRecDepth 100000
set_option maxHeartbeats 4000000
namespace K01
open PySem PySem.Spec PyProof.Rows L2 Vm
theorem fitT {n : Nat} {xs : List D} (h : ∀ x ∈ xs, fit n x = true) (hl : xs.length ≤ 1000) : fit (n + 1) (.tuple xs) = true := by
  show (decide (xs.length ≤ 1000) && xs.all (fit n)) = true
  rw [Bool.and_eq_true, decide_eq_true_eq, List.all_eq_true]
  exact ⟨hl, h⟩
theorem fitL {n : Nat} {xs : List D} (h : ∀ x ∈ xs, fit n x = true) (hl : xs.length ≤ 1000) : fit (n + 1) (.list xs) = true := by
  show (decide (xs.length ≤ 1000) && xs.all (fit n)) = true
  rw [Bool.and_eq_true, decide_eq_true_eq, List.all_eq_true]
  exact ⟨hl, h⟩
theorem fit2 {n : Nat} {a b : D} (ha : fit n a = true) (hb : fit n b = true) : fit (n + 1) (.tuple [a, b]) = true := fitT (by simp [ha, hb]) (by simp)
abbrev Ev0 (p wd : D) : Ev := [.own .io p, .val wd, .emp, .emp, .emp, .emp, .emp, .emp]
theorem Pur.list {n : Nat} {p : D} (h : Pur n p) : ∃ ds, p = .list ds := by
  obtain ⟨a, b, c, rfl, _⟩ := h
  exact ⟨_, rfl⟩
theorem c_letters (wd : D) : ∀ (ws acc : List D) (p : D) (n : Nat), Pur n p → (∀ w ∈ ws, fit 0 w = true) → n + ws.length ≤ 1000 →
    ∃ ls p', compL [7] (gN 7) tYesF (eTup (aCons (eVar 7) (aCons (eCallIo pf__law_take 0 0 (npOk 2 (rIo 0 (rCons (eC (.int 4)) rNil)))) aNil))) ws acc (Ev0 p wd) = some (acc ++ ls, Ev0 p' wd) ∧ Pur (n + ws.length) p' ∧ ls.length = ws.length ∧ ∀ l ∈ ls, fit 1 l = true
  | [], acc, p, n, hp, _, _ => ⟨[], p, by simp [compL], by simpa using hp, rfl, by simp⟩
  | w :: r, acc, p, n, hp, hw, hn => by
    obtain ⟨dg, p1, e, g0, g1, hp1⟩ := s_take (m := 4) hp (by simp at hn; omega) (by decide) (by decide)
    obtain ⟨ls, p', e2, hp', hl, hf⟩ := c_letters wd r (acc ++ [.tuple [w, .int dg]]) p1 (n + 1) hp1 (fun x hx => hw x (List.mem_cons_of_mem _ hx)) (by simp at hn; omega)
    refine ⟨.tuple [w, .int dg] :: ls, p', ?_, by rw [List.length_cons, ← Nat.add_assoc, Nat.add_right_comm]; exact hp', by simp [hl], fun l h => ?_⟩
    · obtain ⟨a, b, c, rfl, _⟩ := hp
      obtain ⟨ds, rfl⟩ := hp1.list
      have mk : maskOk 0 [none, some (PyData.int 4)] = true := rfl
      rw [compL]
      simp -implicitDefEqProofs [mk, e, canWipe, notOwn, wipeE]
      rw [e2]
      simp
    · rcases List.mem_cons.mp h with rfl | h
      · exact fit2 (hw w List.mem_cons_self) rfl
      · exact hf l h
theorem fit_lit {n : Nat} {d : D} (h : fit 3 d = true) : fit (n + 3) d = true := fit_up h (by omega)

abbrev BV : SF := sSet 3 (eBin opAdd (eVar 3) (eLst (aCons (eTup (aCons (eBin opAdd (eBin opAdd (eSl (eVar 2) (oNo) (oInt (eVar 5))) (eTup (aCons (eVar 4) (aNil)))) (eSl (eVar 2) (oInt (eBin opAdd (eVar 5) (eC (.int 1)))) (oNo))) (aCons (eVar 6) (aNil)))) (aCons (eTup (aCons (eBin opAdd (eVar 2) (eTup (aCons (eVar 4) (aNil)))) (aCons (eVar 6) (aNil)))) (aNil)))))
abbrev EvV (p wd : D) (ls : List D) (fs : List D) (cl : Sl) (k : Int) (kd : D) : Ev := [.own .io p, .val wd, .val (.tuple ls), .own .mine (.list fs), cl, .val (.int k), .val kd, .emp]
theorem free_of {cl : Sl} (h : notOwn (some cl) = true) : freeB (some cl) = true := by
  cases cl with
  | own b d => cases h
  | _ => rfl
theorem addT {a b : List D} (h : a.length + b.length ≤ 1000) : opAdd (.tuple a) (.tuple b) = some (.v (.tuple (a ++ b))) := by
  show (if a.length + b.length ≤ sizeLine then some (RV.v (.tuple (a ++ b))) else none) = _
  rw [if_pos (small h)]
theorem addL {a b : List D} (h : a.length + b.length ≤ 1000) : opAdd (.list a) (.list b) = some (.f (.list (a ++ b))) := by
  show (if a.length + b.length ≤ sizeLine then some (RV.f (.list (a ++ b))) else none) = _
  rw [if_pos (small h)]
theorem slT {a : List D} {lo hi : Option Int} : opSl (.tuple a) lo hi = some (.v (.tuple (Vm.cutD a lo hi))) := rfl
theorem c_loop (p wd : D) (ls : List D) (k : Int) (kd : D) (hls : ∀ x ∈ ls, fit 4 x = true) (hll : ls.length ≤ 5) (hkd : fit 5 kd = true) : ∀ (os fs : List D) (cl : Sl), notOwn (some cl) = true → (∀ o ∈ os, fit 4 o = true) → (∀ f ∈ fs, fit 6 f = true) → fs.length + 2 * os.length ≤ 800 →
    ∃ fs' cl', forL (gN 4) BV os (EvV p wd ls fs cl k kd) = some (.nx, EvV p wd ls fs' cl' k kd) ∧ notOwn (some cl') = true ∧ (∀ f ∈ fs', fit 6 f = true) ∧ fs'.length ≤ fs.length + 2 * os.length
  | [], fs, cl, hf, _, h, _ => ⟨fs, cl, rfl, hf, h, by simp⟩
  | o :: r, fs, cl, hf, ho, h, hl => by
    have l1 := cut_len (ds := ls) (lo := none) (hi := some k)
    have l2 := cut_len (ds := ls) (lo := some (k + 1)) (hi := none)
    have m1 : ∀ x ∈ Vm.cutD ls none (some k), fit 4 x = true := fun x hx => hls x (cut_sub hx)
    have m2 : ∀ x ∈ Vm.cutD ls (some (k + 1)) none, fit 4 x = true := fun x hx => hls x (cut_sub hx)
    have ho1 := ho o List.mem_cons_self
    generalize hc1 : Vm.cutD ls none (some k) = c1 at l1 m1
    generalize hc2 : Vm.cutD ls (some (k + 1)) none = c2 at l2 m2
    have s1 : opSl (.tuple ls) none (some k) = some (.v (.tuple c1)) := by rw [slT, hc1]
    have s2 : opSl (.tuple ls) (some (k + 1)) none = some (.v (.tuple c2)) := by rw [slT, hc2]
    have a1 := addT (a := c1) (b := [o]) (by simp; omega)
    have a2 := addT (a := c1 ++ [o]) (b := c2) (by simp; omega)
    have a3 := addT (a := ls) (b := [o]) (by simp; omega)
    have f1 : fit 6 (.tuple [.tuple (c1 ++ [o] ++ c2), kd]) = true := fit2 (fitT (n := 4) (fun x hx => by
      rcases List.mem_append.mp hx with hx | hx
      · rcases List.mem_append.mp hx with hx | hx
        · exact m1 x hx
        · rw [List.mem_singleton.mp hx]; exact ho1
      · exact m2 x hx) (by simp; omega)) hkd
    have f2 : fit 6 (.tuple [.tuple (ls ++ [o]), kd]) = true := fit2 (fitT (n := 4) (fun x hx => by
      rcases List.mem_append.mp hx with hx | hx
      · exact hls x hx
      · rw [List.mem_singleton.mp hx]; exact ho1) (by simp; omega)) hkd
    generalize c1 ++ [o] ++ c2 = t1 at *
    generalize ls ++ [o] = t2 at *
    have a4 := addL (a := fs) (b := [.tuple [.tuple t1, kd], .tuple [.tuple t2, kd]]) (by simp at hl ⊢; omega)
    obtain ⟨fs', cl', e, g1, g2, g3⟩ := c_loop p wd ls k kd hls hll hkd r (fs ++ [.tuple [.tuple t1, kd], .tuple [.tuple t2, kd]]) (.val o) rfl (fun x hx => ho x (List.mem_cons_of_mem _ hx)) (fun f hf => by
      rcases List.mem_append.mp hf with hf | hf
      · exact h f hf
      · rcases List.mem_cons.mp hf with rfl | hf
        · exact f1
        · rw [List.mem_singleton.mp hf]; exact f2) (by simp at hl ⊢; omega)
    refine ⟨fs', cl', ?_, g1, g2, by simp at g3 ⊢; omega⟩
    have t : BV [.own .io p, .val wd, .val (.tuple ls), .own .mine (.list fs), .val o, .val (.int k), .val kd, .emp] = some (.nx, EvV p wd ls (fs ++ [.tuple [.tuple t1, kd], .tuple [.tuple t2, kd]]) (.val o) k kd) := by
      simp -implicitDefEqProofs only [BV, p_set, p_bin, p_var, p_lst, p_aCons, p_aNil, p_tup, p_sl, p_oNo, p_oInt, p_C, p_bE_ok, p_bS_ok, List.getElem?_cons_zero, List.getElem?_cons_succ, p_slVal, p_slOwn, p_rdv, p_rdf, p_rds, p_slDo, p_slDv, p_holdv, p_holdf, p_holds, p_opt2, p_intR, p_slS, s1, s2, add_int, Option.map_some, p_standv, p_standE, List.length_cons, List.length_nil, p_size, Nat.reduceAdd, Nat.reduceLeDiff, if_true, a1, a2, a3, a4, p_putf, p_freeM, p_ifSt, List.set_cons_succ, List.set_cons_zero]
    rw [p_forC]
    have g : gN 4 o (EvV p wd ls fs cl k kd) = some [.own .io p, .val wd, .val (.tuple ls), .own .mine (.list fs), .val o, .val (.int k), .val kd, .emp] := by
      show ifG (freeB (some cl)) _ = _
      rw [free_of hf]; rfl
    rw [g, p_gD, t, p_turnN, e]
end K01
end

section
set_option maxRecDepth 100000
set_option maxHeartbeats 4000000
namespace K01
open PySem PySem.Spec PyProof.Rows L2 Vm
abbrev WL : List D := [.list [.str "a", .str "f"], .list [.str "o", .str "s"], .list [.str "a", .str "b", .str "cc"], .list [.str "abcdefgh", .str "z"], .list [.str "e"], .list [.str "a", .str "ab", .str "b", .str "ba", .str "c"]]
theorem wl_ok {d : D} (h : d ∈ WL) : ∃ ws, d = .list ws ∧ (∀ w ∈ ws, fit 0 w = true) ∧ 1 ≤ ws.length ∧ ws.length ≤ 5 := by
  have key : WL.all (fun d => match d with | .list ws => ws.all (fit 0) && decide (1 ≤ ws.length) && decide (ws.length ≤ 5) | _ => false) = true := by decide +kernel
  rw [List.all_eq_true] at key
  have := key d h
  cases d with
  | list ws =>
    have this : (ws.all (fit 0) && decide (1 ≤ ws.length) && decide (ws.length ≤ 5)) = true := this
    rw [Bool.and_eq_true, Bool.and_eq_true, List.all_eq_true, decide_eq_true_eq, decide_eq_true_eq] at this
    exact ⟨ws, rfl, this.1.1, this.1.2, this.2⟩
  | _ => cases this
abbrev KL : List D := [.str "finite", .str "endless"]
theorem kl_ok {d : D} (h : d ∈ KL) : fit 0 d = true := by
  have key : KL.all (fit 0) = true := by decide +kernel
  rw [List.all_eq_true] at key
  exact key d h
theorem mine_add {fs gs : List D} {n : Nat} (h : fs.length + gs.length ≤ n) (hn : n ≤ 1000) : opAdd (.list fs) (.list gs) = some (.f (.list (fs ++ gs))) := addL (by omega)
theorem s_values {p : D} (hp : Pur 0 p) : ∃ vs p', pf__law_values.sem [p] = some (.ok (true, .list vs), p') ∧ (∀ v ∈ vs, fit 6 v = true) ∧ vs.length ≤ 1000 := by
  obtain ⟨wd, hwd, p1, e1, hp1⟩ := s_pick (ts := WL) hp (by decide) (by simp) (by simp)
  obtain ⟨ws, rfl, hw, hw1, hw2⟩ := wl_ok hwd
  obtain ⟨ls, p2, e2, hp2, hl, hf⟩ := c_letters (.list ws) ws [] p1 1 hp1 hw (by omega)
  obtain ⟨k, p3, e3, k0, k1, hp3⟩ := s_take (m := (ls.length : Int)) hp2 (by omega) (by omega) (by omega)
  obtain ⟨kd, hkd, p4, e4, hp4⟩ := s_pick (ts := KL) hp3 (by omega) (by simp) (by simp)
  have hk0 := kl_ok hkd
  obtain ⟨d0', rfl⟩ := hp.list
  obtain ⟨d1', rfl⟩ := hp1.list
  obtain ⟨d2', rfl⟩ := hp2.list
  obtain ⟨d3', rfl⟩ := hp3.list
  obtain ⟨d4', rfl⟩ := hp4.list
  rw [List.nil_append] at e2
  have mk : ∀ x, maskOk 0 [none, some x] = true := fun x => rfl
  have f4 : ∀ x ∈ ls, fit 4 x = true := fun x hx => fit_up (hf x hx) (by decide)
  have e10 : opPow (.int 10) (.int 30) = some (.v (.int (10 ^ 30))) := pow_of (b := 10) (e := 30) p10 (by decide)
  obtain ⟨n30, hN⟩ : ∃ n : Int, n = 10 ^ 30 := ⟨_, rfl⟩
  rw [← hN] at e10
  have sl1 : opSl (.tuple ls) none (some 1) = some (.v (.tuple (Vm.cutD ls none (some 1)))) := rfl
  have cl1 := cut_len (ds := ls) (lo := none) (hi := some 1)
  have cm1 : ∀ x ∈ Vm.cutD ls none (some 1), fit 4 x = true := fun x hx => f4 x (cut_sub hx)
  generalize Vm.cutD ls none (some 1) = c1 at sl1 cl1 cm1
  have a1 := addT (a := ls) (b := c1) (by omega)
  -- the beginning
  let F0 : List D := [.tuple [.tuple ls, kd], .tuple [.none, kd], .tuple [.tuple ls, .str "finite"], .tuple [.tuple ls, .str "endless"], .tuple [.tuple ls.reverse, kd], .tuple [.tuple (ls ++ c1), kd]]
  let F1 : List D := [.tuple [.list ls, kd], .list [.tuple ls, kd], .tuple [.tuple ls], .tuple [.tuple ls, kd, kd]]
  let OS : List D := [.none, .str "a", .tuple [.str "a"], .tuple [.str "", .int 1], .tuple [.str "abcdefghi", .int 0], .tuple [.str "A", .int 1], .tuple [.str "a1", .int 0], .tuple [.str "a", .int (-1)], .tuple [.str "a", .bool true], .tuple [.str "a", .none], .tuple [.str "a", .int n30], .list [.str "a", .int 0], .tuple [.str "zz", .int 0], .tuple [.str "zz", .int 3], .tuple [.str "a", .int 0, .int 0]]
  have hkd5 : ∀ n, fit n kd = true := fun n => fit_up hk0 (Nat.zero_le _)
  have hT : fit 5 (.tuple ls) = true := fitT f4 (by omega)
  have hL : fit 5 (.list ls) = true := fitL f4 (by omega)
  have hR : fit 5 (.tuple ls.reverse) = true := fitT (fun x hx => f4 x (List.mem_reverse.mp hx)) (by simp; omega)
  have hC : fit 5 (.tuple (ls ++ c1)) = true := fitT (fun x hx => (List.mem_append.mp hx).elim (f4 x) (cm1 x)) (by simp; omega)
  have s1 : fit 5 (.str "finite") = true := by decide +kernel
  have s2 : fit 5 (.str "endless") = true := by decide +kernel
  have hF : ∀ f ∈ F0 ++ F1, fit 6 f = true := by
    intro f hf
    simp only [F0, F1, List.cons_append, List.nil_append, List.mem_cons, List.not_mem_nil, or_false] at hf
    rcases hf with rfl | rfl | rfl | rfl | rfl | rfl | rfl | rfl | rfl | rfl
    · exact fit2 hT (hkd5 _)
    · exact fit2 rfl (hkd5 _)
    · exact fit2 hT s1
    · exact fit2 hT s2
    · exact fit2 hR (hkd5 _)
    · exact fit2 hC (hkd5 _)
    · exact fit2 hL (hkd5 _)
    · exact fitL (by simp [hT, hkd5]) (by simp)
    · exact fitT (by simp [hT]) (by simp)
    · exact fitT (by simp [hT, hkd5]) (by simp)
  have hO : ∀ o ∈ OS, fit 4 o = true := by
    have : OS.all (fit 4) = true := by simp only [OS]; rw [hN]; decide +kernel
    rw [List.all_eq_true] at this
    exact this
  obtain ⟨fs', cl', e5, g1, g2, g3⟩ := c_loop (.list d4') (.list ws) ls k kd f4 (by omega) (hkd5 _) OS (F0 ++ F1) .emp rfl hO hF (by simp [F0, F1, OS])
  have g4 : fs'.length ≤ 40 := by simp [F0, F1, OS] at g3; omega
  let O6 : List D := [.str "Finite", .str "", .none, .int 0, .tuple [.str "finite"], .str "open"]
  let X6 : List D := [.none, .tuple [], .int 7, .str "world", .bool true, .tuple [.tuple [], kd]]
  let Y3 : List D := [.tuple [.tuple [.tuple [.str "a", .int 0], .tuple [.str "b", .int 0]], .str "finite"], .tuple [.tuple [.tuple [.str "a", .int 1], .tuple [.str "b", .int 2]], .str "finite"], .tuple [.tuple [.tuple [.str "a", .int 0], .tuple [.str "b", .int 0]], .str "endless"]]
  have c6 : compL [4] (gN 4) tYesF (eTup (aCons (eVar 2) (aCons (eVar 4) aNil))) O6 [] (EvV (.list d4') (.list ws) ls fs' .emp k kd) = some (O6.map (fun o => .tuple [.tuple ls, o]), EvV (.list d4') (.list ws) ls fs' .emp k kd) := by
    rw [comp_all (fun o => .tuple [.tuple ls, o])]
    · rfl
    · intro o ho
      exact ⟨EvV (.list d4') (.list ws) ls fs' (.val o) k kd, rfl, ⟨.v (.tuple [.tuple ls, o]), by simp -implicitDefEqProofs, rfl⟩, rfl, rfl⟩
  have hO6 : ∀ o ∈ O6, fit 5 o = true := by
    have : O6.all (fit 5) = true := by decide +kernel
    rw [List.all_eq_true] at this
    exact this
  have hX6 : ∀ o ∈ X6, fit 6 o = true := by
    intro f hf
    simp only [X6, List.mem_cons, List.not_mem_nil, or_false] at hf
    rcases hf with rfl | rfl | rfl | rfl | rfl | rfl
    · rfl
    · rfl
    · rfl
    · decide +kernel
    · rfl
    · exact fit2 rfl (hkd5 _)
  have hY3 : ∀ o ∈ Y3, fit 6 o = true := by
    have : Y3.all (fit 6) = true := by decide +kernel
    rw [List.all_eq_true] at this
    exact this
  have q1 := addL (a := F0) (b := F1) (by simp [F0, F1])
  have q2 := addL (a := fs') (b := O6.map fun o => .tuple [.tuple ls, o]) (by simp [O6]; omega)
  have q3 := addL (a := fs' ++ O6.map fun o => .tuple [.tuple ls, o]) (b := X6) (by simp [O6, X6]; omega)
  have q4 := addL (a := fs' ++ (O6.map fun o => .tuple [.tuple ls, o]) ++ X6) (b := Y3) (by simp [O6, X6, Y3]; omega)
  refine ⟨fs' ++ (O6.map fun o => .tuple [.tuple ls, o]) ++ X6 ++ Y3, .list d4', ?_, fun v hv => ?_, by simp [O6, X6, Y3]; omega⟩
  · have cw : canWipe [4] (EvV (.list d4') (.list ws) ls fs' cl' k kd) = true := by
      show (notOwn (some cl') && true) = true
      rw [g1]; rfl
    generalize hM : (O6.map fun o => PyData.tuple [.tuple ls, o]) = M6 at *
    generalize hFF : F0 ++ F1 = FF at q1 e5
    simp -implicitDefEqProofs only [F0, F1, OS, O6, X6, Y3, EvV, BV] at q1 q2 q3 q4 e5 c6
    simp -implicitDefEqProofs [pf__law_values, pb__law_values, slots0_io, N__law_values, mk, e1, e2, e3, e4, canWipe, notOwn, wipeE, restE, unTuple, unLen, unRev, unRevT, unList, sl1, a1, unNeg, e10, q1, -p_forC, -p_for]
    simp -implicitDefEqProofs [p_for, -p_forC, unNeg, e10, e5]
    have cw' : canWipe [4] [Sl.own Md.io (PyData.list d4'), Sl.val (PyData.list ws), Sl.val (PyData.tuple ls), Sl.own Md.mine (PyData.list fs'), cl', Sl.val (PyData.int k), Sl.val kd, Sl.emp] = true := cw
    rw [if_pos cw']
    simp -implicitDefEqProofs only [wipeE, List.set_cons_succ, List.set_cons_zero]
    rw [c6]
    simp -implicitDefEqProofs [restE, compE, q2, q3, q4, -List.append_assoc, X6, Y3]
    simp only [List.append_assoc, List.cons_append, List.nil_append]
  · rcases List.mem_append.mp hv with hv | hv
    · rcases List.mem_append.mp hv with hv | hv
      · rcases List.mem_append.mp hv with hv | hv
        · exact g2 v hv
        · obtain ⟨o, ho, rfl⟩ := List.mem_map.mp hv
          exact fit2 hT (hO6 o ho)
      · exact hX6 v hv
    · exact hY3 v hv
end K01
end

section
set_option maxRecDepth 100000
set_option maxHeartbeats 4000000
namespace K01
open PySem PySem.Spec PyProof.Rows L2 Vm
abbrev T1 : SF := sSeq (sSet 7 (eCall pf__law_is_world (npOk 1 (rCons (eVar 5) (rNil))))) (sIf (Vm.tOr (Vm.tNot (tE (eCall (pf__law_same 6) (npOk 2 (rCons (eLst (aCons (eCall pf_is_world (npOk 1 (rCons (eVar 5) (rNil)))) (aCons (eCallK pf_is_world 1 0 1 [0] (rNil) (rCons (eVar 5) (rNil))) (aNil)))) (rCons (eLst (aCons (eVar 7) (aCons (eVar 7) (aNil)))) (rNil))))))) (Vm.tAnd (Vm.tNot (tE (eVar 7))) (tB (eBin opNe (eLc [10] (gN 10) (tYesF) (eCall pf__law_word (npOk 2 (rCons (eVar 10) (rCons (eVar 5) (rNil))))) (iR1 (eC (.int 3)))) (eBin opMul (eLst (aCons (eC (.str "world")) (aNil))) (eC (.int 3))))))) (sRt (eC (.bool false))) (sNx))
abbrev EvL (S c1 c3 c4 c5 c6 c7 c8 c9 c10 : Sl) : Ev := [S, c1, .emp, c3, c4, c5, c6, c7, c8, c9, c10]
abbrev fr (s : Sl) : Prop := freeB (some s) = true
abbrev no (s : Sl) : Prop := notOwn (some s) = true
theorem same2 (b : Bool) : (pf__law_same 6).sem [.list [.bool b, .bool b], .list [.bool b, .bool b]] = some (.ok (false, .bool true), .none) := s_same_bools 4 [b, b] (by simp)
abbrev W3 : D := .list [.str ("world" : Str), .str "world", .str "world"]
theorem w3 : opMul (.list [.str ("world" : Str)]) (.int 3) = some (.f W3) := rfl
theorem w3ne : opNe W3 W3 = some (.v (.bool false)) := by
  have : shp W3 = true := by decide +kernel
  have e : PyData.eqv W3 W3 = true := by decide +kernel
  unfold opNe
  rw [this, e]; rfl
theorem r3 {ρ : Ev} : rngI (rngOf (some (.int 0)) (some (.int 3))) ρ = some (.ok ([.int 0, .int 1, .int 2], none), ρ) := rngI_nat (lo := 0) (hi := 3) (by decide) (by decide)
theorem c_word {S c1 c3 c4 c6 c7 c8 c9 : Sl} {v : D} (h : fit 6 v = true) (hb : worldB v = false) :
    compL [10] (gN 10) tYesF (eCall pf__law_word (npOk 2 (rCons (eVar 10) (rCons (eVar 5) rNil)))) [.int 0, .int 1, .int 2] [] (EvL S c1 c3 c4 (.val v) c6 c7 c8 c9 .emp) = some ([.str ("world" : Str), .str "world", .str "world"], EvL S c1 c3 c4 (.val v) c6 c7 c8 c9 .emp) := by
  have w0 : pf__law_word.sem [.int 0, v] = _ := s_law_word v h hb 0 (by decide)
  have w1 : pf__law_word.sem [.int 1, v] = _ := s_law_word v h hb 1 (by decide)
  have w2 : pf__law_word.sem [.int 2, v] = _ := s_law_word v h hb 2 (by decide)
  have io : pf__law_word.io = none := rfl
  simp -implicitDefEqProofs [compL, w0, w1, w2, canWipe, notOwn, wipeE]
theorem turn1 {S c1 c3 c4 c5 c6 c7 c8 c9 c10 : Sl} {v : D} (h : fit 6 v = true) (h5 : fr c5) (h7 : fr c7) (h10 : no c10) :
    ∃ ρ1, gN 5 v (EvL S c1 c3 c4 c5 c6 c7 c8 c9 c10) = some ρ1 ∧ T1 ρ1 = some (.nx, EvL S c1 c3 c4 (.val v) c6 (.val (.bool (worldB v))) c8 c9 c10) := by
  refine ⟨EvL S c1 c3 c4 (.val v) c6 c7 c8 c9 c10, ?_, ?_⟩
  · show ifG (freeB (some c5)) _ = _
    rw [h5]; rfl
  · have e1 := s_law_is_world v h (by decide)
    have e2 := s_is_world v h
    have e3 := same2 (worldB v)
    have hf7 : freeB (some c7) = true := h7
    cases hb : worldB v with
    | true =>
      rw [hb] at e1 e2 e3
      simp -implicitDefEqProofs [e1, e2, e3, hf7, pickL]
    | false =>
      rw [hb] at e1 e2 e3
      have cw : canWipe [10] (EvL S c1 c3 c4 (.val v) c6 (.val (.bool false)) c8 c9 c10) = true := by
        show (notOwn (some c10) && true) = true
        rw [h10]; rfl
      have c := c_word (S := S) (c1 := c1) (c3 := c3) (c4 := c4) (c6 := c6) (c7 := .val (.bool false)) (c8 := c8) (c9 := c9) h hb
      simp -implicitDefEqProofs [e1, e2, e3, hf7, pickL, r3, cw]
      simp -implicitDefEqProofs only [wipeE, List.set_cons_succ, List.set_cons_zero]
      rw [c]
      simp -implicitDefEqProofs [restE, compE, w3, w3ne]
end K01
end

section
set_option maxRecDepth 100000
set_option maxHeartbeats 4000000
namespace K01
open PySem PySem.Spec PyProof.Rows L2 Vm
abbrev T2 : SF := sSeq (sSet 7 (eAnd (eCall pf__law_is_letter (npOk 1 (rCons (eVar 9) (rNil)))) (eOr (eBin opIsN (eBin opIx (eVar 6) (eC (.int 0))) (eC .none)) (eBin opIn (eVar 9) (eBin opIx (eVar 6) (eC (.int 0))))))) (sIf (Vm.tNot (tE (eCall (pf__law_same 6) (npOk 2 (rCons (eLst (aCons (eCall pf_is_letter (npOk 2 (rCons (eVar 6) (rCons (eVar 9) (rNil))))) (aCons (eCallK pf_is_letter 2 0 2 [1, 0] (rNil) (rCons (eVar 9) (rCons (eVar 6) (rNil)))) (aNil)))) (rCons (eLst (aCons (eVar 7) (aCons (eVar 7) (aNil)))) (rNil))))))) (sRt (eC (.bool false))) (sNx))
theorem ixT0 {a b : D} : opIx (.tuple [a, b]) (.int 0) = some (.v a) := by
  show (atI [a, b] 0).map RV.v = _
  rw [show atI [a, b] 0 = some a from atI_nat (i := 0) (ds := [a, b]) (by simp)]; rfl
theorem turn2 {S c1 c3 c4 c5 c7 c8 c9 c10 : Sl} {a o : D} {k : Str} (h : fit 6 (.tuple [a, .str k]) = true) (hb : worldB (.tuple [a, .str k]) = true) (ho : fit 6 o = true) (h7 : fr c7) (h9 : fr c9) :
    ∃ ρ1, gN 9 o (EvL S c1 c3 c4 c5 (.val (.tuple [a, .str k])) c7 c8 c9 c10) = some ρ1 ∧ T2 ρ1 = some (.nx, EvL S c1 c3 c4 c5 (.val (.tuple [a, .str k])) (.val (.bool (letterB o && ofWorld a o))) c8 (.val o) c10) := by
  refine ⟨EvL S c1 c3 c4 c5 (.val (.tuple [a, .str k])) c7 c8 (.val o) c10, ?_, ?_⟩
  · show ifG (freeB (some c9)) _ = _
    rw [h9]; rfl
  · have e1 := s_law_is_letter o ho
    have e2 := s_is_letter h ho (by decide) (by decide) hb
    have e3 := same2 (letterB o && ofWorld a o)
    have hf7 : freeB (some c7) = true := h7
    cases hl : letterB o with
    | false =>
      rw [hl] at e1 e2 e3
      rw [Bool.false_and] at e2 e3
      simp -implicitDefEqProofs [e1, e2, e3, hf7, pickL]
    | true =>
      rw [hl] at e1 e2 e3
      rw [Bool.true_and] at e2 e3
      obtain ⟨a', k', e, ha⟩ := world_of hb
      cases e
      rcases ha with ha | ⟨ys, rfl⟩
      · cases a with
        | none =>
          have ow : ofWorld .none o = true := rfl
          rw [ow] at e2 e3
          simp -implicitDefEqProofs [e1, e2, e3, hf7, pickL, ixT0, opIsN, isNone, ow]
        | _ => cases ha
      · have ow : ofWorld (.tuple ys) o = anyEq ys o := rfl
        rw [ow] at e2 e3
        obtain ⟨w, x, rfl⟩ := letter_tup hl
        have sv := fit_shp ho (by omega)
        obtain ⟨m', e, hh, _⟩ := fit_tup h
        cases e
        have sy := fit_shp (hh (.tuple ys) List.mem_cons_self) (by omega)
        have oi : opIn (.tuple [w, x]) (.tuple ys) = some (.v (.bool (anyEq ys (.tuple [w, x])))) := by
          simp only [opIn, sv, sy, Bool.and_self, if_true]
        simp -implicitDefEqProofs [e1, e2, e3, hf7, pickL, ixT0, opIsN, isNone, ow, oi]
end K01
end

section
set_option maxRecDepth 100000
set_option maxHeartbeats 4000000
namespace K01
open PySem PySem.Spec PyProof.Rows L2 Vm
abbrev T3 : SF := sSeq (sSet 8 (eLst (aCons (eTup (aCons (eC (.str "a")) (aCons (eC (.int 0)) (aNil)))) (aCons (eTup (aCons (eC (.str "f")) (aCons (eC (.int 2)) (aNil)))) (aCons (eTup (aCons (eC (.str "zz")) (aCons (eC (.int 3)) (aNil)))) (aCons (eTup (aCons (eC (.str "")) (aCons (eC (.int 0)) (aNil)))) (aCons (eTup (aCons (eC (.str "a")) (aCons (eUn unNeg (eC (.int 1))) (aNil)))) (aCons (eTup (aCons (eC (.str "a")) (aCons (eC (.bool true)) (aNil)))) (aCons (eLst (aCons (eC (.str "a")) (aCons (eC (.int 0)) (aNil)))) (aCons (eC (.str "a")) (aCons (eC .none) (aCons (eTup (aCons (eC (.str "a")) (aCons (eC (.int 0)) (aCons (eC (.int 0)) (aNil))))) (aCons (eTup (aCons (eC (.str "b")) (aCons (eBin opPow (eC (.int 10)) (eC (.int 30))) (aNil)))) (aCons (eTup (aCons (eC (.str "B")) (aCons (eC (.int 0)) (aNil)))) (aNil))))))))))))))) (sForI (gN 9) T2 (iSq (eBin opAdd (eVar 8) (eIf (tB (eBin opIsN (eBin opIx (eVar 6) (eC (.int 0))) (eC .none))) (eLst (aNil)) (eUn unList (eBin opIx (eVar 6) (eC (.int 0))))))))
def LS (n30 : Int) : List D := [.tuple [.str "a", .int 0], .tuple [.str "f", .int 2], .tuple [.str "zz", .int 3], .tuple [.str "", .int 0], .tuple [.str "a", .int (-1)], .tuple [.str "a", .bool true], .list [.str "a", .int 0], .str "a", .none, .tuple [.str "a", .int 0, .int 0], .tuple [.str "b", .int n30], .tuple [.str "B", .int 0]]
theorem ls_ok {o : D} (h : o ∈ LS (10 ^ 30)) : fit 6 o = true := by
  have : (LS (10 ^ 30)).all (fit 6) = true := by decide +kernel
  rw [List.all_eq_true] at this
  exact this o h
theorem loop2 {S c1 c3 c4 c5 c8 c10 : Sl} {a : D} {k : Str} (h : fit 6 (.tuple [a, .str k]) = true) (hb : worldB (.tuple [a, .str k]) = true) {os : List D} (ho : ∀ o ∈ os, fit 6 o = true) {c7 c9 : Sl} (h7 : fr c7) (h9 : no c9) :
    ∃ c7' c9', fr c7' ∧ no c9' ∧ forL (gN 9) T2 os (EvL S c1 c3 c4 c5 (.val (.tuple [a, .str k])) c7 c8 c9 c10) = some (.nx, EvL S c1 c3 c4 c5 (.val (.tuple [a, .str k])) c7' c8 c9' c10) := by
  obtain ⟨ρ', e, c7', c9', rfl, g7, g9⟩ := for_inv (g := gN 9) (f := T2) (fun _ ρ => ∃ c7 c9, ρ = EvL S c1 c3 c4 c5 (.val (.tuple [a, .str k])) c7 c8 c9 c10 ∧ fr c7 ∧ no c9) os _ ⟨c7, c9, rfl, h7, h9⟩ (by
    rintro d r ρ ⟨c7, c9, rfl, h7, h9⟩ hd
    obtain ⟨ρ1, e1, e2⟩ := turn2 (S := S) (c1 := c1) (c3 := c3) (c4 := c4) (c5 := c5) (c8 := c8) (c10 := c10) h hb (ho d hd) h7 (free_of h9)
    exact ⟨ρ1, _, e1, e2, _, _, rfl, rfl, rfl⟩)
  exact ⟨c7', c9', g7, g9, e⟩
theorem turn3 {S c1 c3 c4 c5 c6 c7 c8 c9 c10 : Sl} {a : D} {k : Str} (h : fit 6 (.tuple [a, .str k]) = true) (hb : worldB (.tuple [a, .str k]) = true) (h6 : fr c6) (h7 : fr c7) (h8 : fr c8) (h9 : no c9) :
    ∃ ρ1 c7' c8' c9', gN 6 (.tuple [a, .str k]) (EvL S c1 c3 c4 c5 c6 c7 c8 c9 c10) = some ρ1 ∧ fr c7' ∧ fr c8' ∧ no c9' ∧ T3 ρ1 = some (.nx, EvL S c1 c3 c4 c5 (.val (.tuple [a, .str k])) c7' c8' c9' c10) := by
  have e10 : opPow (.int 10) (.int 30) = some (.v (.int (10 ^ 30))) := pow_of (b := 10) (e := 30) p10 (by decide)
  have lo := fun o => @ls_ok o
  obtain ⟨n30, hN⟩ : ∃ n : Int, n = 10 ^ 30 := ⟨_, rfl⟩
  rw [← hN] at e10 lo
  obtain ⟨a', k', e, ha⟩ := world_of hb
  cases e
  have hf8 : freeB (some c8) = true := h8
  have hsz : (LS n30).length ≤ sizeLine := small (by show 12 ≤ 1000; decide)
  obtain ⟨m', e, hh, _⟩ := fit_tup h
  cases e
  have fa := hh a List.mem_cons_self
  rcases ha with ha | ⟨ys, rfl⟩
  · cases a with
    | none =>
      obtain ⟨c7', c9', g7, g9, el⟩ := loop2 (S := S) (c1 := c1) (c3 := c3) (c4 := c4) (c5 := c5) (c8 := .own .mine (.list (LS n30))) (c10 := c10) (os := LS n30) h hb (fun o ho => lo o ho) h7 h9
      have q : opAdd (.list (LS n30)) (.list []) = some (.f (.list (LS n30))) := by rw [addL (by show 12 + 0 ≤ 1000; decide), List.append_nil]
      refine ⟨EvL S c1 c3 c4 c5 (.val (.tuple [.none, .str k])) c7 c8 c9 c10, c7', .own .mine (.list (LS n30)), c9', ?_, g7, rfl, g9, ?_⟩
      · show ifG (freeB (some c6)) _ = _
        rw [h6]; rfl
      · generalize hG : LS n30 = G at *
        simp only [LS] at hG
        simp -implicitDefEqProofs [hsz, hf8, unNeg, e10, hG, ixT0, opIsN, isNone, q, el]
    | _ => cases ha
  · obtain ⟨m', e, hy, hyl⟩ := fit_tup fa
    cases e
    obtain ⟨c7', c9', g7, g9, el⟩ := loop2 (S := S) (c1 := c1) (c3 := c3) (c4 := c4) (c5 := c5) (c8 := .own .mine (.list (LS n30))) (c10 := c10) (os := LS n30 ++ ys) h hb (fun o ho => (List.mem_append.mp ho).elim (lo o) fun h => fit_up (hy o h) (by omega)) h7 h9
    have q : opAdd (.list (LS n30)) (.list ys) = some (.f (.list (LS n30 ++ ys))) := by
      show (if (LS n30).length + ys.length ≤ sizeLine then some (RV.f (.list (LS n30 ++ ys))) else none) = _
      rw [if_pos]
      show 12 + ys.length ≤ 2 ^ 24
      omega
    refine ⟨EvL S c1 c3 c4 c5 (.val (.tuple [.tuple ys, .str k])) c7 c8 c9 c10, c7', .own .mine (.list (LS n30)), c9', ?_, g7, rfl, g9, ?_⟩
    · show ifG (freeB (some c6)) _ = _
      rw [h6]; rfl
    · generalize hA : LS n30 ++ ys = A at q el
      generalize hG : LS n30 = G at *
      simp only [LS] at hG
      simp -implicitDefEqProofs [hsz, hf8, unNeg, e10, hG, ixT0, opIsN, isNone, q, el, unList]
end K01
end

section
set_option maxRecDepth 100000
set_option maxHeartbeats 4000000
namespace K01
open PySem PySem.Spec PyProof.Rows L2 Vm
abbrev TF5 : TF := Vm.tAnd (tE (eCall pf__law_is_world (npOk 1 (rCons (eVar 5) (rNil))))) (Vm.tOr (tB (eBin opIsN (eBin opIx (eVar 5) (eC (.int 0))) (eC .none))) (tB (eBin opLt (eUn unLen (eBin opIx (eVar 5) (eC (.int 0)))) (eC (.int 5)))))
def small5 : D → Bool
  | .tuple [.none, _] => true
  | .tuple [.tuple ys, _] => PySem.W.dataLt (.int (ys.length : Int)) (.int 5)
  | _ => false
def pW (d : D) : Bool := worldB d && small5 d
theorem c_pick {S c1 c3 c4 c6 c7 c8 c9 c10 : Sl} {ds : List D} (h : ∀ d ∈ ds, fit 6 d = true) :
    compL [5] (gN 5) TF5 (eVar 5) ds [] (EvL S c1 c3 c4 .emp c6 c7 c8 c9 c10) = some (ds.filter pW, EvL S c1 c3 c4 .emp c6 c7 c8 c9 c10) := by
  rw [comp_gen pW id]
  · simp
  · intro d hd
    have e1 := s_law_is_world d (h d hd) (by decide)
    refine ⟨EvL S c1 c3 c4 (.val d) c6 c7 c8 c9 c10, rfl, ?_, fun _ => ⟨.v d, by simp -implicitDefEqProofs, rfl⟩, rfl, rfl⟩
    cases hb : worldB d with
    | false =>
      rw [hb] at e1
      simp -implicitDefEqProofs [e1, pW, hb]
    | true =>
      rw [hb] at e1
      obtain ⟨a, k, rfl, ha⟩ := world_of hb
      rcases ha with ha | ⟨ys, rfl⟩
      · cases a with
        | none => simp -implicitDefEqProofs [e1, pW, hb, ixT0, opIsN, isNone, small5]
        | _ => cases ha
      · have lt : opLt (.int (ys.length : Int)) (.int 5) = some (.v (.bool (PySem.W.dataLt (.int (ys.length : Int)) (.int 5)))) := by
          have a1 : PySem.W.alike (.int (ys.length : Int)) (.int 5) = true := rfl
          simp [opLt, a1, isNone]
        have ul : unLen (.tuple ys) = some (.v (.int (ys.length : Int))) := rfl
        simp -implicitDefEqProofs [e1, pW, hb, ixT0, opIsN, isNone, small5, lt, ul]
theorem loop1 {S c1 c3 c4 c6 c8 c9 c10 : Sl} {vs : List D} (hv : ∀ o ∈ vs, fit 6 o = true) {c5 c7 : Sl} (h5 : no c5) (h7 : fr c7) (h10 : no c10) :
    ∃ c5' c7', no c5' ∧ fr c7' ∧ forL (gN 5) T1 vs (EvL S c1 c3 c4 c5 c6 c7 c8 c9 c10) = some (.nx, EvL S c1 c3 c4 c5' c6 c7' c8 c9 c10) := by
  obtain ⟨ρ', e, c5', c7', rfl, g5, g7⟩ := for_inv (g := gN 5) (f := T1) (fun _ ρ => ∃ c5 c7, ρ = EvL S c1 c3 c4 c5 c6 c7 c8 c9 c10 ∧ no c5 ∧ fr c7) vs _ ⟨c5, c7, rfl, h5, h7⟩ (by
    rintro d r ρ ⟨c5, c7, rfl, h5, h7⟩ hd
    obtain ⟨ρ1, e1, e2⟩ := turn1 (S := S) (c1 := c1) (c3 := c3) (c4 := c4) (c6 := c6) (c8 := c8) (c9 := c9) (hv d hd) (free_of h5) h7 h10
    exact ⟨ρ1, _, e1, e2, _, _, rfl, rfl, rfl⟩)
  exact ⟨c5', c7', g5, g7, e⟩
theorem loop3 {S c1 c3 c4 c5 c10 : Sl} {vs : List D} (hv : ∀ o ∈ vs, fit 6 o = true ∧ worldB o = true) {c6 c7 c8 c9 : Sl} (h6 : fr c6) (h7 : fr c7) (h8 : fr c8) (h9 : no c9) :
    ∃ c6' c7' c8' c9', fr c6' ∧ fr c7' ∧ fr c8' ∧ no c9' ∧ forL (gN 6) T3 vs (EvL S c1 c3 c4 c5 c6 c7 c8 c9 c10) = some (.nx, EvL S c1 c3 c4 c5 c6' c7' c8' c9' c10) := by
  obtain ⟨ρ', e, c6', c7', c8', c9', rfl, g6, g7, g8, g9⟩ := for_inv (g := gN 6) (f := T3) (fun _ ρ => ∃ c6 c7 c8 c9, ρ = EvL S c1 c3 c4 c5 c6 c7 c8 c9 c10 ∧ fr c6 ∧ fr c7 ∧ fr c8 ∧ no c9) vs _ ⟨c6, c7, c8, c9, rfl, h6, h7, h8, h9⟩ (by
    rintro d r ρ ⟨c6, c7, c8, c9, rfl, h6, h7, h8, h9⟩ hd
    obtain ⟨hf, hb⟩ := hv d hd
    obtain ⟨a, k, rfl, _⟩ := world_of hb
    obtain ⟨ρ1, c7', c8', c9', e1, g7, g8, g9, e2⟩ := turn3 (S := S) (c1 := c1) (c3 := c3) (c4 := c4) (c5 := c5) (c10 := c10) hf hb h6 h7 h8 h9
    exact ⟨ρ1, _, e1, e2, _, _, _, _, rfl, rfl, g7, g8, g9⟩)
  exact ⟨c6', c7', c8', c9', g6, g7, g8, g9, e⟩
end K01
end

section
set_option maxRecDepth 100000
set_option maxHeartbeats 4000000
namespace K01
open PySem PySem.Spec PyProof.Rows L2 Vm
abbrev TB' : SF := sSeq (sSet 3 (eCall pf__law_spring (npOk 2 (rCons (eVar 0) (rCons (eVar 1) (rNil)))))) (sSeq (sSet 4 (eCallIo pf__law_values 0 3 (npOk 1 (rIo 3 (rNil))))) (sSeq (sForI (gN 5) T1 (iSq (eVar 4))) (sForI (gN 6) T3 (iSq (eLc [5] (gN 5) TF5 (eVar 5) (iSq (eSl (eVar 4) (oNo) (oInt (eC (.int 4))))))))))
theorem turn0 {ns : List Int} (hl : ns.length ≤ 63) {at_ : Nat} (hat : at_ ≤ 100) {c1 c3 c4 c5 c6 c7 c8 c9 c10 : Sl} (h1 : fr c1) (h3 : fr c3) (h4 : fr c4) (h5 : no c5) (h6 : fr c6) (h7 : fr c7) (h8 : fr c8) (h9 : no c9) (h10 : no c10) :
    ∃ ρ1 c1' c3' c4' c5' c6' c7' c8' c9', gN 1 (.int (at_ : Int)) (EvL (.val (.list (ns.map .int))) c1 c3 c4 c5 c6 c7 c8 c9 c10) = some ρ1 ∧ (fr c1' ∧ fr c3' ∧ fr c4' ∧ no c5' ∧ fr c6' ∧ fr c7' ∧ fr c8' ∧ no c9') ∧ TB' ρ1 = some (.nx, EvL (.val (.list (ns.map .int))) c1' c3' c4' c5' c6' c7' c8' c9' c10) := by
  obtain ⟨p, es, hp⟩ := s_spring ns at_ hl hat
  obtain ⟨vs, p', ev, hv, hvl⟩ := s_values hp
  obtain ⟨pl, rfl⟩ := hp.list
  obtain ⟨c5', c7', g5, g7, el1⟩ := loop1 (S := .val (.list (ns.map .int))) (c1 := .val (.int (at_ : Int))) (c3 := .own .mine p') (c4 := .own .lentMine (.list vs)) (c6 := c6) (c8 := c8) (c9 := c9) (c10 := c10) hv h5 h7 h10
  have hc : ∀ d ∈ Vm.cutD vs none (some 4), fit 6 d = true := fun d hd => hv d (cut_sub hd)
  have sl : opSl (.list vs) none (some 4) = some (.f (.list (Vm.cutD vs none (some 4)))) := rfl
  generalize Vm.cutD vs none (some 4) = cv at hc sl
  have ec := c_pick (S := .val (.list (ns.map .int))) (c1 := .val (.int (at_ : Int))) (c3 := .own .mine p') (c4 := .own .mine (.list vs)) (c6 := c6) (c7 := c7') (c8 := c8) (c9 := c9) (c10 := c10) hc
  obtain ⟨c6', c7'', c8', c9', k6, k7, k8, k9, el3⟩ := loop3 (S := .val (.list (ns.map .int))) (c1 := .val (.int (at_ : Int))) (c3 := .own .mine p') (c4 := .own .mine (.list vs)) (c5 := c5') (c10 := c10) (vs := cv.filter pW) (fun o ho => by
    obtain ⟨h1, h2⟩ := List.mem_filter.mp ho
    unfold pW at h2
    rw [Bool.and_eq_true] at h2
    exact ⟨hc o h1, h2.1⟩) h6 g7 h8 h9
  refine ⟨EvL (.val (.list (ns.map .int))) (.val (.int (at_ : Int))) c3 c4 c5 c6 c7 c8 c9 c10, .val (.int (at_ : Int)), .own .mine p', .own .mine (.list vs), c5', c6', c7'', c8', c9', ?_, ⟨rfl, rfl, rfl, g5, k6, k7, k8, k9⟩, ?_⟩
  · show ifG (freeB (some c1)) _ = _
    rw [h1]; rfl
  · have f3 : freeB (some c3) = true := h3
    have f4 : freeB (some c4) = true := h4
    have mk : maskOk 0 [none] = true := rfl
    have cw : canWipe [5] (EvL (.val (.list (ns.map .int))) (.val (.int (at_ : Int))) (.own .mine p') (.own .mine (.list vs)) c5' c6 c7' c8 c9 c10) = true := by
      show (notOwn (some c5') && true) = true
      rw [g5]; rfl
    simp -implicitDefEqProofs [es, ev, f3, f4, mk, Md.lend, el1, Vm.backE, sl, cw]
    simp -implicitDefEqProofs only [wipeE, List.set_cons_succ, List.set_cons_zero]
    rw [ec]
    simp -implicitDefEqProofs [restE, compE, el3]
theorem loop0 {ns : List Int} (hl : ns.length ≤ 63) {c10 : Sl} (h10 : no c10) (ds : List D) (hd : ∀ d ∈ ds, ∃ a : Nat, a ≤ 100 ∧ d = .int (a : Int)) {c1 c3 c4 c5 c6 c7 c8 c9 : Sl} (h1 : fr c1) (h3 : fr c3) (h4 : fr c4) (h5 : no c5) (h6 : fr c6) (h7 : fr c7) (h8 : fr c8) (h9 : no c9) :
    ∃ c1' c3' c4' c5' c6' c7' c8' c9', forL (gN 1) TB' ds (EvL (.val (.list (ns.map .int))) c1 c3 c4 c5 c6 c7 c8 c9 c10) = some (.nx, EvL (.val (.list (ns.map .int))) c1' c3' c4' c5' c6' c7' c8' c9' c10) := by
  obtain ⟨ρ', e, c1', c3', c4', c5', c6', c7', c8', c9', rfl, _⟩ := for_inv (g := gN 1) (f := TB') (fun _ ρ => ∃ c1 c3 c4 c5 c6 c7 c8 c9, ρ = EvL (.val (.list (ns.map .int))) c1 c3 c4 c5 c6 c7 c8 c9 c10 ∧ fr c1 ∧ fr c3 ∧ fr c4 ∧ no c5 ∧ fr c6 ∧ fr c7 ∧ fr c8 ∧ no c9) ds _ ⟨c1, c3, c4, c5, c6, c7, c8, c9, rfl, h1, h3, h4, h5, h6, h7, h8, h9⟩ (by
    rintro d r ρ ⟨c1, c3, c4, c5, c6, c7, c8, c9, rfl, h1, h3, h4, h5, h6, h7, h8, h9⟩ hm
    obtain ⟨a, ha, rfl⟩ := hd d hm
    obtain ⟨ρ1, c1', c3', c4', c5', c6', c7', c8', c9', e1, g, e2⟩ := turn0 (c10 := c10) hl ha h1 h3 h4 h5 h6 h7 h8 h9 h10
    exact ⟨ρ1, _, e1, e2, _, _, _, _, _, _, _, _, rfl, g⟩)
  exact ⟨_, _, _, _, _, _, _, _, e⟩
end K01
end

section
set_option maxRecDepth 100000
set_option maxHeartbeats 4000000
namespace K01
open PySem PySem.Spec PyProof.Rows L2 Vm
abbrev TO : D := .tuple [.tuple [.str "o", .int 0], .tuple [.str "s", .int 1]]
abbrev TS : D := .tuple [.tuple [.str "s", .int 1]]
abbrev S2 : D := .tuple [.str "s", .int 2]
theorem e_a : pf_is_world.sem [.tuple [TO, .str "finite"]] = some (.ok (false, .bool true), .none) := by
  have f : fit 6 (.tuple [TO, .str "finite"]) = true := by decide +kernel
  have b : worldB (.tuple [TO, .str "finite"]) = true := by decide +kernel
  rw [s_is_world _ f, b]
theorem e_b : pf_is_world.sem [.tuple [TS, .str "endless"]] = some (.ok (false, .bool false), .none) := by
  have f : fit 6 (.tuple [TS, .str "endless"]) = true := by decide +kernel
  have b : worldB (.tuple [TS, .str "endless"]) = false := by decide +kernel
  rw [s_is_world _ f, b]
theorem e_c : pf_is_letter.sem [.tuple [.none, .str "endless"], S2] = some (.ok (false, .bool true), .none) := by
  have f : fit (5 + 1) (.tuple [.none, .str "endless"]) = true := by decide +kernel
  have f2 : fit 5 S2 = true := by decide +kernel
  have b : worldB (.tuple [.none, .str "endless"]) = true := by decide +kernel
  have c : (letterB S2 && ofWorld .none S2) = true := by decide +kernel
  rw [s_is_letter f f2 (by decide) (by decide) b, c]
theorem e_d : pf_is_letter.sem [.tuple [TO, .str "finite"], S2] = some (.ok (false, .bool false), .none) := by
  have f : fit (5 + 1) (.tuple [TO, .str "finite"]) = true := by decide +kernel
  have f2 : fit 5 S2 = true := by decide +kernel
  have b : worldB (.tuple [TO, .str "finite"]) = true := by decide +kernel
  have c : (letterB S2 && ofWorld TO S2) = false := by decide +kernel
  rw [s_is_letter f f2 (by decide) (by decide) b, c]
theorem same4 : (pf__law_same 6).sem [.list [.bool true, .bool false, .bool true, .bool false], .list [.bool true, .bool false, .bool true, .bool false]] = some (.ok (false, .bool true), .none) := s_same_bools 4 [true, false, true, false] (by simp)
theorem slO : opSl TO (some 1) none = some (.v TS) := by rfl
theorem says : Says pf_law := by
  intro ns hl _
  have ul : unLen (.list (ns.map .int)) = some (.v (.int (ns.length : Int))) := by
    show some (RV.v (PyData.int ((ns.map PyData.int).length : Int))) = _
    rw [List.length_map]
  obtain ⟨m, hm, mi⟩ : ∃ m : Nat, m ≤ 6 ∧ opMin (.int 6) (.int (ns.length : Int)) = some (.v (.int (m : Int))) := by
    by_cases h : (ns.length : Int) < 6
    · exact ⟨ns.length, by omega, by simp only [opMin, if_pos h]⟩
    · exact ⟨6, by omega, by simp only [opMin, if_neg h]; rfl⟩
  obtain ⟨k, hk, ma⟩ : ∃ k : Nat, k ≤ 6 ∧ opMax (.int 2) (.int (m : Int)) = some (.v (.int (k : Int))) := by
    by_cases h : (m : Int) > 2
    · exact ⟨m, hm, by simp only [opMax, if_pos h]⟩
    · exact ⟨2, by omega, by simp only [opMax, if_neg h]; rfl⟩
  have rg : ∀ ρ : Ev, rngI (rngOf (some (.int 0)) (some (.int (k : Int)))) ρ = some (.ok (rangeD 0 k, none), ρ) := fun ρ => rngI_nat (lo := 0) (by decide) (by omega)
  obtain ⟨c1, c3, c4, c5, c6, c7, c8, c9, el⟩ := loop0 hl (c10 := .emp) rfl (rangeD 0 k) (fun d hd => by
    obtain ⟨a, rfl, ha⟩ := range_of (lo := 0) hd
    exact ⟨0 + a, by omega, rfl⟩) (c1 := .emp) (c3 := .emp) (c4 := .emp) (c5 := .emp) (c6 := .emp) (c7 := .emp) (c8 := .emp) (c9 := .emp) rfl rfl rfl rfl rfl rfl rfl rfl
  simp -implicitDefEqProofs [pf_law, pb_law, slots0_none, N_law, ul, mi, ma, rg, el, e_a, e_b, e_c, e_d, slO, same4]
end K01
end

section
set_option maxRecDepth 100000
set_option maxHeartbeats 4000000
namespace K01
open PySem PySem.Spec PyProof.Rows L2 Vm
theorem txt_mk {K : PySem.W.Frag} {h : Heap} {mg : Str → Option Value} (X : K.In h) (G : h.Ns mainGlobals mg)
    {f_is_integer : Addr} {od_is_integer an_is_integer : Option Addr} {sl_is_integer : Array (Option Value)} {oc_is_integer kV_is_integer dc_is_integer pm_is_integer cd_is_integer ct_is_integer : Value}
    (a_is_integer : PySem.W.nsIn K mainGlobals "is_integer" = some (some (.ref f_is_integer))) (l_is_integer : K.lookup f_is_integer = some ⟨oc_is_integer, od_is_integer, .func (PySem.W.fnOf "is_integer" "is_integer" (defArgs (top 7)) (defBody (top 7)) (defScope (top 7)) .none kV_is_integer dc_is_integer pm_is_integer an_is_integer cd_is_integer ct_is_integer), sl_is_integer⟩) (c_is_integer : PySem.W.codeIn K cd_is_integer "is_integer" = true) (k_is_integer : PySem.W.keepIn K (.ref f_is_integer) = true)
    {f_is_from : Addr} {od_is_from an_is_from : Option Addr} {sl_is_from : Array (Option Value)} {oc_is_from kV_is_from dc_is_from pm_is_from cd_is_from ct_is_from : Value}
    (a_is_from : PySem.W.nsIn K mainGlobals "is_from" = some (some (.ref f_is_from))) (l_is_from : K.lookup f_is_from = some ⟨oc_is_from, od_is_from, .func (PySem.W.fnOf "is_from" "is_from" (defArgs (top 8)) (defBody (top 8)) (defScope (top 8)) .none kV_is_from dc_is_from pm_is_from an_is_from cd_is_from ct_is_from), sl_is_from⟩) (c_is_from : PySem.W.codeIn K cd_is_from "is_from" = true) (k_is_from : PySem.W.keepIn K (.ref f_is_from) = true)
    {f_is_word : Addr} {od_is_word an_is_word : Option Addr} {sl_is_word : Array (Option Value)} {oc_is_word kV_is_word dc_is_word pm_is_word cd_is_word ct_is_word : Value}
    (a_is_word : PySem.W.nsIn K mainGlobals "is_word" = some (some (.ref f_is_word))) (l_is_word : K.lookup f_is_word = some ⟨oc_is_word, od_is_word, .func (PySem.W.fnOf "is_word" "is_word" (defArgs (top 9)) (defBody (top 9)) (defScope (top 9)) .none kV_is_word dc_is_word pm_is_word an_is_word cd_is_word ct_is_word), sl_is_word⟩) (c_is_word : PySem.W.codeIn K cd_is_word "is_word" = true) (k_is_word : PySem.W.keepIn K (.ref f_is_word) = true)
    {f_is_ascending : Addr} {od_is_ascending an_is_ascending : Option Addr} {sl_is_ascending : Array (Option Value)} {oc_is_ascending kV_is_ascending dc_is_ascending pm_is_ascending cd_is_ascending ct_is_ascending : Value}
    (a_is_ascending : PySem.W.nsIn K mainGlobals "is_ascending" = some (some (.ref f_is_ascending))) (l_is_ascending : K.lookup f_is_ascending = some ⟨oc_is_ascending, od_is_ascending, .func (PySem.W.fnOf "is_ascending" "is_ascending" (defArgs (top 10)) (defBody (top 10)) (defScope (top 10)) .none kV_is_ascending dc_is_ascending pm_is_ascending an_is_ascending cd_is_ascending ct_is_ascending), sl_is_ascending⟩) (c_is_ascending : PySem.W.codeIn K cd_is_ascending "is_ascending" = true) (k_is_ascending : PySem.W.keepIn K (.ref f_is_ascending) = true)
    {f_is_letter_form : Addr} {od_is_letter_form an_is_letter_form : Option Addr} {sl_is_letter_form : Array (Option Value)} {oc_is_letter_form kV_is_letter_form dc_is_letter_form pm_is_letter_form cd_is_letter_form ct_is_letter_form : Value}
    (a_is_letter_form : PySem.W.nsIn K mainGlobals "is_letter_form" = some (some (.ref f_is_letter_form))) (l_is_letter_form : K.lookup f_is_letter_form = some ⟨oc_is_letter_form, od_is_letter_form, .func (PySem.W.fnOf "is_letter_form" "is_letter_form" (defArgs (top 11)) (defBody (top 11)) (defScope (top 11)) .none kV_is_letter_form dc_is_letter_form pm_is_letter_form an_is_letter_form cd_is_letter_form ct_is_letter_form), sl_is_letter_form⟩) (c_is_letter_form : PySem.W.codeIn K cd_is_letter_form "is_letter_form" = true) (k_is_letter_form : PySem.W.keepIn K (.ref f_is_letter_form) = true)
    {f_told_letters_ok : Addr} {od_told_letters_ok an_told_letters_ok : Option Addr} {sl_told_letters_ok : Array (Option Value)} {oc_told_letters_ok kV_told_letters_ok dc_told_letters_ok pm_told_letters_ok cd_told_letters_ok ct_told_letters_ok : Value}
    (a_told_letters_ok : PySem.W.nsIn K mainGlobals "told_letters_ok" = some (some (.ref f_told_letters_ok))) (l_told_letters_ok : K.lookup f_told_letters_ok = some ⟨oc_told_letters_ok, od_told_letters_ok, .func (PySem.W.fnOf "told_letters_ok" "told_letters_ok" (defArgs (top 12)) (defBody (top 12)) (defScope (top 12)) .none kV_told_letters_ok dc_told_letters_ok pm_told_letters_ok an_told_letters_ok cd_told_letters_ok ct_told_letters_ok), sl_told_letters_ok⟩) (c_told_letters_ok : PySem.W.codeIn K cd_told_letters_ok "told_letters_ok" = true) (k_told_letters_ok : PySem.W.keepIn K (.ref f_told_letters_ok) = true)
    {f_world_ok : Addr} {od_world_ok an_world_ok : Option Addr} {sl_world_ok : Array (Option Value)} {oc_world_ok kV_world_ok dc_world_ok pm_world_ok cd_world_ok ct_world_ok : Value}
    (a_world_ok : PySem.W.nsIn K mainGlobals "world_ok" = some (some (.ref f_world_ok))) (l_world_ok : K.lookup f_world_ok = some ⟨oc_world_ok, od_world_ok, .func (PySem.W.fnOf "world_ok" "world_ok" (defArgs (top 13)) (defBody (top 13)) (defScope (top 13)) .none kV_world_ok dc_world_ok pm_world_ok an_world_ok cd_world_ok ct_world_ok), sl_world_ok⟩) (c_world_ok : PySem.W.codeIn K cd_world_ok "world_ok" = true) (k_world_ok : PySem.W.keepIn K (.ref f_world_ok) = true)
    {f_has_letter : Addr} {od_has_letter an_has_letter : Option Addr} {sl_has_letter : Array (Option Value)} {oc_has_letter kV_has_letter dc_has_letter pm_has_letter cd_has_letter ct_has_letter : Value}
    (a_has_letter : PySem.W.nsIn K mainGlobals "has_letter" = some (some (.ref f_has_letter))) (l_has_letter : K.lookup f_has_letter = some ⟨oc_has_letter, od_has_letter, .func (PySem.W.fnOf "has_letter" "has_letter" (defArgs (top 14)) (defBody (top 14)) (defScope (top 14)) .none kV_has_letter dc_has_letter pm_has_letter an_has_letter cd_has_letter ct_has_letter), sl_has_letter⟩) (c_has_letter : PySem.W.codeIn K cd_has_letter "has_letter" = true) (k_has_letter : PySem.W.keepIn K (.ref f_has_letter) = true)
    {f_need_world : Addr} {od_need_world an_need_world : Option Addr} {sl_need_world : Array (Option Value)} {oc_need_world kV_need_world dc_need_world pm_need_world cd_need_world ct_need_world : Value}
    (a_need_world : PySem.W.nsIn K mainGlobals "need_world" = some (some (.ref f_need_world))) (l_need_world : K.lookup f_need_world = some ⟨oc_need_world, od_need_world, .func (PySem.W.fnOf "need_world" "need_world" (defArgs (top 15)) (defBody (top 15)) (defScope (top 15)) .none kV_need_world dc_need_world pm_need_world an_need_world cd_need_world ct_need_world), sl_need_world⟩) (c_need_world : PySem.W.codeIn K cd_need_world "need_world" = true) (k_need_world : PySem.W.keepIn K (.ref f_need_world) = true)
    {f_is_world : Addr} {od_is_world an_is_world : Option Addr} {sl_is_world : Array (Option Value)} {oc_is_world kV_is_world dc_is_world pm_is_world cd_is_world ct_is_world : Value}
    (a_is_world : PySem.W.nsIn K mainGlobals "is_world" = some (some (.ref f_is_world))) (l_is_world : K.lookup f_is_world = some ⟨oc_is_world, od_is_world, .func (PySem.W.fnOf "is_world" "is_world" (defArgs (top 31)) (defBody (top 31)) (defScope (top 31)) .none kV_is_world dc_is_world pm_is_world an_is_world cd_is_world ct_is_world), sl_is_world⟩) (c_is_world : PySem.W.codeIn K cd_is_world "is_world" = true) (k_is_world : PySem.W.keepIn K (.ref f_is_world) = true)
    {f_is_letter : Addr} {od_is_letter an_is_letter : Option Addr} {sl_is_letter : Array (Option Value)} {oc_is_letter kV_is_letter dc_is_letter pm_is_letter cd_is_letter ct_is_letter : Value}
    (a_is_letter : PySem.W.nsIn K mainGlobals "is_letter" = some (some (.ref f_is_letter))) (l_is_letter : K.lookup f_is_letter = some ⟨oc_is_letter, od_is_letter, .func (PySem.W.fnOf "is_letter" "is_letter" (defArgs (top 32)) (defBody (top 32)) (defScope (top 32)) .none kV_is_letter dc_is_letter pm_is_letter an_is_letter cd_is_letter ct_is_letter), sl_is_letter⟩) (c_is_letter : PySem.W.codeIn K cd_is_letter "is_letter" = true) (k_is_letter : PySem.W.keepIn K (.ref f_is_letter) = true)
    {f_some_terms : Addr} {od_some_terms an_some_terms : Option Addr} {sl_some_terms : Array (Option Value)} {oc_some_terms kV_some_terms dc_some_terms pm_some_terms cd_some_terms ct_some_terms : Value}
    (a_some_terms : PySem.W.nsIn K mainGlobals "some_terms" = some (some (.ref f_some_terms))) (l_some_terms : K.lookup f_some_terms = some ⟨oc_some_terms, od_some_terms, .func (PySem.W.fnOf "some_terms" "some_terms" (defArgs (top 38)) (defBody (top 38)) (defScope (top 38)) .none kV_some_terms dc_some_terms pm_some_terms an_some_terms cd_some_terms ct_some_terms), sl_some_terms⟩) (c_some_terms : PySem.W.codeIn K cd_some_terms "some_terms" = true) (k_some_terms : PySem.W.keepIn K (.ref f_some_terms) = true)
    {f_some_systems : Addr} {od_some_systems an_some_systems : Option Addr} {sl_some_systems : Array (Option Value)} {oc_some_systems kV_some_systems dc_some_systems pm_some_systems cd_some_systems ct_some_systems : Value}
    (a_some_systems : PySem.W.nsIn K mainGlobals "some_systems" = some (some (.ref f_some_systems))) (l_some_systems : K.lookup f_some_systems = some ⟨oc_some_systems, od_some_systems, .func (PySem.W.fnOf "some_systems" "some_systems" (defArgs (top 41)) (defBody (top 41)) (defScope (top 41)) .none kV_some_systems dc_some_systems pm_some_systems an_some_systems cd_some_systems ct_some_systems), sl_some_systems⟩) (c_some_systems : PySem.W.codeIn K cd_some_systems "some_systems" = true) (k_some_systems : PySem.W.keepIn K (.ref f_some_systems) = true)
    {f__law_spring : Addr} {od__law_spring an__law_spring : Option Addr} {sl__law_spring : Array (Option Value)} {oc__law_spring kV__law_spring dc__law_spring pm__law_spring cd__law_spring ct__law_spring : Value}
    (a__law_spring : PySem.W.nsIn K mainGlobals "_law_spring" = some (some (.ref f__law_spring))) (l__law_spring : K.lookup f__law_spring = some ⟨oc__law_spring, od__law_spring, .func (PySem.W.fnOf "_law_spring" "_law_spring" (defArgs (top 43)) (defBody (top 43)) (defScope (top 43)) .none kV__law_spring dc__law_spring pm__law_spring an__law_spring cd__law_spring ct__law_spring), sl__law_spring⟩) (c__law_spring : PySem.W.codeIn K cd__law_spring "_law_spring" = true) (k__law_spring : PySem.W.keepIn K (.ref f__law_spring) = true)
    {f__law_take : Addr} {od__law_take an__law_take : Option Addr} {sl__law_take : Array (Option Value)} {oc__law_take kV__law_take dc__law_take pm__law_take cd__law_take ct__law_take : Value}
    (a__law_take : PySem.W.nsIn K mainGlobals "_law_take" = some (some (.ref f__law_take))) (l__law_take : K.lookup f__law_take = some ⟨oc__law_take, od__law_take, .func (PySem.W.fnOf "_law_take" "_law_take" (defArgs (top 44)) (defBody (top 44)) (defScope (top 44)) .none kV__law_take dc__law_take pm__law_take an__law_take cd__law_take ct__law_take), sl__law_take⟩) (c__law_take : PySem.W.codeIn K cd__law_take "_law_take" = true) (k__law_take : PySem.W.keepIn K (.ref f__law_take) = true)
    {f__law_pick : Addr} {od__law_pick an__law_pick : Option Addr} {sl__law_pick : Array (Option Value)} {oc__law_pick kV__law_pick dc__law_pick pm__law_pick cd__law_pick ct__law_pick : Value}
    (a__law_pick : PySem.W.nsIn K mainGlobals "_law_pick" = some (some (.ref f__law_pick))) (l__law_pick : K.lookup f__law_pick = some ⟨oc__law_pick, od__law_pick, .func (PySem.W.fnOf "_law_pick" "_law_pick" (defArgs (top 45)) (defBody (top 45)) (defScope (top 45)) .none kV__law_pick dc__law_pick pm__law_pick an__law_pick cd__law_pick ct__law_pick), sl__law_pick⟩) (c__law_pick : PySem.W.codeIn K cd__law_pick "_law_pick" = true) (k__law_pick : PySem.W.keepIn K (.ref f__law_pick) = true)
    {f__law_same : Addr} {od__law_same an__law_same : Option Addr} {sl__law_same : Array (Option Value)} {oc__law_same kV__law_same dc__law_same pm__law_same cd__law_same ct__law_same : Value}
    (a__law_same : PySem.W.nsIn K mainGlobals "_law_same" = some (some (.ref f__law_same))) (l__law_same : K.lookup f__law_same = some ⟨oc__law_same, od__law_same, .func (PySem.W.fnOf "_law_same" "_law_same" (defArgs (top 46)) (defBody (top 46)) (defScope (top 46)) .none kV__law_same dc__law_same pm__law_same an__law_same cd__law_same ct__law_same), sl__law_same⟩) (c__law_same : PySem.W.codeIn K cd__law_same "_law_same" = true) (k__law_same : PySem.W.keepIn K (.ref f__law_same) = true)
    {f__law_is_word : Addr} {od__law_is_word an__law_is_word : Option Addr} {sl__law_is_word : Array (Option Value)} {oc__law_is_word kV__law_is_word dc__law_is_word pm__law_is_word cd__law_is_word ct__law_is_word : Value}
    (a__law_is_word : PySem.W.nsIn K mainGlobals "_law_is_word" = some (some (.ref f__law_is_word))) (l__law_is_word : K.lookup f__law_is_word = some ⟨oc__law_is_word, od__law_is_word, .func (PySem.W.fnOf "_law_is_word" "_law_is_word" (defArgs (top 47)) (defBody (top 47)) (defScope (top 47)) .none kV__law_is_word dc__law_is_word pm__law_is_word an__law_is_word cd__law_is_word ct__law_is_word), sl__law_is_word⟩) (c__law_is_word : PySem.W.codeIn K cd__law_is_word "_law_is_word" = true) (k__law_is_word : PySem.W.keepIn K (.ref f__law_is_word) = true)
    {f__law_is_letter : Addr} {od__law_is_letter an__law_is_letter : Option Addr} {sl__law_is_letter : Array (Option Value)} {oc__law_is_letter kV__law_is_letter dc__law_is_letter pm__law_is_letter cd__law_is_letter ct__law_is_letter : Value}
    (a__law_is_letter : PySem.W.nsIn K mainGlobals "_law_is_letter" = some (some (.ref f__law_is_letter))) (l__law_is_letter : K.lookup f__law_is_letter = some ⟨oc__law_is_letter, od__law_is_letter, .func (PySem.W.fnOf "_law_is_letter" "_law_is_letter" (defArgs (top 48)) (defBody (top 48)) (defScope (top 48)) .none kV__law_is_letter dc__law_is_letter pm__law_is_letter an__law_is_letter cd__law_is_letter ct__law_is_letter), sl__law_is_letter⟩) (c__law_is_letter : PySem.W.codeIn K cd__law_is_letter "_law_is_letter" = true) (k__law_is_letter : PySem.W.keepIn K (.ref f__law_is_letter) = true)
    {f__law_is_world : Addr} {od__law_is_world an__law_is_world : Option Addr} {sl__law_is_world : Array (Option Value)} {oc__law_is_world kV__law_is_world dc__law_is_world pm__law_is_world cd__law_is_world ct__law_is_world : Value}
    (a__law_is_world : PySem.W.nsIn K mainGlobals "_law_is_world" = some (some (.ref f__law_is_world))) (l__law_is_world : K.lookup f__law_is_world = some ⟨oc__law_is_world, od__law_is_world, .func (PySem.W.fnOf "_law_is_world" "_law_is_world" (defArgs (top 49)) (defBody (top 49)) (defScope (top 49)) .none kV__law_is_world dc__law_is_world pm__law_is_world an__law_is_world cd__law_is_world ct__law_is_world), sl__law_is_world⟩) (c__law_is_world : PySem.W.codeIn K cd__law_is_world "_law_is_world" = true) (k__law_is_world : PySem.W.keepIn K (.ref f__law_is_world) = true)
    {f__law_values : Addr} {od__law_values an__law_values : Option Addr} {sl__law_values : Array (Option Value)} {oc__law_values kV__law_values dc__law_values pm__law_values cd__law_values ct__law_values : Value}
    (a__law_values : PySem.W.nsIn K mainGlobals "_law_values" = some (some (.ref f__law_values))) (l__law_values : K.lookup f__law_values = some ⟨oc__law_values, od__law_values, .func (PySem.W.fnOf "_law_values" "_law_values" (defArgs (top 50)) (defBody (top 50)) (defScope (top 50)) .none kV__law_values dc__law_values pm__law_values an__law_values cd__law_values ct__law_values), sl__law_values⟩) (c__law_values : PySem.W.codeIn K cd__law_values "_law_values" = true) (k__law_values : PySem.W.keepIn K (.ref f__law_values) = true)
    {f__law_word : Addr} {od__law_word an__law_word : Option Addr} {sl__law_word : Array (Option Value)} {oc__law_word kV__law_word dc__law_word pm__law_word cd__law_word ct__law_word : Value}
    (a__law_word : PySem.W.nsIn K mainGlobals "_law_word" = some (some (.ref f__law_word))) (l__law_word : K.lookup f__law_word = some ⟨oc__law_word, od__law_word, .func (PySem.W.fnOf "_law_word" "_law_word" (defArgs (top 51)) (defBody (top 51)) (defScope (top 51)) .none kV__law_word dc__law_word pm__law_word an__law_word cd__law_word ct__law_word), sl__law_word⟩) (c__law_word : PySem.W.codeIn K cd__law_word "_law_word" = true) (k__law_word : PySem.W.keepIn K (.ref f__law_word) = true)
    {f_law : Addr} {od_law an_law : Option Addr} {sl_law : Array (Option Value)} {oc_law kV_law dc_law pm_law cd_law ct_law : Value}
    (a_law : PySem.W.nsIn K mainGlobals "law" = some (some (.ref f_law))) (l_law : K.lookup f_law = some ⟨oc_law, od_law, .func (PySem.W.fnOf "law" "law" (defArgs (top 52)) (defBody (top 52)) (defScope (top 52)) .none kV_law dc_law pm_law an_law cd_law ct_law), sl_law⟩) (c_law : PySem.W.codeIn K cd_law "law" = true) (k_law : PySem.W.keepIn K (.ref f_law) = true)
    (z_abs : PySem.W.nsIn K mainGlobals "abs" = some none)
    (z_all : PySem.W.nsIn K mainGlobals "all" = some none)
    (z_bool : PySem.W.nsIn K mainGlobals "bool" = some none)
    (z_int : PySem.W.nsIn K mainGlobals "int" = some none)
    (z_isinstance : PySem.W.nsIn K mainGlobals "isinstance" = some none)
    (z_len : PySem.W.nsIn K mainGlobals "len" = some none)
    (z_list : PySem.W.nsIn K mainGlobals "list" = some none)
    (z_max : PySem.W.nsIn K mainGlobals "max" = some none)
    (z_min : PySem.W.nsIn K mainGlobals "min" = some none)
    (z_range : PySem.W.nsIn K mainGlobals "range" = some none)
    (z_set : PySem.W.nsIn K mainGlobals "set" = some none)
    (z_sorted : PySem.W.nsIn K mainGlobals "sorted" = some none)
    (z_str : PySem.W.nsIn K mainGlobals "str" = some none)
    (z_tuple : PySem.W.nsIn K mainGlobals "tuple" = some none)
    {t_SIGNS : Tok} (s_SIGNS : PySem.W.nsIn K mainGlobals "SIGNS" = some (some (.str "abcdefghijklmnopqrstuvwxyz" t_SIGNS)))
    {C_InvalidWorld : Addr} (x1_InvalidWorld : PySem.W.nsIn K mainGlobals "InvalidWorld" = some (some (.ref C_InvalidWorld))) (x2_InvalidWorld : PySem.W.excIn K C_InvalidWorld [.type "ValueError", .type "Exception", .type "BaseException", .type "object"] "ValueError.__new__" = true) (x3_InvalidWorld : PySem.W.keepIn K (.ref C_InvalidWorld) = true) (x4_InvalidWorld : PySem.W.subIn K (.ref C_InvalidWorld) (.type "BaseException") = some true) (x5_InvalidWorld : PySem.W.typeIn K (.ref C_InvalidWorld) = some (.type "type"))
    {C_TermError : Addr} (x1_TermError : PySem.W.nsIn K mainGlobals "TermError" = some (some (.ref C_TermError))) (x2_TermError : PySem.W.excIn K C_TermError [.type "ValueError", .type "Exception", .type "BaseException", .type "object"] "ValueError.__new__" = true) (x3_TermError : PySem.W.keepIn K (.ref C_TermError) = true) (x4_TermError : PySem.W.subIn K (.ref C_TermError) (.type "BaseException") = some true) (x5_TermError : PySem.W.typeIn K (.ref C_TermError) = some (.type "type"))
    (m_InvalidWorld_InvalidWorld : PySem.W.exmOne K (.ref C_InvalidWorld) (.ref C_InvalidWorld) = some true)
    (m_InvalidWorld_TermError : PySem.W.exmOne K (.ref C_InvalidWorld) (.ref C_TermError) = some true)
    (m_TermError_InvalidWorld : PySem.W.exmOne K (.ref C_TermError) (.ref C_InvalidWorld) = some false)
    (m_TermError_TermError : PySem.W.exmOne K (.ref C_TermError) (.ref C_TermError) = some true) : Txt K mg where
  f_is_integer := ⟨f_is_integer, _, fun_mk l_is_integer c_is_integer k_is_integer, PySem.W.mg_of X G a_is_integer⟩
  f_is_from := ⟨f_is_from, _, fun_mk l_is_from c_is_from k_is_from, PySem.W.mg_of X G a_is_from⟩
  f_is_word := ⟨f_is_word, _, fun_mk l_is_word c_is_word k_is_word, PySem.W.mg_of X G a_is_word⟩
  f_is_ascending := ⟨f_is_ascending, _, fun_mk l_is_ascending c_is_ascending k_is_ascending, PySem.W.mg_of X G a_is_ascending⟩
  f_is_letter_form := ⟨f_is_letter_form, _, fun_mk l_is_letter_form c_is_letter_form k_is_letter_form, PySem.W.mg_of X G a_is_letter_form⟩
  f_told_letters_ok := ⟨f_told_letters_ok, _, fun_mk l_told_letters_ok c_told_letters_ok k_told_letters_ok, PySem.W.mg_of X G a_told_letters_ok⟩
  f_world_ok := ⟨f_world_ok, _, fun_mk l_world_ok c_world_ok k_world_ok, PySem.W.mg_of X G a_world_ok⟩
  f_has_letter := ⟨f_has_letter, _, fun_mk l_has_letter c_has_letter k_has_letter, PySem.W.mg_of X G a_has_letter⟩
  f_need_world := ⟨f_need_world, _, fun_mk l_need_world c_need_world k_need_world, PySem.W.mg_of X G a_need_world⟩
  f_is_world := ⟨f_is_world, _, fun_mk l_is_world c_is_world k_is_world, PySem.W.mg_of X G a_is_world⟩
  f_is_letter := ⟨f_is_letter, _, fun_mk l_is_letter c_is_letter k_is_letter, PySem.W.mg_of X G a_is_letter⟩
  f_some_terms := ⟨f_some_terms, _, fun_mk l_some_terms c_some_terms k_some_terms, PySem.W.mg_of X G a_some_terms⟩
  f_some_systems := ⟨f_some_systems, _, fun_mk l_some_systems c_some_systems k_some_systems, PySem.W.mg_of X G a_some_systems⟩
  f__law_spring := ⟨f__law_spring, _, fun_mk l__law_spring c__law_spring k__law_spring, PySem.W.mg_of X G a__law_spring⟩
  f__law_take := ⟨f__law_take, _, fun_mk l__law_take c__law_take k__law_take, PySem.W.mg_of X G a__law_take⟩
  f__law_pick := ⟨f__law_pick, _, fun_mk l__law_pick c__law_pick k__law_pick, PySem.W.mg_of X G a__law_pick⟩
  f__law_same := ⟨f__law_same, _, fun_mk l__law_same c__law_same k__law_same, PySem.W.mg_of X G a__law_same⟩
  f__law_is_word := ⟨f__law_is_word, _, fun_mk l__law_is_word c__law_is_word k__law_is_word, PySem.W.mg_of X G a__law_is_word⟩
  f__law_is_letter := ⟨f__law_is_letter, _, fun_mk l__law_is_letter c__law_is_letter k__law_is_letter, PySem.W.mg_of X G a__law_is_letter⟩
  f__law_is_world := ⟨f__law_is_world, _, fun_mk l__law_is_world c__law_is_world k__law_is_world, PySem.W.mg_of X G a__law_is_world⟩
  f__law_values := ⟨f__law_values, _, fun_mk l__law_values c__law_values k__law_values, PySem.W.mg_of X G a__law_values⟩
  f__law_word := ⟨f__law_word, _, fun_mk l__law_word c__law_word k__law_word, PySem.W.mg_of X G a__law_word⟩
  f_law := ⟨f_law, _, fun_mk l_law c_law k_law, PySem.W.mg_of X G a_law⟩
  b_abs := PySem.W.mg_none_of X G z_abs
  b_all := PySem.W.mg_none_of X G z_all
  b_bool := PySem.W.mg_none_of X G z_bool
  b_int := PySem.W.mg_none_of X G z_int
  b_isinstance := PySem.W.mg_none_of X G z_isinstance
  b_len := PySem.W.mg_none_of X G z_len
  b_list := PySem.W.mg_none_of X G z_list
  b_max := PySem.W.mg_none_of X G z_max
  b_min := PySem.W.mg_none_of X G z_min
  b_range := PySem.W.mg_none_of X G z_range
  b_set := PySem.W.mg_none_of X G z_set
  b_sorted := PySem.W.mg_none_of X G z_sorted
  b_str := PySem.W.mg_none_of X G z_str
  b_tuple := PySem.W.mg_none_of X G z_tuple
  g_SIGNS := ⟨t_SIGNS, PySem.W.mg_of X G s_SIGNS⟩
  x_InvalidWorld := ⟨C_InvalidWorld, PySem.W.mg_of X G x1_InvalidWorld, x2_InvalidWorld, x3_InvalidWorld, x4_InvalidWorld, x5_InvalidWorld⟩
  x_TermError := ⟨C_TermError, PySem.W.mg_of X G x1_TermError, x2_TermError, x3_TermError, x4_TermError, x5_TermError⟩
  isa := fun x y b u v e e1 e2 => by
    unfold isA at e
    split at e
    · rename_i hh
      obtain ⟨rfl, rfl⟩ := hh
      cases e
      have q1 := e1.symm.trans (PySem.W.mg_of X G x1_InvalidWorld)
      have q2 := e2.symm.trans (PySem.W.mg_of X G x1_InvalidWorld)
      cases q1
      cases q2
      exact m_InvalidWorld_InvalidWorld
    split at e
    · rename_i hh
      obtain ⟨rfl, rfl⟩ := hh
      cases e
      have q1 := e1.symm.trans (PySem.W.mg_of X G x1_InvalidWorld)
      have q2 := e2.symm.trans (PySem.W.mg_of X G x1_TermError)
      cases q1
      cases q2
      exact m_InvalidWorld_TermError
    split at e
    · rename_i hh
      obtain ⟨rfl, rfl⟩ := hh
      cases e
      have q1 := e1.symm.trans (PySem.W.mg_of X G x1_TermError)
      have q2 := e2.symm.trans (PySem.W.mg_of X G x1_InvalidWorld)
      cases q1
      cases q2
      exact m_TermError_InvalidWorld
    split at e
    · rename_i hh
      obtain ⟨rfl, rfl⟩ := hh
      cases e
      have q1 := e1.symm.trans (PySem.W.mg_of X G x1_TermError)
      have q2 := e2.symm.trans (PySem.W.mg_of X G x1_TermError)
      cases q1
      cases q2
      exact m_TermError_TermError
    cases e

theorem fin {l : PySem.W.OpenLaw} {w : World} {K : PySem.W.Frag} {h : Heap} {mg : Str → Option Value} {fa : Addr} (X : K.In h) (G : h.Ns mainGlobals mg) (hfa : mg "law" = some (.ref fa)) (nl : noLists K = true)
    {f_is_integer : Addr} {od_is_integer an_is_integer : Option Addr} {sl_is_integer : Array (Option Value)} {oc_is_integer kV_is_integer dc_is_integer pm_is_integer cd_is_integer ct_is_integer : Value}
    (a_is_integer : PySem.W.nsIn K mainGlobals "is_integer" = some (some (.ref f_is_integer))) (l_is_integer : K.lookup f_is_integer = some ⟨oc_is_integer, od_is_integer, .func (PySem.W.fnOf "is_integer" "is_integer" (defArgs (top 7)) (defBody (top 7)) (defScope (top 7)) .none kV_is_integer dc_is_integer pm_is_integer an_is_integer cd_is_integer ct_is_integer), sl_is_integer⟩) (c_is_integer : PySem.W.codeIn K cd_is_integer "is_integer" = true) (k_is_integer : PySem.W.keepIn K (.ref f_is_integer) = true)
    {f_is_from : Addr} {od_is_from an_is_from : Option Addr} {sl_is_from : Array (Option Value)} {oc_is_from kV_is_from dc_is_from pm_is_from cd_is_from ct_is_from : Value}
    (a_is_from : PySem.W.nsIn K mainGlobals "is_from" = some (some (.ref f_is_from))) (l_is_from : K.lookup f_is_from = some ⟨oc_is_from, od_is_from, .func (PySem.W.fnOf "is_from" "is_from" (defArgs (top 8)) (defBody (top 8)) (defScope (top 8)) .none kV_is_from dc_is_from pm_is_from an_is_from cd_is_from ct_is_from), sl_is_from⟩) (c_is_from : PySem.W.codeIn K cd_is_from "is_from" = true) (k_is_from : PySem.W.keepIn K (.ref f_is_from) = true)
    {f_is_word : Addr} {od_is_word an_is_word : Option Addr} {sl_is_word : Array (Option Value)} {oc_is_word kV_is_word dc_is_word pm_is_word cd_is_word ct_is_word : Value}
    (a_is_word : PySem.W.nsIn K mainGlobals "is_word" = some (some (.ref f_is_word))) (l_is_word : K.lookup f_is_word = some ⟨oc_is_word, od_is_word, .func (PySem.W.fnOf "is_word" "is_word" (defArgs (top 9)) (defBody (top 9)) (defScope (top 9)) .none kV_is_word dc_is_word pm_is_word an_is_word cd_is_word ct_is_word), sl_is_word⟩) (c_is_word : PySem.W.codeIn K cd_is_word "is_word" = true) (k_is_word : PySem.W.keepIn K (.ref f_is_word) = true)
    {f_is_ascending : Addr} {od_is_ascending an_is_ascending : Option Addr} {sl_is_ascending : Array (Option Value)} {oc_is_ascending kV_is_ascending dc_is_ascending pm_is_ascending cd_is_ascending ct_is_ascending : Value}
    (a_is_ascending : PySem.W.nsIn K mainGlobals "is_ascending" = some (some (.ref f_is_ascending))) (l_is_ascending : K.lookup f_is_ascending = some ⟨oc_is_ascending, od_is_ascending, .func (PySem.W.fnOf "is_ascending" "is_ascending" (defArgs (top 10)) (defBody (top 10)) (defScope (top 10)) .none kV_is_ascending dc_is_ascending pm_is_ascending an_is_ascending cd_is_ascending ct_is_ascending), sl_is_ascending⟩) (c_is_ascending : PySem.W.codeIn K cd_is_ascending "is_ascending" = true) (k_is_ascending : PySem.W.keepIn K (.ref f_is_ascending) = true)
    {f_is_letter_form : Addr} {od_is_letter_form an_is_letter_form : Option Addr} {sl_is_letter_form : Array (Option Value)} {oc_is_letter_form kV_is_letter_form dc_is_letter_form pm_is_letter_form cd_is_letter_form ct_is_letter_form : Value}
    (a_is_letter_form : PySem.W.nsIn K mainGlobals "is_letter_form" = some (some (.ref f_is_letter_form))) (l_is_letter_form : K.lookup f_is_letter_form = some ⟨oc_is_letter_form, od_is_letter_form, .func (PySem.W.fnOf "is_letter_form" "is_letter_form" (defArgs (top 11)) (defBody (top 11)) (defScope (top 11)) .none kV_is_letter_form dc_is_letter_form pm_is_letter_form an_is_letter_form cd_is_letter_form ct_is_letter_form), sl_is_letter_form⟩) (c_is_letter_form : PySem.W.codeIn K cd_is_letter_form "is_letter_form" = true) (k_is_letter_form : PySem.W.keepIn K (.ref f_is_letter_form) = true)
    {f_told_letters_ok : Addr} {od_told_letters_ok an_told_letters_ok : Option Addr} {sl_told_letters_ok : Array (Option Value)} {oc_told_letters_ok kV_told_letters_ok dc_told_letters_ok pm_told_letters_ok cd_told_letters_ok ct_told_letters_ok : Value}
    (a_told_letters_ok : PySem.W.nsIn K mainGlobals "told_letters_ok" = some (some (.ref f_told_letters_ok))) (l_told_letters_ok : K.lookup f_told_letters_ok = some ⟨oc_told_letters_ok, od_told_letters_ok, .func (PySem.W.fnOf "told_letters_ok" "told_letters_ok" (defArgs (top 12)) (defBody (top 12)) (defScope (top 12)) .none kV_told_letters_ok dc_told_letters_ok pm_told_letters_ok an_told_letters_ok cd_told_letters_ok ct_told_letters_ok), sl_told_letters_ok⟩) (c_told_letters_ok : PySem.W.codeIn K cd_told_letters_ok "told_letters_ok" = true) (k_told_letters_ok : PySem.W.keepIn K (.ref f_told_letters_ok) = true)
    {f_world_ok : Addr} {od_world_ok an_world_ok : Option Addr} {sl_world_ok : Array (Option Value)} {oc_world_ok kV_world_ok dc_world_ok pm_world_ok cd_world_ok ct_world_ok : Value}
    (a_world_ok : PySem.W.nsIn K mainGlobals "world_ok" = some (some (.ref f_world_ok))) (l_world_ok : K.lookup f_world_ok = some ⟨oc_world_ok, od_world_ok, .func (PySem.W.fnOf "world_ok" "world_ok" (defArgs (top 13)) (defBody (top 13)) (defScope (top 13)) .none kV_world_ok dc_world_ok pm_world_ok an_world_ok cd_world_ok ct_world_ok), sl_world_ok⟩) (c_world_ok : PySem.W.codeIn K cd_world_ok "world_ok" = true) (k_world_ok : PySem.W.keepIn K (.ref f_world_ok) = true)
    {f_has_letter : Addr} {od_has_letter an_has_letter : Option Addr} {sl_has_letter : Array (Option Value)} {oc_has_letter kV_has_letter dc_has_letter pm_has_letter cd_has_letter ct_has_letter : Value}
    (a_has_letter : PySem.W.nsIn K mainGlobals "has_letter" = some (some (.ref f_has_letter))) (l_has_letter : K.lookup f_has_letter = some ⟨oc_has_letter, od_has_letter, .func (PySem.W.fnOf "has_letter" "has_letter" (defArgs (top 14)) (defBody (top 14)) (defScope (top 14)) .none kV_has_letter dc_has_letter pm_has_letter an_has_letter cd_has_letter ct_has_letter), sl_has_letter⟩) (c_has_letter : PySem.W.codeIn K cd_has_letter "has_letter" = true) (k_has_letter : PySem.W.keepIn K (.ref f_has_letter) = true)
    {f_need_world : Addr} {od_need_world an_need_world : Option Addr} {sl_need_world : Array (Option Value)} {oc_need_world kV_need_world dc_need_world pm_need_world cd_need_world ct_need_world : Value}
    (a_need_world : PySem.W.nsIn K mainGlobals "need_world" = some (some (.ref f_need_world))) (l_need_world : K.lookup f_need_world = some ⟨oc_need_world, od_need_world, .func (PySem.W.fnOf "need_world" "need_world" (defArgs (top 15)) (defBody (top 15)) (defScope (top 15)) .none kV_need_world dc_need_world pm_need_world an_need_world cd_need_world ct_need_world), sl_need_world⟩) (c_need_world : PySem.W.codeIn K cd_need_world "need_world" = true) (k_need_world : PySem.W.keepIn K (.ref f_need_world) = true)
    {f_is_world : Addr} {od_is_world an_is_world : Option Addr} {sl_is_world : Array (Option Value)} {oc_is_world kV_is_world dc_is_world pm_is_world cd_is_world ct_is_world : Value}
    (a_is_world : PySem.W.nsIn K mainGlobals "is_world" = some (some (.ref f_is_world))) (l_is_world : K.lookup f_is_world = some ⟨oc_is_world, od_is_world, .func (PySem.W.fnOf "is_world" "is_world" (defArgs (top 31)) (defBody (top 31)) (defScope (top 31)) .none kV_is_world dc_is_world pm_is_world an_is_world cd_is_world ct_is_world), sl_is_world⟩) (c_is_world : PySem.W.codeIn K cd_is_world "is_world" = true) (k_is_world : PySem.W.keepIn K (.ref f_is_world) = true)
    {f_is_letter : Addr} {od_is_letter an_is_letter : Option Addr} {sl_is_letter : Array (Option Value)} {oc_is_letter kV_is_letter dc_is_letter pm_is_letter cd_is_letter ct_is_letter : Value}
    (a_is_letter : PySem.W.nsIn K mainGlobals "is_letter" = some (some (.ref f_is_letter))) (l_is_letter : K.lookup f_is_letter = some ⟨oc_is_letter, od_is_letter, .func (PySem.W.fnOf "is_letter" "is_letter" (defArgs (top 32)) (defBody (top 32)) (defScope (top 32)) .none kV_is_letter dc_is_letter pm_is_letter an_is_letter cd_is_letter ct_is_letter), sl_is_letter⟩) (c_is_letter : PySem.W.codeIn K cd_is_letter "is_letter" = true) (k_is_letter : PySem.W.keepIn K (.ref f_is_letter) = true)
    {f_some_terms : Addr} {od_some_terms an_some_terms : Option Addr} {sl_some_terms : Array (Option Value)} {oc_some_terms kV_some_terms dc_some_terms pm_some_terms cd_some_terms ct_some_terms : Value}
    (a_some_terms : PySem.W.nsIn K mainGlobals "some_terms" = some (some (.ref f_some_terms))) (l_some_terms : K.lookup f_some_terms = some ⟨oc_some_terms, od_some_terms, .func (PySem.W.fnOf "some_terms" "some_terms" (defArgs (top 38)) (defBody (top 38)) (defScope (top 38)) .none kV_some_terms dc_some_terms pm_some_terms an_some_terms cd_some_terms ct_some_terms), sl_some_terms⟩) (c_some_terms : PySem.W.codeIn K cd_some_terms "some_terms" = true) (k_some_terms : PySem.W.keepIn K (.ref f_some_terms) = true)
    {f_some_systems : Addr} {od_some_systems an_some_systems : Option Addr} {sl_some_systems : Array (Option Value)} {oc_some_systems kV_some_systems dc_some_systems pm_some_systems cd_some_systems ct_some_systems : Value}
    (a_some_systems : PySem.W.nsIn K mainGlobals "some_systems" = some (some (.ref f_some_systems))) (l_some_systems : K.lookup f_some_systems = some ⟨oc_some_systems, od_some_systems, .func (PySem.W.fnOf "some_systems" "some_systems" (defArgs (top 41)) (defBody (top 41)) (defScope (top 41)) .none kV_some_systems dc_some_systems pm_some_systems an_some_systems cd_some_systems ct_some_systems), sl_some_systems⟩) (c_some_systems : PySem.W.codeIn K cd_some_systems "some_systems" = true) (k_some_systems : PySem.W.keepIn K (.ref f_some_systems) = true)
    {f__law_spring : Addr} {od__law_spring an__law_spring : Option Addr} {sl__law_spring : Array (Option Value)} {oc__law_spring kV__law_spring dc__law_spring pm__law_spring cd__law_spring ct__law_spring : Value}
    (a__law_spring : PySem.W.nsIn K mainGlobals "_law_spring" = some (some (.ref f__law_spring))) (l__law_spring : K.lookup f__law_spring = some ⟨oc__law_spring, od__law_spring, .func (PySem.W.fnOf "_law_spring" "_law_spring" (defArgs (top 43)) (defBody (top 43)) (defScope (top 43)) .none kV__law_spring dc__law_spring pm__law_spring an__law_spring cd__law_spring ct__law_spring), sl__law_spring⟩) (c__law_spring : PySem.W.codeIn K cd__law_spring "_law_spring" = true) (k__law_spring : PySem.W.keepIn K (.ref f__law_spring) = true)
    {f__law_take : Addr} {od__law_take an__law_take : Option Addr} {sl__law_take : Array (Option Value)} {oc__law_take kV__law_take dc__law_take pm__law_take cd__law_take ct__law_take : Value}
    (a__law_take : PySem.W.nsIn K mainGlobals "_law_take" = some (some (.ref f__law_take))) (l__law_take : K.lookup f__law_take = some ⟨oc__law_take, od__law_take, .func (PySem.W.fnOf "_law_take" "_law_take" (defArgs (top 44)) (defBody (top 44)) (defScope (top 44)) .none kV__law_take dc__law_take pm__law_take an__law_take cd__law_take ct__law_take), sl__law_take⟩) (c__law_take : PySem.W.codeIn K cd__law_take "_law_take" = true) (k__law_take : PySem.W.keepIn K (.ref f__law_take) = true)
    {f__law_pick : Addr} {od__law_pick an__law_pick : Option Addr} {sl__law_pick : Array (Option Value)} {oc__law_pick kV__law_pick dc__law_pick pm__law_pick cd__law_pick ct__law_pick : Value}
    (a__law_pick : PySem.W.nsIn K mainGlobals "_law_pick" = some (some (.ref f__law_pick))) (l__law_pick : K.lookup f__law_pick = some ⟨oc__law_pick, od__law_pick, .func (PySem.W.fnOf "_law_pick" "_law_pick" (defArgs (top 45)) (defBody (top 45)) (defScope (top 45)) .none kV__law_pick dc__law_pick pm__law_pick an__law_pick cd__law_pick ct__law_pick), sl__law_pick⟩) (c__law_pick : PySem.W.codeIn K cd__law_pick "_law_pick" = true) (k__law_pick : PySem.W.keepIn K (.ref f__law_pick) = true)
    {f__law_same : Addr} {od__law_same an__law_same : Option Addr} {sl__law_same : Array (Option Value)} {oc__law_same kV__law_same dc__law_same pm__law_same cd__law_same ct__law_same : Value}
    (a__law_same : PySem.W.nsIn K mainGlobals "_law_same" = some (some (.ref f__law_same))) (l__law_same : K.lookup f__law_same = some ⟨oc__law_same, od__law_same, .func (PySem.W.fnOf "_law_same" "_law_same" (defArgs (top 46)) (defBody (top 46)) (defScope (top 46)) .none kV__law_same dc__law_same pm__law_same an__law_same cd__law_same ct__law_same), sl__law_same⟩) (c__law_same : PySem.W.codeIn K cd__law_same "_law_same" = true) (k__law_same : PySem.W.keepIn K (.ref f__law_same) = true)
    {f__law_is_word : Addr} {od__law_is_word an__law_is_word : Option Addr} {sl__law_is_word : Array (Option Value)} {oc__law_is_word kV__law_is_word dc__law_is_word pm__law_is_word cd__law_is_word ct__law_is_word : Value}
    (a__law_is_word : PySem.W.nsIn K mainGlobals "_law_is_word" = some (some (.ref f__law_is_word))) (l__law_is_word : K.lookup f__law_is_word = some ⟨oc__law_is_word, od__law_is_word, .func (PySem.W.fnOf "_law_is_word" "_law_is_word" (defArgs (top 47)) (defBody (top 47)) (defScope (top 47)) .none kV__law_is_word dc__law_is_word pm__law_is_word an__law_is_word cd__law_is_word ct__law_is_word), sl__law_is_word⟩) (c__law_is_word : PySem.W.codeIn K cd__law_is_word "_law_is_word" = true) (k__law_is_word : PySem.W.keepIn K (.ref f__law_is_word) = true)
    {f__law_is_letter : Addr} {od__law_is_letter an__law_is_letter : Option Addr} {sl__law_is_letter : Array (Option Value)} {oc__law_is_letter kV__law_is_letter dc__law_is_letter pm__law_is_letter cd__law_is_letter ct__law_is_letter : Value}
    (a__law_is_letter : PySem.W.nsIn K mainGlobals "_law_is_letter" = some (some (.ref f__law_is_letter))) (l__law_is_letter : K.lookup f__law_is_letter = some ⟨oc__law_is_letter, od__law_is_letter, .func (PySem.W.fnOf "_law_is_letter" "_law_is_letter" (defArgs (top 48)) (defBody (top 48)) (defScope (top 48)) .none kV__law_is_letter dc__law_is_letter pm__law_is_letter an__law_is_letter cd__law_is_letter ct__law_is_letter), sl__law_is_letter⟩) (c__law_is_letter : PySem.W.codeIn K cd__law_is_letter "_law_is_letter" = true) (k__law_is_letter : PySem.W.keepIn K (.ref f__law_is_letter) = true)
    {f__law_is_world : Addr} {od__law_is_world an__law_is_world : Option Addr} {sl__law_is_world : Array (Option Value)} {oc__law_is_world kV__law_is_world dc__law_is_world pm__law_is_world cd__law_is_world ct__law_is_world : Value}
    (a__law_is_world : PySem.W.nsIn K mainGlobals "_law_is_world" = some (some (.ref f__law_is_world))) (l__law_is_world : K.lookup f__law_is_world = some ⟨oc__law_is_world, od__law_is_world, .func (PySem.W.fnOf "_law_is_world" "_law_is_world" (defArgs (top 49)) (defBody (top 49)) (defScope (top 49)) .none kV__law_is_world dc__law_is_world pm__law_is_world an__law_is_world cd__law_is_world ct__law_is_world), sl__law_is_world⟩) (c__law_is_world : PySem.W.codeIn K cd__law_is_world "_law_is_world" = true) (k__law_is_world : PySem.W.keepIn K (.ref f__law_is_world) = true)
    {f__law_values : Addr} {od__law_values an__law_values : Option Addr} {sl__law_values : Array (Option Value)} {oc__law_values kV__law_values dc__law_values pm__law_values cd__law_values ct__law_values : Value}
    (a__law_values : PySem.W.nsIn K mainGlobals "_law_values" = some (some (.ref f__law_values))) (l__law_values : K.lookup f__law_values = some ⟨oc__law_values, od__law_values, .func (PySem.W.fnOf "_law_values" "_law_values" (defArgs (top 50)) (defBody (top 50)) (defScope (top 50)) .none kV__law_values dc__law_values pm__law_values an__law_values cd__law_values ct__law_values), sl__law_values⟩) (c__law_values : PySem.W.codeIn K cd__law_values "_law_values" = true) (k__law_values : PySem.W.keepIn K (.ref f__law_values) = true)
    {f__law_word : Addr} {od__law_word an__law_word : Option Addr} {sl__law_word : Array (Option Value)} {oc__law_word kV__law_word dc__law_word pm__law_word cd__law_word ct__law_word : Value}
    (a__law_word : PySem.W.nsIn K mainGlobals "_law_word" = some (some (.ref f__law_word))) (l__law_word : K.lookup f__law_word = some ⟨oc__law_word, od__law_word, .func (PySem.W.fnOf "_law_word" "_law_word" (defArgs (top 51)) (defBody (top 51)) (defScope (top 51)) .none kV__law_word dc__law_word pm__law_word an__law_word cd__law_word ct__law_word), sl__law_word⟩) (c__law_word : PySem.W.codeIn K cd__law_word "_law_word" = true) (k__law_word : PySem.W.keepIn K (.ref f__law_word) = true)
    {f_law : Addr} {od_law an_law : Option Addr} {sl_law : Array (Option Value)} {oc_law kV_law dc_law pm_law cd_law ct_law : Value}
    (a_law : PySem.W.nsIn K mainGlobals "law" = some (some (.ref f_law))) (l_law : K.lookup f_law = some ⟨oc_law, od_law, .func (PySem.W.fnOf "law" "law" (defArgs (top 52)) (defBody (top 52)) (defScope (top 52)) .none kV_law dc_law pm_law an_law cd_law ct_law), sl_law⟩) (c_law : PySem.W.codeIn K cd_law "law" = true) (k_law : PySem.W.keepIn K (.ref f_law) = true)
    (z_abs : PySem.W.nsIn K mainGlobals "abs" = some none)
    (z_all : PySem.W.nsIn K mainGlobals "all" = some none)
    (z_bool : PySem.W.nsIn K mainGlobals "bool" = some none)
    (z_int : PySem.W.nsIn K mainGlobals "int" = some none)
    (z_isinstance : PySem.W.nsIn K mainGlobals "isinstance" = some none)
    (z_len : PySem.W.nsIn K mainGlobals "len" = some none)
    (z_list : PySem.W.nsIn K mainGlobals "list" = some none)
    (z_max : PySem.W.nsIn K mainGlobals "max" = some none)
    (z_min : PySem.W.nsIn K mainGlobals "min" = some none)
    (z_range : PySem.W.nsIn K mainGlobals "range" = some none)
    (z_set : PySem.W.nsIn K mainGlobals "set" = some none)
    (z_sorted : PySem.W.nsIn K mainGlobals "sorted" = some none)
    (z_str : PySem.W.nsIn K mainGlobals "str" = some none)
    (z_tuple : PySem.W.nsIn K mainGlobals "tuple" = some none)
    {t_SIGNS : Tok} (s_SIGNS : PySem.W.nsIn K mainGlobals "SIGNS" = some (some (.str "abcdefghijklmnopqrstuvwxyz" t_SIGNS)))
    {C_InvalidWorld : Addr} (x1_InvalidWorld : PySem.W.nsIn K mainGlobals "InvalidWorld" = some (some (.ref C_InvalidWorld))) (x2_InvalidWorld : PySem.W.excIn K C_InvalidWorld [.type "ValueError", .type "Exception", .type "BaseException", .type "object"] "ValueError.__new__" = true) (x3_InvalidWorld : PySem.W.keepIn K (.ref C_InvalidWorld) = true) (x4_InvalidWorld : PySem.W.subIn K (.ref C_InvalidWorld) (.type "BaseException") = some true) (x5_InvalidWorld : PySem.W.typeIn K (.ref C_InvalidWorld) = some (.type "type"))
    {C_TermError : Addr} (x1_TermError : PySem.W.nsIn K mainGlobals "TermError" = some (some (.ref C_TermError))) (x2_TermError : PySem.W.excIn K C_TermError [.type "ValueError", .type "Exception", .type "BaseException", .type "object"] "ValueError.__new__" = true) (x3_TermError : PySem.W.keepIn K (.ref C_TermError) = true) (x4_TermError : PySem.W.subIn K (.ref C_TermError) (.type "BaseException") = some true) (x5_TermError : PySem.W.typeIn K (.ref C_TermError) = some (.type "type"))
    (m_InvalidWorld_InvalidWorld : PySem.W.exmOne K (.ref C_InvalidWorld) (.ref C_InvalidWorld) = some true)
    (m_InvalidWorld_TermError : PySem.W.exmOne K (.ref C_InvalidWorld) (.ref C_TermError) = some true)
    (m_TermError_InvalidWorld : PySem.W.exmOne K (.ref C_TermError) (.ref C_InvalidWorld) = some false)
    (m_TermError_TermError : PySem.W.exmOne K (.ref C_TermError) (.ref C_TermError) = some true) :
    ∃ fd : FuncData, (∀ (s : Shared) (v : Value), BindsTo s fd ⟨[v], []⟩ [("script", v)]) ∧ ∀ base : Heap, K.In base → base.Ns mainGlobals mg → FnOk l.prog w K mg base (L2.CX l.prog w) 9 fa fd ["script"] (spLaw K) := by
  have T : Txt K mg := txt_mk X G a_is_integer l_is_integer c_is_integer k_is_integer a_is_from l_is_from c_is_from k_is_from a_is_word l_is_word c_is_word k_is_word a_is_ascending l_is_ascending c_is_ascending k_is_ascending a_is_letter_form l_is_letter_form c_is_letter_form k_is_letter_form a_told_letters_ok l_told_letters_ok c_told_letters_ok k_told_letters_ok a_world_ok l_world_ok c_world_ok k_world_ok a_has_letter l_has_letter c_has_letter k_has_letter a_need_world l_need_world c_need_world k_need_world a_is_world l_is_world c_is_world k_is_world a_is_letter l_is_letter c_is_letter k_is_letter a_some_terms l_some_terms c_some_terms k_some_terms a_some_systems l_some_systems c_some_systems k_some_systems a__law_spring l__law_spring c__law_spring k__law_spring a__law_take l__law_take c__law_take k__law_take a__law_pick l__law_pick c__law_pick k__law_pick a__law_same l__law_same c__law_same k__law_same a__law_is_word l__law_is_word c__law_is_word k__law_is_word a__law_is_letter l__law_is_letter c__law_is_letter k__law_is_letter a__law_is_world l__law_is_world c__law_is_world k__law_is_world a__law_values l__law_values c__law_values k__law_values a__law_word l__law_word c__law_word k__law_word a_law l_law c_law k_law z_abs z_all z_bool z_int z_isinstance z_len z_list z_max z_min z_range z_set z_sorted z_str z_tuple s_SIGNS x1_InvalidWorld x2_InvalidWorld x3_InvalidWorld x4_InvalidWorld x5_InvalidWorld x1_TermError x2_TermError x3_TermError x4_TermError x5_TermError m_InvalidWorld_InvalidWorld m_InvalidWorld_TermError m_TermError_InvalidWorld m_TermError_TermError
  exact fin_of nl hfa T.f_law (fun _ _ _ _ _ _ _ => rfl) (fun base => cl_law T) rfl says
end K01

open PySem PySem.W PyProof.Rows L2 Vm
set_option maxRecDepth 100000 in
set_option maxHeartbeats 0 in
theorem PySem.Challenge.cw_endlessterms_k01_worlds_judged_holds : PySem.Challenge.rw_endlessterms_k01_worlds_judged.Holds := by
  w_on; o_law; k_head; (case hw => w_witness2)
  k_fill
  refine walk_law (k := 9) (l := PySem.Challenge.rw_endlessterms_k01_worlds_judged) rfl rfl ⟨rfl, by decide, by decide⟩ (fun w h Y => PySem.W.kIn_of Y) ?F
  case F =>
    intro w mg fa h KX G hmg
    refine' K01.fin KX G hmg ?nl ?a_is_integer ?l_is_integer ?c_is_integer ?k_is_integer ?a_is_from ?l_is_from ?c_is_from ?k_is_from ?a_is_word ?l_is_word ?c_is_word ?k_is_word ?a_is_ascending ?l_is_ascending ?c_is_ascending ?k_is_ascending ?a_is_letter_form ?l_is_letter_form ?c_is_letter_form ?k_is_letter_form ?a_told_letters_ok ?l_told_letters_ok ?c_told_letters_ok ?k_told_letters_ok ?a_world_ok ?l_world_ok ?c_world_ok ?k_world_ok ?a_has_letter ?l_has_letter ?c_has_letter ?k_has_letter ?a_need_world ?l_need_world ?c_need_world ?k_need_world ?a_is_world ?l_is_world ?c_is_world ?k_is_world ?a_is_letter ?l_is_letter ?c_is_letter ?k_is_letter ?a_some_terms ?l_some_terms ?c_some_terms ?k_some_terms ?a_some_systems ?l_some_systems ?c_some_systems ?k_some_systems ?a__law_spring ?l__law_spring ?c__law_spring ?k__law_spring ?a__law_take ?l__law_take ?c__law_take ?k__law_take ?a__law_pick ?l__law_pick ?c__law_pick ?k__law_pick ?a__law_same ?l__law_same ?c__law_same ?k__law_same ?a__law_is_word ?l__law_is_word ?c__law_is_word ?k__law_is_word ?a__law_is_letter ?l__law_is_letter ?c__law_is_letter ?k__law_is_letter ?a__law_is_world ?l__law_is_world ?c__law_is_world ?k__law_is_world ?a__law_values ?l__law_values ?c__law_values ?k__law_values ?a__law_word ?l__law_word ?c__law_word ?k__law_word ?a_law ?l_law ?c_law ?k_law ?z_abs ?z_all ?z_bool ?z_int ?z_isinstance ?z_len ?z_list ?z_max ?z_min ?z_range ?z_set ?z_sorted ?z_str ?z_tuple ?s_SIGNS ?x1_InvalidWorld ?x2_InvalidWorld ?x3_InvalidWorld ?x4_InvalidWorld ?x5_InvalidWorld ?x1_TermError ?x2_TermError ?x3_TermError ?x4_TermError ?x5_TermError ?m_InvalidWorld_InvalidWorld ?m_InvalidWorld_TermError ?m_TermError_InvalidWorld ?m_TermError_TermError
    (case nl => kernel_rfl)
    (case a_is_integer => k_is)
    (case l_is_integer => k_is)
    (case c_is_integer => k_is)
    (case k_is_integer => k_is)
    (case a_is_from => k_is)
    (case l_is_from => k_is)
    (case c_is_from => k_is)
    (case k_is_from => k_is)
    (case a_is_word => k_is)
    (case l_is_word => k_is)
    (case c_is_word => k_is)
    (case k_is_word => k_is)
    (case a_is_ascending => k_is)
    (case l_is_ascending => k_is)
    (case c_is_ascending => k_is)
    (case k_is_ascending => k_is)
    (case a_is_letter_form => k_is)
    (case l_is_letter_form => k_is)
    (case c_is_letter_form => k_is)
    (case k_is_letter_form => k_is)
    (case a_told_letters_ok => k_is)
    (case l_told_letters_ok => k_is)
    (case c_told_letters_ok => k_is)
    (case k_told_letters_ok => k_is)
    (case a_world_ok => k_is)
    (case l_world_ok => k_is)
    (case c_world_ok => k_is)
    (case k_world_ok => k_is)
    (case a_has_letter => k_is)
    (case l_has_letter => k_is)
    (case c_has_letter => k_is)
    (case k_has_letter => k_is)
    (case a_need_world => k_is)
    (case l_need_world => k_is)
    (case c_need_world => k_is)
    (case k_need_world => k_is)
    (case a_is_world => k_is)
    (case l_is_world => k_is)
    (case c_is_world => k_is)
    (case k_is_world => k_is)
    (case a_is_letter => k_is)
    (case l_is_letter => k_is)
    (case c_is_letter => k_is)
    (case k_is_letter => k_is)
    (case a_some_terms => k_is)
    (case l_some_terms => k_is)
    (case c_some_terms => k_is)
    (case k_some_terms => k_is)
    (case a_some_systems => k_is)
    (case l_some_systems => k_is)
    (case c_some_systems => k_is)
    (case k_some_systems => k_is)
    (case a__law_spring => k_is)
    (case l__law_spring => k_is)
    (case c__law_spring => k_is)
    (case k__law_spring => k_is)
    (case a__law_take => k_is)
    (case l__law_take => k_is)
    (case c__law_take => k_is)
    (case k__law_take => k_is)
    (case a__law_pick => k_is)
    (case l__law_pick => k_is)
    (case c__law_pick => k_is)
    (case k__law_pick => k_is)
    (case a__law_same => k_is)
    (case l__law_same => k_is)
    (case c__law_same => k_is)
    (case k__law_same => k_is)
    (case a__law_is_word => k_is)
    (case l__law_is_word => k_is)
    (case c__law_is_word => k_is)
    (case k__law_is_word => k_is)
    (case a__law_is_letter => k_is)
    (case l__law_is_letter => k_is)
    (case c__law_is_letter => k_is)
    (case k__law_is_letter => k_is)
    (case a__law_is_world => k_is)
    (case l__law_is_world => k_is)
    (case c__law_is_world => k_is)
    (case k__law_is_world => k_is)
    (case a__law_values => k_is)
    (case l__law_values => k_is)
    (case c__law_values => k_is)
    (case k__law_values => k_is)
    (case a__law_word => k_is)
    (case l__law_word => k_is)
    (case c__law_word => k_is)
    (case k__law_word => k_is)
    (case a_law => k_is)
    (case l_law => k_is)
    (case c_law => k_is)
    (case k_law => k_is)
    (case z_abs => k_is)
    (case z_all => k_is)
    (case z_bool => k_is)
    (case z_int => k_is)
    (case z_isinstance => k_is)
    (case z_len => k_is)
    (case z_list => k_is)
    (case z_max => k_is)
    (case z_min => k_is)
    (case z_range => k_is)
    (case z_set => k_is)
    (case z_sorted => k_is)
    (case z_str => k_is)
    (case z_tuple => k_is)
    (case s_SIGNS => k_is)
    (case x1_InvalidWorld => k_is)
    (case x2_InvalidWorld => kernel_rfl)
    (case x3_InvalidWorld => k_is)
    (case x4_InvalidWorld => k_is)
    (case x5_InvalidWorld => k_is)
    (case x1_TermError => k_is)
    (case x2_TermError => kernel_rfl)
    (case x3_TermError => k_is)
    (case x4_TermError => k_is)
    (case x5_TermError => k_is)
    (case m_InvalidWorld_InvalidWorld => kernel_rfl)
    (case m_InvalidWorld_TermError => kernel_rfl)
    (case m_TermError_InvalidWorld => kernel_rfl)
    (case m_TermError_TermError => kernel_rfl)
end
